import PyProof.Rows.All
import PyProof.ReprRoads
import Wide.All
import OpenK.AllK
import Wide.FinOn
import HandS.ForMost
import HandS.ForExc
import HandS.TryMany
import HandS.CallSlots
import KE.DataMinMax
import KE.DataCmp
import KE.KTupSum
import KE.DataFind
import HandS.ExcInit
import HandS.ExcField
import HandS.WordsExc
import HandS.TupAny
import HandS.Deep
import HandS.Style
import HandS.IsInst
import HandS.Conv
import HandS.Text
import PyProof.Rows.SeqMore
import HandS.SortInts
import PyProof.ListStr
import KE.GoesNew
import HandS.Iter
import HandS.SetFor
import KE.GoesEnum
import HandS.HeadEnd
import HandS.Set
import HandS.Strs
import PyProof.Rows.SetFrom
import HandS.ExcOwn
import HandS.TupMul
import HandS.WordsDict
import HandS.Replace
import KE.SortData
import HandS.NoneIn
import KE.DataAny
import KE.KDictZip
import PySem.Challenge.RW_cardhands_k19_whole_ranks_bent
import PyProof.P3Eq
set_option Elab.async false
set_option linter.all false
set_option maxRecDepth 100000
set_option maxHeartbeats 4000000
namespace Cd
open PySem L2

inductive Val where
  | p (d : PyData)
  | ref (n : Nat)
inductive Fld where
  | p (d : PyData)
  | l (ts : List PyData)
inductive Ob where
  | lst (ts : List PyData)
  | dct (kvs : List (Key × Fld))
  | ins (c : Nat) (fs : List Fld)
  | dead
abbrev Hi := List Ob
abbrev Ev := List (Option Val)
structure Ex where
  c : Nat
  fs : List PyData
/-- what an evaluation comes to -/
inductive R (α : Type) where
  | ok (a : α) (h : Hi)
  | exc (e : Ex) (h : Hi)
  | stuck
def R.bind {α β : Type} (r : R α) (k : α → Hi → R β) : R β :=
  match r with
  | .ok a h => k a h
  | .exc e h => .exc e h
  | .stuck => .stuck
def ofO {α : Type} (o : Option α) (h : Hi) : R α := match o with
  | some a => .ok a h
  | none => .stuck
@[simp] theorem R.bind_ok {α β : Type} (a : α) (h : Hi) (k : α → Hi → R β) : (R.ok a h).bind k = k a h := rfl
@[simp] theorem R.bind_exc {α β : Type} (e : Ex) (h : Hi) (k : α → Hi → R β) : (R.exc e h : R α).bind k = .exc e h := rfl
@[simp] theorem R.bind_stuck {α β : Type} (k : α → Hi → R β) : (R.stuck : R α).bind k = .stuck := rfl
@[simp] theorem ofO_some {α : Type} (a : α) (h : Hi) : ofO (some a) h = .ok a h := rfl
@[simp] theorem ofO_none {α : Type} (h : Hi) : ofO (none : Option α) h = .stuck := rfl

/-- unary operations on data -/
inductive O1 where
  | len | sum | max | min | any | all | sorted | sortedSet | lenSet | tuple | list | neg | isNone | notNone | rev | abs | truth | join0 | split0 | int
  | range | rangeT | lenDict | revT | sortedT | lenSetI
  | joinS (sep : Str) | indexS (t : Str) | strI
  | anyI | sortedDict | sumL | sortedD | words | repr
  | lookI (kvs : List (Int × PyData))
  | inRg (a b : Int)
  | uptoS (z : Str)
  | revFrom (n : Nat)
  | look (kvs : List (List Int × Int))
/-- binary operations -/
inductive O2 where
  | add | addI | cat | sub | mul | rep | fdiv | mod | eq | ne | lt | le | gt | ge | isIn | notIn | ix | count | index | max2 | min2 | join | split | starts | from_ | upto | zipL | enumL | countT | countN | indexN | repT | indexT | inS | notInS | catT
/-- ternary: a slice -/
inductive O3 where
  | slice (l u : Bool)
  | sliceS (l u : Bool)
  | leLe
/-- what a name may be asked to be -/
inductive Ty where
  | int | bool | str | tuple | list | exc (c : Nat)
/-- what a suite does with e.at: return e.at; x = (text, e.at) -/
inductive AtK where
  | ret (j : Nat)
  | set (j i : Nat) (z : Str)
inductive Tg where
  | name (i : Nat)
  | tup (ts : List Tg)

mutual
inductive E where
  | var (i : Nat)
  | lit (d : PyData)
  | fld (i j : Nat)
  | key (i : Nat) (k : Key)
  | op1 (o : O1) (a : E)
  | op2 (o : O2) (a b : E)
  | op2b (o : O2) (a b : E)
  | op2d (o : O2) (a b : E)
  | op3 (o : O3) (a b c : E)
  | op3b (o : O3) (a b c : E)
  | and_ (a b : E)
  | or_ (a b : E)
  | not_ (a : E)
  | ite (c : Te) (a b : E)
  | tup (es : List E)
  | lst (es : List E)
  | call (f : Nat) (es : List E)
  | meth (c f i : Nat) (es : List E)
  | new (c f : Nat) (es : List E)
  | comp (own : List Nat) (t : Tg) (src : Src) (cond : List Te) (elt : E)
  | compB (i : Nat) (own : List Nat) (t : Tg) (cond : List Te) (elt : E)
  | compI (i : Nat) (own : List Nat) (t : Tg) (cond : List Te) (elt : E)
  | catB (i : Nat) (b : E)
  | isi (a : E) (t : Ty)
  | dget (i : Nat) (k : E)
  /-- k in d, k not in d -/
  | dhas (i : Nat) (k : E) (neg : Bool)
  | dzip (a b : E)
  | dgetD (i : Nat) (k d : E)
  | din (i : Nat) (neg : Bool) (k : E)
  | pop (i : Nat) (a : E)
  | freeze (i : Nat)
  | mk (e : E)
  | excFld (i j : Nat)
inductive Te where
  | val (e : E)
  | and_ (a b : Te)
  | or_ (a b : Te)
  | not_ (a : Te)
inductive Src where
  | e (a : E)
  | rng1 (a : E)
  | rng2 (a b : E)
  | rng3 (a b : E)
  | enum (a : E)
  | zip (a b : E)
  | items (i : Nat)
end
inductive S where
  | set (i : Nat) (e : E)
  | newD (i : Nat) (kvs : List (Key × Bool × E))
  | set2 (i j : Nat) (a b : E)
  | set3 (i j k : Nat) (a b c : E)
  | unpack (t : Tg) (e : E)
  | setFld (i j : Nat) (e : E)
  | newFld (i j : Nat) (e : E)
  | setKey (i : Nat) (k : Key) (e : E)
  | newKey (i : Nat) (k : Key) (e : E)
  | setKeyD (i : Nat) (k e : E)
  | setIx (p : E) (i e : E)
  | setIx2 (i j : Nat) (k l a b : E)
  | app (p : E) (e : E)
  | ext (p : E) (e : E)
  | expr (e : E)
  | if_ (c : Te) (a b : List S)
  | for_ (t : Tg) (src : Src) (body : List S)
  | while_ (c : Te) (body : List S)
  | ret (e : E)
  | brk | cont | pass
  | raise_ (c : Nat) (es : List E)
  /-- raise C(e), C's own __init__ keeps its argument; f: a def of the small program that stands for it -/
  | raiseI (c f : Nat) (e : E)
  /-- try: body; except C as e: k of e.at -/
  | tryAt (body : List S) (c : Nat) (k : AtK)
  | forB (t : Tg) (i : Nat) (body : List S)
  | try_ (body : List S) (hs : List (Nat × List S))

def intsD : List PyData → Option (List Int)
  | [] => some []
  | .int i :: r => (intsD r).map (i :: ·)
  | _ :: _ => none
def boolsD : List PyData → Option (List Bool)
  | [] => some []
  | .bool b :: r => (boolsD r).map (b :: ·)
  | _ :: _ => none
def strsD : List PyData → Option (List Str)
  | [] => some []
  | .str x :: r => (strsD r).map (x :: ·)
  | _ :: _ => none
def insI (x : Int) : List Int → List Int
  | [] => [x]
  | y :: r => if x ≤ y then x :: y :: r else y :: insI x r
def sortI : List Int → List Int
  | [] => []
  | x :: r => insI x (sortI r)
def dedup {α : Type} [DecidableEq α] : List α → List α
  | [] => []
  | x :: r => if x ∈ r then dedup r else x :: dedup r
def truthD : PyData → Option Bool
  | .none => some false
  | .bool b => some b
  | .int i => some (i != 0)
  | .list ts => some (!ts.isEmpty)
  | .tuple ts => some (!ts.isEmpty)
  | .str x => if x.length ≤ sizeLine then some ((x.length : Int) != 0) else none
  | _ => none
def isNoneD : PyData → Bool
  | .none => true
  | _ => false
def cmpOk (x y : PyData) : Bool := PySem.W.alike x y && !isNoneD x && decide (min x.depth y.depth ≤ 64)
def maxOk (ts : List PyData) : Bool := ts.all (fun a => ts.all (PySem.W.alike a)) && ts.all (fun a => !isNoneD a) && decide (PyData.depthAll ts ≤ 60)
def seqD : PyData → Option (List PyData)
  | .list ts => some ts
  | .tuple ts => some ts
  | _ => none
def scalD : PyData → Bool
  | .none => true
  | .bool _ => true
  | .int _ => true
  | .str _ => true
  | _ => false
/-- x == y -/
def eqD (x y : PyData) : Option Bool :=
  if scalD x && scalD y then some (PyData.eqv x y)
  else if SeqAt.shaped x && SeqAt.shaped y then some (PyData.eqv x y) else none
/-- x in the items -/
def inD (x : PyData) (ys : List PyData) : Option Bool :=
  if x.plain && PyData.plainAll ys && decide (x.depth ≤ 60) then some (ys.any fun y => PyData.eqv y x) else none
def small64 (i : Int) : Bool := decide (i.natAbs < 18446744073709551616)
def strAt (x : Str) (i : Int) : Option PyData := if x.length ≤ sizeLine then (atI x.cps.toList i).map fun c => .str ⟨#[c]⟩ else none
def lenD : PyData → Option PyData
  | .list ts => some (.int ts.length)
  | .tuple ts => some (.int ts.length)
  | .str x => if x.length ≤ sizeLine then some (.int x.length) else none
  | _ => none
def sumD : PyData → Option PyData
  | .list ts => (intsD ts).map fun ns => .int ns.sum
  | .tuple ts => (intsD ts).map fun ns => .int ns.sum
  | _ => none
def maxS : List PyData → Option PyData
  | x :: xs => if maxOk (x :: xs) then some (PySem.W.maxD x xs) else none
  | [] => none
def minS : List PyData → Option PyData
  | x :: xs => if maxOk (x :: xs) then some (PySem.W.minD x xs) else none
  | [] => none
def anyS : PyData → Option PyData
  | .list ts => (boolsD ts).map fun bs => .bool (bs.any id)
  | _ => none
/-- any(ints) -/
def anyIS : PyData → Option PyData
  | .list ts => (intsD ts).map fun ns => .bool (ns.any (· != 0))
  | _ => none
def allS : PyData → Option PyData
  | .list ts => (boolsD ts).map fun bs => .bool (bs.all id)
  | _ => none
def pairsD : List PyData → Option (List (Int × Int))
  | [] => some []
  | .tuple [.int a, .int b] :: r => (pairsD r).map ((a, b) :: ·)
  | _ :: _ => none
def pairD (p : Int × Int) : PyData := .tuple [.int p.1, .int p.2]
/-- p ≤ q, the first ahead of the second -/
def leP (p q : Int × Int) : Bool := decide (p.1 < q.1) || (decide (p.1 = q.1) && decide (p.2 ≤ q.2))
def insP (x : Int × Int) : List (Int × Int) → List (Int × Int)
  | [] => [x]
  | y :: r => if leP x y then x :: y :: r else y :: insP x r
def sortP : List (Int × Int) → List (Int × Int)
  | [] => []
  | x :: r => insP x (sortP r)
def sortedS : PyData → Option PyData
  | .list ts => match intsD ts with
    | some ns => some (.list ((sortI ns).map .int))
    | none => (pairsD ts).map fun ps => .list ((sortP ps).map pairD)
  | .tuple ts => (intsD ts).map fun ns => .list ((sortI ns).map .int)
  | _ => none
def sortedSetS : PyData → Option PyData
  | .list ts => (intsD ts).bind fun ns => if ns.length < 64 then some (.list ((sortI (dedup ns)).map .int)) else none
  | _ => none
/-- rows of ints, the first ahead of the second -/
def leL : List Int → List Int → Bool
  | [], _ => true
  | _ :: _, [] => false
  | x :: xs, y :: ys => decide (x < y) || (decide (x = y) && leL xs ys)
def insT (x : List Int) : List (List Int) → List (List Int)
  | [] => [x]
  | y :: r => if leL x y then x :: y :: r else y :: insT x r
def sortT : List (List Int) → List (List Int)
  | [] => []
  | x :: r => insT x (sortT r)
def tupsD : List PyData → Option (List (List Int))
  | [] => some []
  | .tuple (d :: ds) :: r => (intsD (d :: ds)).bind fun ns => (tupsD r).map (ns :: ·)
  | _ :: _ => none
def tupD (ns : List Int) : PyData := .tuple (ns.map .int)
/-- sorted(a list of tuples of ints, none empty) -/
def sortedTS : PyData → Option PyData
  | .list ts => (tupsD ts).map fun rs => .list ((sortT rs).map tupD)
  | _ => none
/-- sep.join(a list of texts) -/
def joinSD (sep : Str) : PyData → Option PyData
  | .list ts => (strsD ts).bind fun ys => if (ys.map (·.length)).sum + ys.length * sep.length ≤ 16777216 then some (.str (Txt.join sep ys)) else none
  | _ => none
/-- t.index(a text that is in it) -/
def indexSD (t : Str) : PyData → Option PyData
  | .str b => match Builtin.Str.occurrences t b 0 t.length 1 with
    | i :: _ => some (.int ((i : Nat) : Int))
    | [] => none
  | _ => none
/-- len(set(ints)) -/
def lenSetIS : PyData → Option PyData
  | .list ts => (intsD ts).bind fun xs => if xs.length < 64 then some (.int (dedup xs).length) else none
  | _ => none
def tupleS : PyData → Option PyData
  | .list ts => some (.tuple ts)
  | .tuple ts => some (.tuple ts)
  | _ => none
def listS : PyData → Option PyData
  | .list ts => some (.list ts)
  | .tuple ts => some (.list ts)
  | .str x => if x.cps.size ≤ sizeLine then some (.list (x.cps.toList.map fun c => .str ⟨#[c]⟩)) else none
  | _ => none
def negS : PyData → Option PyData
  | .int i => some (.int (-i))
  | _ => none
def absS : PyData → Option PyData
  | .int i => some (.int (if i < 0 then -i else i))
  | _ => none
def revS : PyData → Option PyData
  | .list ts => some (.list ts.reverse)
  | _ => none
def revTS : PyData → Option PyData
  | .tuple ts => some (.tuple ts.reverse)
  | _ => none
/-- len(set(texts)) -/
def lenSetS : PyData → Option PyData
  | .list ts => (strsD ts).bind fun xs => if xs.length < 1000 then some (.int (dedup xs.reverse).length) else none
  | _ => none
/-- a module's table at a tuple of ints -/
def lookS (kvs : List (List Int × Int)) : PyData → Option PyData
  | .tuple ts => (intsD ts).bind fun ks => (kvs.lookup ks).map .int
  | _ => none
def rangeD (lo : Int) (n : Nat) (c : Int) : List PyData := (List.range n).map fun (i : Nat) => .int (lo + (i : Int) * c)
def rngOk (i : Int) : Bool := decide (i.natAbs < 4611686018427387904)
def rangeS : PyData → Option PyData
  | .int j => if rngOk j && decide (j.toNat ≤ 16777216) then some (.list (rangeD 0 j.toNat 1)) else none
  | _ => none
def fromS : PyData → PyData → Option PyData
  | .int i, .int j => if rngOk i && rngOk j && decide ((j - i).toNat ≤ 16777216) then some (.list (rangeD i (j - i).toNat 1)) else none
  | _, _ => none
def key0 : PyData → Option Key
  | .int i => some (.inl i)
  | .str x => some (.inr x)
  | _ => none
def pairKeys : List PyData → Option (List Key)
  | [] => some []
  | .tuple [k, _] :: r => (key0 k).bind fun q => (pairKeys r).map (q :: ·)
  | _ :: _ => none
/-- len(dict(pairs)) -/
def lenDictS : PyData → Option PyData
  | .list ts => (pairKeys ts).map fun ks => .int (dedup ks).length
  | _ => none
def intKeys : List Key → Option (List Int)
  | [] => some []
  | .inl i :: r => (intKeys r).map (i :: ·)
  | .inr _ :: _ => none
/-- sorted(dict(pairs)), the keys ints -/
def sortedDictS : PyData → Option PyData
  | .list ts => (pairKeys ts).bind fun ks => (intKeys ks).bind fun ns => if ns.length < 64 then some (.list ((sortI (dedup ns)).map .int)) else none
  | _ => none
/-- int(x) of a truth or an int -/
def intS : PyData → Option PyData
  | .int i => some (.int i)
  | .bool k => some (.int (if k then 1 else 0))
  | _ => none
def _root_.PySem.PyData.isSeqD : PyData → Bool
  | .list _ => true
  | .tuple _ => true
  | _ => false
/-- repr(x) of a list or a tuple, no dict within; of None -/
def reprS (d : PyData) : Option PyData :=
  if isNoneD d = true then some (.str "None") else if (d.isSeqD && d.showable && !d.hasDict && decide (d.depth ≤ 50) && decide (d.shown.length ≤ sizeLine)) = true then some (.str d.shown) else none
def listsD : List PyData → Option (List PyData)
  | [] => some []
  | .list ts :: r => (listsD r).map (ts ++ ·)
  | _ :: _ => none
/-- sum(lists, []) -/
def sumLS : PyData → Option PyData
  | .list ts => (listsD ts).bind fun us => if us.length < 1000 then some (.list us) else none
  | _ => none
def tupNe : PyData → Bool
  | .tuple (_ :: _) => true
  | _ => false
def leD (a b : PyData) : Bool := !PySem.W.dataLt b a
/-- sorted(a list of tuples, none empty) -/
def sortedDS : PyData → Option PyData
  | .list ts => if (ts.all (fun a => ts.all (PySem.W.alike a)) && ts.all tupNe && decide (PyData.depthAll ts ≤ 60)) then some (.list (ts.mergeSort leD)) else none
  | .tuple ts => if (ts.all (fun a => ts.all (PySem.W.alike a)) && ts.all tupNe && decide (PyData.depthAll ts ≤ 60)) then some (.list (ts.mergeSort leD)) else none
  | _ => none
/-- a dict display that is looked up at once -/
def lookIS (kvs : List (Int × PyData)) : PyData → Option PyData
  | .int k => kvs.lookup k
  | _ => none
/-- a tuple's items from the place n on, back to the first -/
def revFromS (n : Nat) : PyData → Option PyData
  | .tuple ts => if n < ts.length then some (.tuple (ts.take (n + 1)).reverse) else none
  | _ => none
/-- text.split() -/
def wordsS : PyData → Option PyData
  | .str x => if x.length + 2 ≤ sizeLine then some (.list ((Txt.words x).map .str)) else none
  | _ => none
/-- x in range(a, b), x an int -/
def inRgS (a b : Int) : PyData → Option PyData
  | .int x => some (.bool (decide (a ≤ x ∧ x < b)))
  | _ => none
/-- z[:n] of a text that is told -/
def uptoSD (z : Str) : PyData → Option PyData
  | .int n => if z.length ≤ sizeLine then some (.str (L2.cutS z none (some n))) else none
  | _ => none
/-- str(n) -/
def strIS : PyData → Option PyData
  | .int i => if i.natAbs.log2 < 1920 then some (.str (toString i)) else none
  | _ => none
def opf1 (o : O1) (d : PyData) : Option PyData := match o with
  | .strI => strIS d
  | .int => intS d
  | .repr => reprS d
  | .sumL => sumLS d
  | .sortedD => sortedDS d
  | .lookI kvs => lookIS kvs d
  | .inRg a b => inRgS a b d
  | .uptoS z => uptoSD z d
  | .words => wordsS d
  | .revFrom n => revFromS n d
  | .range => rangeS d
  | .rangeT => (rangeS d).bind tupleS
  | .lenDict => lenDictS d
  | .lenSet => lenSetS d
  | .revT => revTS d
  | .look kvs => lookS kvs d
  | .sortedT => sortedTS d
  | .lenSetI => lenSetIS d
  | .joinS sep => joinSD sep d
  | .anyI => anyIS d
  | .sortedDict => sortedDictS d
  | .indexS t => indexSD t d
  | .len => lenD d
  | .sum => sumD d
  | .max => (seqD d).bind maxS
  | .min => (seqD d).bind minS
  | .any => anyS d
  | .all => allS d
  | .sorted => sortedS d
  | .sortedSet => sortedSetS d
  | .tuple => tupleS d
  | .list => listS d
  | .neg => negS d
  | .isNone => some (.bool (isNoneD d))
  | .notNone => some (.bool (!isNoneD d))
  | .rev => revS d
  | .abs => absS d
  | _ => none
def addD : PyData → PyData → Option PyData
  | .int i, .int j => some (.int (i + j))
  | .str x, .str y => if x.length + y.length ≤ sizeLine then some (.str (x ++ y)) else none
  | .tuple xs, .tuple ys => if xs.length + ys.length ≤ sizeLine then some (.tuple (xs ++ ys)) else none
  | .list xs, .list ys => if xs.length + ys.length ≤ sizeLine then some (.list (xs ++ ys)) else none
  | _, _ => none
def addI : PyData → PyData → Option PyData
  | .int i, .int j => some (.int (i + j))
  | _, _ => none
def catD : PyData → PyData → Option PyData
  | .list xs, .list ys => if xs.length + ys.length ≤ sizeLine then some (.list (xs ++ ys)) else none
  | _, _ => none
def subD : PyData → PyData → Option PyData
  | .int i, .int j => some (.int (i - j))
  | _, _ => none
def mulD : PyData → PyData → Option PyData
  | .int i, .int j => if small64 i || small64 j then some (.int (i * j)) else none
  | _, _ => none
def repD : PyData → PyData → Option PyData
  | .list xs, .int k => if decide (k.natAbs < 9223372036854775808) && decide (xs.length * k.toNat ≤ sizeLine) then some (.list (List.replicate k.toNat xs).flatten) else none
  | _, _ => none
def repTD : PyData → PyData → Option PyData
  | .tuple xs, .int k => if !xs.isEmpty && decide (2 ≤ k) && decide (k ≤ 1000) && decide (xs.length ≤ 1000) then some (.tuple (List.replicate k.toNat xs).flatten) else none
  | _, _ => none
def fdivD : PyData → PyData → Option PyData
  | .int i, .int j => if decide (j ≠ 0) && decide (j.natAbs < 1073741824) then some (.int (i.fdiv j)) else none
  | _, _ => none
def modD : PyData → PyData → Option PyData
  | .int i, .int j => if j = 0 then none else some (.int (i.fmod j))
  | _, _ => none
/-- a comparison: of ints, or of data -/
def cmpD (p : Int → Int → Bool) (f : PyData → PyData → Bool) : PyData → PyData → Option PyData
  | .int i, .int j => some (.bool (p i j))
  | x, y => if cmpOk x y then some (.bool (f x y)) else none
def ixD : PyData → PyData → Option PyData
  | .list xs, .int i => atI xs i
  | .tuple xs, .int i => atI xs i
  | .str x, .int i => strAt x i
  | _, _ => none
def max2D : PyData → PyData → Option PyData
  | .int i, .int j => some (.int (if j > i then j else i))
  | _, _ => none
def min2D : PyData → PyData → Option PyData
  | .int i, .int j => some (.int (if j < i then j else i))
  | _, _ => none
def countD : PyData → PyData → Option PyData
  | .list xs, y => if scalD y && xs.all scalD then some (.int (xs.countP fun x => PyData.eqv x y)) else none
  | _, _ => none
/-- tuples whose methods may be called: their object is known -/
def needT : List PyData → Bool
  | .bool _ :: _ => true
  | .tuple _ :: _ => true
  | _ => false
def countTD : PyData → PyData → Option PyData
  | .tuple xs, y => if scalD y && xs.all scalD then some (.int (xs.countP fun x => PyData.eqv x y)) else none
  | _, _ => none
/-- the first place of an equal one -/
def placeD (ds : List PyData) (d : PyData) : Option PyData :=
  if PyData.plainAll ds && d.plain && decide (d.depth ≤ 60) then (ds.findIdx? fun z => PyData.eqv z d).map fun j : Nat => .int (j : Int) else none
def indexD : PyData → PyData → Option PyData
  | .list ds, d => placeD ds d
  | _, _ => none
def indexTD : PyData → PyData → Option PyData
  | .tuple ds, d => placeD ds d
  | _, _ => none
def zipD : List PyData → List PyData → List PyData
  | x :: xs, y :: ys => .tuple [x, y] :: zipD xs ys
  | _, _ => []
def itemsOf : PyData → Option (List PyData)
  | .list ts => some ts
  | .tuple ts => some ts
  | .str x => some (x.cps.toList.map fun c => .str ⟨#[c]⟩)
  | _ => none
/-- tuple(zip(x, y)) -/
def zipTS (x y : PyData) : Option PyData := (itemsOf x).bind fun xs => (itemsOf y).bind fun ys => if xs.length < 1000 then some (.tuple (zipD xs ys)) else none
/-- text.startswith(text) -/
def startsD : PyData → PyData → Option PyData
  | .str x, .str y => some (.bool (Txt.startswith x y))
  | _, _ => none
/-- text.split(text) -/
def splitD : PyData → PyData → Option PyData
  | .str x, .str y => if (y.length == 0) = false ∧ x.length + 2 ≤ sizeLine then some (.list ((Txt.split x y).map .str)) else none
  | _, _ => none
/-- sep.join(texts), sep had -/
def joinVD : PyData → PyData → Option PyData
  | .str sep, d => joinSD sep d
  | _, _ => none
/-- text in text -/
def inSD : PyData → PyData → Option PyData
  | .str i, .str j => some (.bool (!(Builtin.Str.occurrences j i 0 j.length 1).isEmpty))
  | _, _ => none
/-- text + text, in a place that makes nothing -/
def catTD : PyData → PyData → Option PyData
  | .str x, .str y => if x.length + y.length ≤ sizeLine then some (.str (x ++ y)) else none
  | _, _ => none
/-- text not in text -/
def notInSD : PyData → PyData → Option PyData
  | .str i, .str j => some (.bool (!(!(Builtin.Str.occurrences j i 0 j.length 1).isEmpty)))
  | _, _ => none
def opf2 (o : O2) (x y : PyData) : Option PyData := match o with
  | .notInS => notInSD x y
  | .inS => inSD x y
  | .join => joinVD x y
  | .catT => catTD x y
  | .zipL => zipTS x y
  | .starts => startsD x y
  | .split => splitD x y
  | .index => indexD x y
  | .indexT => indexTD x y
  | .add => addD x y
  | .addI => addI x y
  | .cat => catD x y
  | .sub => subD x y
  | .mul => mulD x y
  | .rep => repD x y
  | .repT => repTD x y
  | .fdiv => fdivD x y
  | .mod => modD x y
  | .eq => (eqD x y).map .bool
  | .ne => (eqD x y).map fun b => .bool !b
  | .lt => cmpD (fun i j => decide (i < j)) (fun x y => PySem.W.dataLt x y) x y
  | .le => cmpD (fun i j => decide (i ≤ j)) (fun x y => !PySem.W.dataLt y x) x y
  | .gt => cmpD (fun i j => decide (j < i)) (fun x y => PySem.W.dataLt y x) x y
  | .ge => cmpD (fun i j => decide (j ≤ i)) (fun x y => !PySem.W.dataLt x y) x y
  | .isIn => (seqD y).bind fun ys => (inD x ys).map .bool
  | .notIn => (seqD y).bind fun ys => (inD x ys).map fun b => .bool !b
  | .ix => ixD x y
  | .max2 => max2D x y
  | .min2 => min2D x y
  | .count => countD x y
  | .from_ => fromS x y
  | .countT => countTD x y
  | .countN => (match x with | .tuple ts => if needT ts then countTD x y else none | _ => none)
  | .indexN => (match x with | .tuple ts => if needT ts then indexTD x y else none | _ => none)
  | _ => none
def cutD (xs : List PyData) (lo hi : Option Int) : List PyData := (xs.drop (HT.sIx xs.length 0 lo)).take (HT.sIx xs.length xs.length hi - HT.sIx xs.length 0 lo)
def partD : Bool → PyData → Option (Option Int)
  | false, .none => some none
  | true, .int i => some (some i)
  | _, _ => none
def opf3 : O3 → PyData → PyData → PyData → Option PyData
  | .slice l u, .list xs, a, b => (partD l a).bind fun lo => (partD u b).map fun hi => .list (cutD xs lo hi)
  | .slice l u, .tuple xs, a, b => (partD l a).bind fun lo => (partD u b).map fun hi => .tuple (cutD xs lo hi)
  | .sliceS l u, .str x, a, b => if x.length ≤ sizeLine then (partD l a).bind fun lo => (partD u b).map fun hi => .str (L2.cutS x lo hi) else none
  | .leLe, x, y, z => match opf2 .le x y with
    | some (.bool true) => opf2 .le y z
    | some (.bool false) => some (.bool false)
    | _ => none
  | _, _, _, _ => none

def slot : Ev → Nat → Option Val
  | [], _ => none
  | v :: _, 0 => v
  | _ :: r, i + 1 => slot r i
def setSlot : Ev → Nat → Option Val → Ev
  | [], _, _ => []
  | _ :: r, 0, v => v :: r
  | x :: r, i + 1, v => x :: setSlot r i v
def wipeE (env : Ev) : List Nat → Ev
  | [] => env
  | v :: vs => setSlot (wipeE env vs) v none
mutual
def bindT : Tg → PyData → Ev → Option Ev
  | .name i, d, env => some (setSlot env i (some (.p d)))
  | .tup ts, .tuple ds, env => bindTs ts ds env
  | .tup _, _, _ => none
def bindTs : List Tg → List PyData → Ev → Option Ev
  | [], [], env => some env
  | t :: ts, d :: ds, env => (bindT t d env).bind (bindTs ts ds)
  | _, _, _ => none
end
def enumFrom (k : Nat) : List PyData → List PyData
  | [] => []
  | x :: r => .tuple [.int k, x] :: enumFrom (k + 1) r
def listAt (h : Hi) (n : Nat) : Option (List PyData) := match h[n]? with
  | some (.lst ts) => some ts
  | _ => none
def insAt (h : Hi) (n : Nat) : Option (Nat × List Fld) := match h[n]? with
  | some (.ins c fs) => some (c, fs)
  | _ => none
def dctAt (h : Hi) (n : Nat) : Option (List (Key × Fld)) := match h[n]? with
  | some (.dct kvs) => some kvs
  | _ => none
def slotRef (env : Ev) (i : Nat) : Option Nat := match slot env i with
  | some (.ref n) => some n
  | _ => none
def dctOf (env : Ev) (h : Hi) (i : Nat) : Option (Nat × List (Key × Fld)) := (slotRef env i).bind fun n => (dctAt h n).map fun kvs => (n, kvs)
def insOf (env : Ev) (h : Hi) (i : Nat) : Option (Nat × Nat × List Fld) := (slotRef env i).bind fun n => (insAt h n).map fun p => (n, p)
def lstOf (env : Ev) (h : Hi) (i : Nat) : Option (Nat × List PyData) := (slotRef env i).bind fun n => (listAt h n).map fun ts => (n, ts)
/-- what a list source holds that is not a value: a list of the heap, a list of an instance's or a dict's own -/
def peek (env : Ev) (h : Hi) : E → Option PyData
  | .var i => (lstOf env h i).map fun p => .list p.2
  | .fld i j => (insOf env h i).bind fun p => match p.2.2[j]? with | some (.l ts) => some (.list ts) | _ => none
  | .key i k => (dctOf env h i).bind fun p => match p.2.lookup k with | some (.l ts) => some (.list ts) | _ => none
  | _ => none
def unP (v : Val) (h : Hi) : R PyData := match v with
  | .p d => .ok d h
  | .ref _ => .stuck
def bor (env : Ev) (h : Hi) (a : E) (r : R Val) : R PyData := match peek env h a with
  | some d => .ok d h
  | none => r.bind unP
def keyOf : PyData → Option Key
  | .int i => some (.inl i)
  | .str x => some (.inr x)
  | _ => none
def compL (elt : Ev → Hi → R PyData) (cond : Ev → Hi → R Bool) (bt : PyData → Ev → Option Ev) (env : Ev) : List PyData → Hi → R (List PyData)
  | [], h => .ok [] h
  | x :: r, h => match bt x env with
    | none => .stuck
    | some env1 => (cond env1 h).bind fun b h1 =>
      if b then (elt env1 h1).bind fun y h2 => (compL elt cond bt env r h2).bind fun ys h3 => .ok (y :: ys) h3
      else compL elt cond bt env r h1
def isTy : Ty → PyData → Bool
  | .int, .int _ => true
  | .int, .bool _ => true
  | .bool, .bool _ => true
  | .str, .str _ => true
  | .tuple, .tuple _ => true
  | .list, .list _ => true
  | _, _ => false
def andK (ev : Hi → R Val) (v : Val) (h : Hi) : R Val := match v with
  | .p (.bool true) => ev h
  | .p (.bool false) => .ok (.p (.bool false)) h
  | _ => .stuck
def orK (ev : Hi → R Val) (v : Val) (h : Hi) : R Val := match v with
  | .p (.bool true) => .ok (.p (.bool true)) h
  | .p (.bool false) => ev h
  | _ => .stuck
def notK (v : Val) (h : Hi) : R Val := match v with
  | .p (.bool b) => .ok (.p (.bool !b)) h
  | _ => .stuck
def ifK {α : Type} (a b : Hi → R α) (k : Bool) (h : Hi) : R α := if k = true then a h else b h
def newK (n : Nat) (v : Val) (h : Hi) : R Val := match v with
  | .p .none => .ok (.ref n) h
  | _ => .stuck
def noX {α : Type} (r : R α) : R α := match r with
  | .ok a h => .ok a h
  | _ => .stuck
def mkK (d : PyData) (h : Hi) : R Val := match d with
  | .list ts => .ok (.ref h.length) (h ++ [.lst ts])
  | _ => .stuck
def compK (r : R (List PyData)) : R Val := match r with
  | .ok ys h => .ok (.p (.list ys)) h
  | _ => .stuck
def rng1K (d : PyData) (h : Hi) : R (List PyData) := match d with
  | .int j => if rngOk j = true then .ok (rangeD 0 j.toNat 1) h else .stuck
  | _ => .stuck
def rng2K (d e : PyData) (h : Hi) : R (List PyData) := match d, e with
  | .int i, .int j => if rngOk i = true ∧ rngOk j = true then .ok (rangeD i (j - i).toNat 1) h else .stuck
  | _, _ => .stuck
def rng3K (d e : PyData) (h : Hi) : R (List PyData) := match d, e with
  | .int i, .int j => if rngOk i = true ∧ rngOk j = true then .ok (rangeD i (i - j).toNat (-1)) h else .stuck
  | _, _ => .stuck
def fldK : Option Fld → Option Val
  | some (.p d) => some (.p d)
  | _ => none
def dgetK (env : Ev) (i : Nat) (d : PyData) (h : Hi) : R Val := match dctOf env h i, keyOf d with
  | some p, some k => ofO (fldK (p.2.lookup k)) h
  | _, _ => .stuck
def dhasK (env : Ev) (i : Nat) (neg : Bool) (d : PyData) (h : Hi) : R Val := match dctOf env h i, keyOf d with
  | some p, some k => .ok (.p (.bool (if neg then (p.2.lookup k).isNone else (p.2.lookup k).isSome))) h
  | _, _ => .stuck
def dgetDK (env : Ev) (i : Nat) (d e : PyData) (h : Hi) : R Val := match dctOf env h i, keyOf d with
  | some p, some k => match p.2.lookup k with
    | none => .ok (.p e) h
    | some f => ofO (fldK (some f)) h
  | _, _ => .stuck
def zipKV : List Key → List PyData → List (Key × Fld)
  | k :: ks, y :: ys => (k, .p y) :: zipKV ks ys
  | _, _ => []
def keysD : List PyData → Option (List Key)
  | [] => some []
  | d :: r => (key0 d).bind fun k => (keysD r).map (k :: ·)
/-- dict(zip(keys, a tuple)), no key twice -/
def dzipK (d e : PyData) (h : Hi) : R Val := match itemsOf d, e with
  | some xs, .tuple ys => match keysD xs with
    | some ks => if ks.length < 60 ∧ (dedup ks).length = ks.length then .ok (.ref h.length) (h ++ [.dct (zipKV ks ys)]) else .stuck
    | none => .stuck
  | _, _ => .stuck
def dinK (env : Ev) (i : Nat) (neg : Bool) (d : PyData) (h : Hi) : R Val := match dctOf env h i, keyOf d with
  | some p, some k => .ok (.p (.bool (if neg = true then !(p.2.lookup k).isSome else (p.2.lookup k).isSome))) h
  | _, _ => .stuck
def popK (env : Ev) (i : Nat) (d : PyData) (h : Hi) : R Val := match lstOf env h i, d with
  | some p, .int k => match ixN p.2.length k with
    | some j => match p.2[j]? with
      | some x => if k.natAbs < 9223372036854775808 then .ok (.p x) (h.set p.1 (.lst (p.2.eraseIdx j))) else .stuck
      | none => .stuck
    | none => .stuck
  | _, _ => .stuck
def freezeK (env : Ev) (i : Nat) (h : Hi) : R Val := match lstOf env h i with
  | some p => .ok (.p (.list p.2)) (h.set p.1 .dead)
  | none => .stuck
/-- an own list and a list: a new one -/
def catBK (env : Ev) (i : Nat) (y : PyData) (h : Hi) : R Val := match lstOf env h i with
  | none => .stuck
  | some p => ofO ((catD (.list p.2) y).map .p) h
def methOk (env : Ev) (h : Hi) (c i : Nat) : Option Nat := match insOf env h i with
  | some p => if p.2.1 = c then some p.1 else none
  | none => none
def compK2 (run : List PyData → Hi → R (List PyData)) (items : List PyData) (h : Hi) : R Val := if items.length < sizeLine then compK (run items h) else .stuck
abbrev Calls := Nat → List Val → Hi → R Val
mutual
def sameD : PyData → PyData → Bool
  | .none, .none => true
  | .bool a, .bool b => a == b
  | .int a, .int b => decide (a = b)
  | .str a, .str b => decide (a = b)
  | .list xs, .list ys => sameL xs ys
  | .tuple xs, .tuple ys => sameL xs ys
  | _, _ => false
def sameL : List PyData → List PyData → Bool
  | [], [] => true
  | x :: xs, y :: ys => sameD x y && sameL xs ys
  | _, _ => false
end
/-- the list at n is still ts -/
def stillL (h : Hi) (n : Nat) (ts : List PyData) : Bool := match listAt h n with
  | some us => sameL us ts
  | none => false
def keyD : Key → PyData
  | .inl i => .int i
  | .inr x => .str x
def itemsD : List (Key × Fld) → Option (List PyData)
  | [] => some []
  | (k, .p d) :: r => if scalD d then (itemsD r).map (.tuple [keyD k, d] :: ·) else none
  | (_, .l _) :: _ => none
/-- a comprehension over a list of the heap, that its parts leave alone -/
def compLB (ok : Hi → Bool) (elt : Ev → Hi → R PyData) (cond : Ev → Hi → R Bool) (bt : PyData → Ev → Option Ev) (env : Ev) : List PyData → Hi → R (List PyData)
  | [], h => if ok h then .ok [] h else .stuck
  | x :: r, h => if ok h then match bt x env with
    | none => .stuck
    | some env1 => (cond env1 h).bind fun b h1 =>
      if b then (elt env1 h1).bind fun y h2 => (compLB ok elt cond bt env r h2).bind fun ys h3 => .ok (y :: ys) h3
      else compLB ok elt cond bt env r h1
    else .stuck
mutual
def evalE (cf : Calls) (env : Ev) : E → Hi → R Val
  | .var i, h => ofO (slot env i) h
  | .lit d, h => .ok (.p d) h
  | .fld i j, h => ofO ((insOf env h i).bind fun p => fldK p.2.2[j]?) h
  | .key i k, h => ofO ((dctOf env h i).bind fun p => fldK (p.2.lookup k)) h
  | .op1 o a, h => (bor env h a (evalE cf env a h)).bind fun x h1 => ofO ((opf1 o x).map .p) h1
  | .op2 o a b, h => ((evalE cf env a h).bind unP).bind fun x h1 => (bor env h1 b (evalE cf env b h1)).bind fun y h2 => ofO ((opf2 o x y).map .p) h2
  | .op2b o a b, h => (bor env h a (evalE cf env a h)).bind fun x h1 => ((evalE cf env b h1).bind unP).bind fun y h2 => ofO ((opf2 o x y).map .p) h2
  | .op2d o a b, h => ((evalE cf env a h).bind unP).bind fun x h1 => ((evalE cf env b h1).bind unP).bind fun y h2 => ofO ((opf2 o x y).map .p) h2
  | .op3 o a b c, h => ((evalE cf env a h).bind unP).bind fun x h1 => ((evalE cf env b h1).bind unP).bind fun y h2 => ((evalE cf env c h2).bind unP).bind fun z h3 => ofO ((opf3 o x y z).map .p) h3
  | .op3b o a b c, h => (bor env h a (evalE cf env a h)).bind fun x h1 => ((evalE cf env b h1).bind unP).bind fun y h2 => ((evalE cf env c h2).bind unP).bind fun z h3 => ofO ((opf3 o x y z).map .p) h3
  | .and_ a b, h => (evalE cf env a h).bind fun v h1 => andK (fun h2 => evalE cf env b h2) v h1
  | .or_ a b, h => (evalE cf env a h).bind fun v h1 => orK (fun h2 => evalE cf env b h2) v h1
  | .not_ a, h => (evalE cf env a h).bind notK
  | .ite c a b, h => (evalT cf env c h).bind fun k h1 => ifK (fun h2 => evalE cf env a h2) (fun h2 => evalE cf env b h2) k h1
  | .tup es, h => (evalPs cf env es h).bind fun ds h1 => .ok (.p (.tuple ds)) h1
  | .lst es, h => (evalPs cf env es h).bind fun ds h1 => .ok (.p (.list ds)) h1
  | .call f es, h => (evalEs cf env es h).bind fun vs h1 => cf f vs h1
  | .meth c f i es, h => match methOk env h c i with
    | none => .stuck
    | some n => (evalEs cf env es h).bind fun vs h1 => cf f (.ref n :: vs) h1
  | .new c f es, h => (evalEs cf env es h).bind fun vs h1 => (noX (cf f (.ref h1.length :: vs) (h1 ++ [.ins c []]))).bind fun v h2 => newK h1.length v h2
  | .comp own t src cond elt, h => (evalSrc cf env src h).bind fun items h1 =>
    compK2 (compL (fun e h => (evalE cf e elt h).bind unP) (fun e h => evalTs cf e cond h) (fun x e => bindT t x e) (wipeE env own)) items h1
  | .compB i own t cond elt, h => match lstOf env h i with
    | none => .stuck
    | some p => compK2 (compLB (fun h => stillL h p.1 p.2) (fun e h => (evalE cf e elt h).bind unP) (fun e h => evalTs cf e cond h) (fun x e => bindT t x e) (wipeE env own)) p.2 h
  | .compI i own t cond elt, h => match dctOf env h i with
    | none => .stuck
    | some p => match itemsD p.2 with
      | none => .stuck
      | some items => (compK2 (compL (fun e h => (evalE cf e elt h).bind unP) (fun e h => evalTs cf e cond h) (fun x e => bindT t x e) (wipeE env own)) items (h.set p.1 .dead)).bind fun v h2 => .ok v (h2.set p.1 (.dct p.2))
  | .isi a t, h => ((evalE cf env a h).bind unP).bind fun d h1 => .ok (.p (.bool (isTy t d))) h1
  | .dhas i k neg, h => ((evalE cf env k h).bind unP).bind fun d h1 => dhasK env i neg d h1
  | .dget i k, h => ((evalE cf env k h).bind unP).bind fun d h1 => dgetK env i d h1
  | .dzip a b, h => ((evalE cf env a h).bind unP).bind fun d h1 => ((evalE cf env b h1).bind unP).bind fun e h2 => dzipK d e h2
  | .dgetD i k d, h => ((evalE cf env k h).bind unP).bind fun kd h1 => ((evalE cf env d h1).bind unP).bind fun dd h2 => dgetDK env i kd dd h2
  | .din i neg k, h => ((evalE cf env k h).bind unP).bind fun kd h1 => dinK env i neg kd h1
  | .pop i a, h => match lstOf env h i with
    | none => .stuck
    | some _ => ((evalE cf env a h).bind unP).bind fun d h1 => popK env i d h1
  | .freeze i, h => freezeK env i h
  | .catB i b, h => match lstOf env h i with
    | none => .stuck
    | some _ => ((evalE cf env b h).bind unP).bind fun y h1 => catBK env i y h1
  | .mk e, h => ((evalE cf env e h).bind unP).bind mkK
  | .excFld _ _, _ => .stuck
def evalT (cf : Calls) (env : Ev) : Te → Hi → R Bool
  | .and_ a b, h => (evalT cf env a h).bind fun k h1 => ifK (fun h2 => evalT cf env b h2) (fun h2 => .ok false h2) k h1
  | .or_ a b, h => (evalT cf env a h).bind fun k h1 => ifK (fun h2 => .ok true h2) (fun h2 => evalT cf env b h2) k h1
  | .not_ a, h => (evalT cf env a h).bind fun k h1 => .ok (!k) h1
  | .val e, h => (bor env h e (evalE cf env e h)).bind fun d h1 => ofO (truthD d) h1
def evalTs (cf : Calls) (env : Ev) : List Te → Hi → R Bool
  | [], h => .ok true h
  | t :: ts, h => (evalT cf env t h).bind fun k h1 => ifK (fun h2 => evalTs cf env ts h2) (fun h2 => .ok false h2) k h1
def evalEs (cf : Calls) (env : Ev) : List E → Hi → R (List Val)
  | [], h => .ok [] h
  | e :: es, h => (evalE cf env e h).bind fun v h1 => (evalEs cf env es h1).bind fun vs h2 => .ok (v :: vs) h2
def evalPs (cf : Calls) (env : Ev) : List E → Hi → R (List PyData)
  | [], h => .ok [] h
  | e :: es, h => ((evalE cf env e h).bind unP).bind fun v h1 => (evalPs cf env es h1).bind fun vs h2 => .ok (v :: vs) h2
def evalSrc (cf : Calls) (env : Ev) : Src → Hi → R (List PyData)
  | .e a, h => ((evalE cf env a h).bind unP).bind fun d h1 => ofO (itemsOf d) h1
  | .rng1 a, h => ((evalE cf env a h).bind unP).bind rng1K
  | .rng2 a b, h => ((evalE cf env a h).bind unP).bind fun d h1 => ((evalE cf env b h1).bind unP).bind fun e h2 => rng2K d e h2
  | .rng3 a b, h => ((evalE cf env a h).bind unP).bind fun d h1 => ((evalE cf env b h1).bind unP).bind fun e h2 => rng3K d e h2
  | .enum a, h => ((evalE cf env a h).bind unP).bind fun d h1 => ofO ((itemsOf d).map (enumFrom 0)) h1
  | .zip a b, h => ((evalE cf env a h).bind unP).bind fun d h1 => ((evalE cf env b h1).bind unP).bind fun e h2 => ofO ((itemsOf d).bind fun xs => (itemsOf e).map fun ys => zipD xs ys) h2
  | .items _, _ => .stuck
end
end Cd

namespace Cd
open PySem L2
inductive Fl where
  | nx | bk | ct
  | rt (v : Val)
inductive RS where
  | ok (f : Fl) (env : Ev) (h : Hi)
  | exc (e : Ex) (env : Ev) (h : Hi)
  | stuck
def RS.bind (r : RS) (k : Ev → Hi → RS) : RS := match r with
  | .ok .nx env h => k env h
  | .ok f env h => .ok f env h
  | .exc e env h => .exc e env h
  | .stuck => .stuck
/-- go on from an expression's end -/
def R.toS {α : Type} (r : R α) (env : Ev) (k : α → Hi → RS) : RS := match r with
  | .ok a h => k a h
  | .exc e h => .exc e env h
  | .stuck => .stuck
@[simp] theorem RS.bind_nx (env : Ev) (h : Hi) (k : Ev → Hi → RS) : (RS.ok .nx env h).bind k = k env h := rfl
@[simp] theorem RS.bind_bk (env : Ev) (h : Hi) (k : Ev → Hi → RS) : (RS.ok .bk env h).bind k = .ok .bk env h := rfl
@[simp] theorem RS.bind_ct (env : Ev) (h : Hi) (k : Ev → Hi → RS) : (RS.ok .ct env h).bind k = .ok .ct env h := rfl
@[simp] theorem RS.bind_rt (v : Val) (env : Ev) (h : Hi) (k : Ev → Hi → RS) : (RS.ok (.rt v) env h).bind k = .ok (.rt v) env h := rfl
@[simp] theorem RS.bind_exc (e : Ex) (env : Ev) (h : Hi) (k : Ev → Hi → RS) : (RS.exc e env h).bind k = .exc e env h := rfl
@[simp] theorem R.toS_ok {α : Type} (a : α) (h : Hi) (env : Ev) (k : α → Hi → RS) : (R.ok a h).toS env k = k a h := rfl
@[simp] theorem R.toS_exc {α : Type} (e : Ex) (h : Hi) (env : Ev) (k : α → Hi → RS) : (R.exc e h : R α).toS env k = .exc e env h := rfl
def getL (env : Ev) (h : Hi) (p : E) : Option (List PyData) := match peek env h p with
  | some (.list ts) => some ts
  | _ => none
def setKV (kvs : List (Key × Fld)) (k : Key) (f : Fld) : List (Key × Fld) := match kvs with
  | [] => [(k, f)]
  | (q, g) :: r => if q = k then (q, f) :: r else (q, g) :: setKV r k f
def storeL (env : Ev) (h : Hi) (p : E) (ts : List PyData) : Option Hi := match p with
  | .var i => (slotRef env i).map fun n => h.set n (.lst ts)
  | .fld i j => (slotRef env i).bind fun n => (insAt h n).map fun q => h.set n (.ins q.1 (q.2.set j (.l ts)))
  | .key i k => (slotRef env i).bind fun n => (dctAt h n).map fun kvs => h.set n (.dct (setKV kvs k (.l ts)))
  | _ => none
def putFl (fs : List Fld) (j : Nat) (f : Fld) : Option (List Fld) := if j < fs.length then some (fs.set j f) else if j = fs.length then some (fs ++ [f]) else none
def ofH (env : Ev) : Option Hi → RS
  | some h => .ok .nx env h
  | none => .stuck
def listD : PyData → Option (List PyData)
  | .list ts => some ts
  | _ => none
def setFldH (env : Ev) (i j : Nat) (f : Fld) (h : Hi) : Option Hi := (insOf env h i).bind fun p => (putFl p.2.2 j f).map fun fs => h.set p.1 (.ins p.2.1 fs)
def setKeyH (env : Ev) (i : Nat) (k : Key) (f : Fld) (h : Hi) : Option Hi := (dctOf env h i).bind fun p => if p.2.length < 1000 then some (h.set p.1 (.dct (setKV p.2 k f))) else none
def setIxH (env : Ev) (p : E) (k d : PyData) (h : Hi) : Option Hi := match k with
  | .int k => (getL env h p).bind fun ts => (ixN ts.length k).bind fun j => storeL env h p (ts.set j d)
  | _ => none
def appH (env : Ev) (p : E) (d : PyData) (h : Hi) : Option Hi := (getL env h p).bind fun ts => if ts.length < sizeLine then storeL env h p (ts ++ [d]) else none
def extH (env : Ev) (p : E) (d : PyData) (h : Hi) : Option Hi := (listD d).bind fun ds => (getL env h p).bind fun ts => if ts.length + ds.length ≤ sizeLine then storeL env h p (ts ++ ds) else none
/-- a store of a thing that is had: the index, then the store -/
def stIx (ek : Ev → Hi → R Val) (p : E) (d : PyData) (env : Ev) (h : Hi) : RS := match getL env h p with
  | none => .stuck
  | some _ => ((ek env h).bind unP).toS env fun k h2 => ofH env (setIxH env p k d h2)
def forL (body : Ev → Hi → RS) (bt : PyData → Ev → Option Ev) : List PyData → Ev → Hi → RS
  | [], env, h => .ok .nx env h
  | x :: r, env, h => match bt x env with
    | none => .stuck
    | some env1 => match body env1 h with
      | .ok .nx env2 h2 => forL body bt r env2 h2
      | .ok .ct env2 h2 => forL body bt r env2 h2
      | .ok .bk env2 h2 => .ok .nx env2 h2
      | .ok (.rt v) env2 h2 => .ok (.rt v) env2 h2
      | .exc e env2 h2 => .exc e env2 h2
      | .stuck => .stuck
def whileL (c : Ev → Hi → R Bool) (body : Ev → Hi → RS) : Nat → Ev → Hi → RS
  | 0, _, _ => .stuck
  | n + 1, env, h => (c env h).toS env fun b h1 => if b then
      match body env h1 with
      | .ok .nx env2 h2 => whileL c body n env2 h2
      | .ok .ct env2 h2 => whileL c body n env2 h2
      | .ok .bk env2 h2 => .ok .nx env2 h2
      | .ok (.rt v) env2 h2 => .ok (.rt v) env2 h2
      | .exc e env2 h2 => .exc e env2 h2
      | .stuck => .stuck
    else .ok .nx env h1
/-- a for over a list of the heap, that the body leaves alone -/
def forLB (ok : Hi → Bool) (body : Ev → Hi → RS) (bt : PyData → Ev → Option Ev) : List PyData → Ev → Hi → RS
  | [], env, h => if ok h then .ok .nx env h else .stuck
  | x :: r, env, h => if ok h then match bt x env with
    | none => .stuck
    | some env1 => match body env1 h with
      | .ok .nx env2 h2 => forLB ok body bt r env2 h2
      | .ok .ct env2 h2 => forLB ok body bt r env2 h2
      | .ok .bk env2 h2 => .ok .nx env2 h2
      | .ok (.rt v) env2 h2 => .ok (.rt v) env2 h2
      | .exc e env2 h2 => .exc e env2 h2
      | .stuck => .stuck
    else .stuck
def wFuel : Nat := 1000000
/-- the classes of refusals: 0 CardError, 1 BadCards, 2 BadRank, 3 BadDeed, 4 Over -/
def subC (c d : Nat) : Bool := c == d || (d == 0 && decide (c ≤ 4))
def evalKVs (cf : Calls) (env : Ev) : List (Key × Bool × E) → List (Key × Fld) → Hi → R (List (Key × Fld))
  | [], acc, h => .ok acc h
  | (k, b, e) :: r, acc, h => ((evalE cf env e h).bind unP).bind fun d h1 =>
    if b then match d with
      | .list ts => evalKVs cf env r (setKV acc k (.l ts)) h1
      | _ => .stuck
    else evalKVs cf env r (setKV acc k (.p d)) h1
def atK (k : AtK) (e : Ex) (env : Ev) (h : Hi) : RS := match e.fs, k with
  | [x], .ret j => if j < env.length then .ok (.rt (.p x)) env h else .stuck
  | [x], .set j i z => if j < env.length then .ok .nx (setSlot (setSlot env i (some (.p (.tuple [.str z, x])))) j none) h else .stuck
  | _, _ => .stuck
mutual
def evalS (cf : Calls) : S → Ev → Hi → RS
  | .set i e, env, h => (evalE cf env e h).toS env fun v h1 => .ok .nx (setSlot env i (some v)) h1
  | .newD i kvs, env, h => (evalKVs cf env kvs [] h).toS env fun es h1 => .ok .nx (setSlot env i (some (.ref h1.length))) (h1 ++ [.dct es])
  | .set2 i j a b, env, h => (evalE cf env a h).toS env fun v h1 => (evalE cf env b h1).toS env fun w h2 => .ok .nx (setSlot (setSlot env i (some v)) j (some w)) h2
  | .set3 i j l a b c, env, h => (evalE cf env a h).toS env fun u h1 => (evalE cf env b h1).toS env fun v h2 => (evalE cf env c h2).toS env fun w h3 => .ok .nx (setSlot (setSlot (setSlot env i (some u)) j (some v)) l (some w)) h3
  | .unpack t e, env, h => ((evalE cf env e h).bind unP).toS env fun d h1 => match bindT t d env with
    | some env1 => .ok .nx env1 h1
    | none => .stuck
  | .setFld i j e, env, h => ((evalE cf env e h).bind unP).toS env fun d h1 => ofH env (setFldH env i j (.p d) h1)
  | .newFld i j e, env, h => ((evalE cf env e h).bind unP).toS env fun d h1 => ofH env ((listD d).bind fun ts => setFldH env i j (.l ts) h1)
  | .setKey i k e, env, h => ((evalE cf env e h).bind unP).toS env fun d h1 => ofH env (setKeyH env i k (.p d) h1)
  | .newKey i k e, env, h => ((evalE cf env e h).bind unP).toS env fun d h1 => ofH env ((listD d).bind fun ts => setKeyH env i k (.l ts) h1)
  | .setKeyD i k e, env, h => ((evalE cf env e h).bind unP).toS env fun d h1 => ((evalE cf env k h1).bind unP).toS env fun kd h2 => ofH env ((keyOf kd).bind fun q => setKeyH env i q (.p d) h2)
  | .setIx p i e, env, h => ((evalE cf env e h).bind unP).toS env fun d h1 => match getL env h1 p with
    | none => .stuck
    | some _ => ((evalE cf env i h1).bind unP).toS env fun k h2 => ofH env (setIxH env p k d h2)
  | .setIx2 i j k l a b, env, h => ((evalE cf env a h).bind unP).toS env fun d h1 => ((evalE cf env b h1).bind unP).toS env fun d2 h2 =>
    (stIx (fun env h => evalE cf env k h) (.var i) d env h2).bind fun env2 h3 => stIx (fun env h => evalE cf env l h) (.var j) d2 env2 h3
  | .app p e, env, h => match getL env h p with
    | none => .stuck
    | some _ => ((evalE cf env e h).bind unP).toS env fun d h1 => ofH env (appH env p d h1)
  | .ext p e, env, h => match getL env h p with
    | none => .stuck
    | some _ => ((evalE cf env e h).bind unP).toS env fun d h1 => ofH env (extH env p d h1)
  | .expr e, env, h => (evalE cf env e h).toS env fun _ h1 => .ok .nx env h1
  | .if_ c a b, env, h => (evalT cf env c h).toS env fun k h1 => if k then evalSs cf a env h1 else evalSs cf b env h1
  | .for_ t src body, env, h => (evalSrc cf env src h).toS env fun items h1 => forL (evalSs cf body) (bindT t) items env h1
  | .forB t i body, env, h => match lstOf env h i with
    | none => .stuck
    | some p => forLB (fun h => stillL h p.1 p.2) (evalSs cf body) (bindT t) p.2 env h
  | .while_ c body, env, h => whileL (fun e h => evalT cf e c h) (evalSs cf body) wFuel env h
  | .ret e, env, h => (evalE cf env e h).toS env fun v h1 => .ok (.rt v) env h1
  | .brk, env, h => .ok .bk env h
  | .cont, env, h => .ok .ct env h
  | .pass, env, h => .ok .nx env h
  | .raise_ c es, env, h => (evalPs cf env es h).toS env fun ds h1 => .exc ⟨c, ds⟩ env h1
  | .raiseI c f e, env, h => match cf f [.p .none] h with
    | .ok _ _ => ((evalE cf env e h).bind unP).toS env fun d h1 => .exc ⟨c, [d]⟩ env h1
    | _ => .stuck
  | .tryAt body c k, env, h => match evalSs cf body env h with
    | .exc e env1 h1 => if subC e.c c then atK k e env1 h1 else .exc e env1 h1
    | r => r
  | .try_ body hs, env, h => match evalSs cf body env h with
    | .exc e env1 h1 => evalHs cf hs e env1 h1
    | r => r
def evalSs (cf : Calls) : List S → Ev → Hi → RS
  | [], env, h => .ok .nx env h
  | s :: r, env, h => (evalS cf s env h).bind (evalSs cf r)
def evalHs (cf : Calls) : List (Nat × List S) → Ex → Ev → Hi → RS
  | [], e, env, h => .exc e env h
  | (c, body) :: r, e, env, h => if subC e.c c then evalSs cf body env h else evalHs cf r e env h
end
structure FnD where
  np : Nat
  ns : Nat
  body : List S
def startE (d : FnD) (args : List Val) : Ev := args.map some ++ List.replicate (d.ns - args.length) none
/-- behind a call: what it made goes, where it hands back data -/
def finF (n : Nat) : RS → R Val
  | .ok (.rt (.p d)) _ h => .ok (.p d) (h.take n)
  | .ok (.rt (.ref m)) _ h => .ok (.ref m) h
  | .ok .nx _ h => .ok (.p .none) (h.take n)
  | .ok _ _ _ => .stuck
  | .exc e _ h => .exc e (h.take n)
  | .stuck => .stuck
def callF (fns : Nat → Option FnD) : Nat → Calls
  | 0, _, _, _ => .stuck
  | n + 1, f, args, h => match fns f with
    | none => .stuck
    | some d => if args.length = d.np then finF h.length (evalSs (callF fns n) d.body (startE d args) h) else .stuck
end Cd
set_option Elab.async false
set_option linter.all false
set_option maxRecDepth 100000
set_option maxHeartbeats 4000000
namespace Cd
open PySem PySem.Spec PyProof.Rows L2

/-- a list that will not change: a frozen one, or one of the written part -/
def LQ (K : PySem.W.Frag) (F : Addr → Prop) (H : Hp) (a : Addr) (xs : List V) : Prop := (F a ∧ Rd H a (.lst xs)) ∨
  ∃ (o : Obj) (its : Array Value) (n : Nat), K.lookup a = some o ∧ o.cls = .type "list" ∧ o.dict = none ∧ o.data = .seq its n ∧ its.size ≤ sizeLine ∧ Vals xs its.toList
theorem LQ.sq {K : PySem.W.Frag} {F : Addr → Prop} {H : Hp} {a : Addr} {xs : List V} (h : LQ K F H a xs) : SqL K H a xs := h.elim (fun h => .inl h.2) .inr
/-- a tuple's object: no dict -/
def TupO (o : Obj) : Prop := o.cls = .type "tuple" ∧ o.dict = none
/-- a tuple whose object is known: laid so, or one of the written part -/
def StT (K : PySem.W.Frag) (H : Hp) (a : Addr) (xs : List V) : Prop := (∃ o, TupO o ∧ H a = some (.frz o (.tup xs))) ∨
  ∃ (o : Obj) (its : Array Value) (n : Nat), K.lookup a = some o ∧ o.cls = .type "tuple" ∧ o.dict = none ∧ o.data = .seq its n ∧ its.size ≤ sizeLine ∧ Vals xs its.toList
theorem StT.sq {K : PySem.W.Frag} {H : Hp} {a : Addr} {xs : List V} (h : StT K H a xs) : SqT K H a xs := by
  rcases h with ⟨o, _, h⟩ | ⟨o, its, n, h1, h2, _, h3⟩
  · exact .inl (.inr ⟨o, h⟩)
  · exact .inr ⟨o, its, n, h1, h2, h3⟩
theorem StT.of {K : PySem.W.Frag} {H : Hp} {a : Addr} {xs : List V} {o : Obj} (c : TupO o) (h : H a = some (.frz o (.tup xs))) : StT K H a xs := .inl ⟨o, c, h⟩
theorem needT_ints (ns : List Int) : needT (ns.map .int) = false := by cases ns <;> rfl
/-- a tuple, known where that is asked -/
def NdT (K : PySem.W.Frag) (H : Hp) (a : Addr) (xs : List V) (ts : List PyData) : Prop := SqT K H a xs ∧ (needT ts = true → StT K H a xs)
theorem NdT.st {K : PySem.W.Frag} {H : Hp} {a : Addr} {xs : List V} {ts : List PyData} (h : StT K H a xs) : NdT K H a xs ts := ⟨h.sq, fun _ => h⟩
theorem NdT.lo {K : PySem.W.Frag} {H : Hp} {a : Addr} {xs : List V} {ts : List PyData} (h : SqT K H a xs) (n : needT ts = false) : NdT K H a xs ts := ⟨h, fun z => by rw [n] at z; cases z⟩
mutual
inductive RF (K : PySem.W.Frag) (F : Addr → Prop) (H : Hp) : PyData → V → Prop
  | non : RF K F H .none .non
  | bl (b : Bool) : RF K F H (.bool b) (.bl b)
  | int (i : Int) : RF K F H (.int i) (.int i)
  | str (x : Str) : RF K F H (.str x) (.str x)
  | lst {a : Addr} {xs : List V} {ts : List PyData} : LQ K F H a xs → RFs K F H ts xs → RF K F H (.list ts) (.ref a)
  | tup {a : Addr} {xs : List V} {ts : List PyData} : NdT K H a xs ts → RFs K F H ts xs → RF K F H (.tuple ts) (.ref a)
inductive RFs (K : PySem.W.Frag) (F : Addr → Prop) (H : Hp) : List PyData → List V → Prop
  | nil : RFs K F H [] []
  | cons {d : PyData} {v : V} {ds : List PyData} {vs : List V} : RF K F H d v → RFs K F H ds vs → RFs K F H (d :: ds) (v :: vs)
end

/-- the state: where the objects stand, what will not change, the small heap, the abstract heap -/
structure Sx where
  φ : Nat → Nat → Addr
  F : Addr → Prop
  h : Hi
  H : Hp
  B : Addr → Prop

/-- what frozen things lean on is kept -/
structure KeepF (F : Addr → Prop) (H : Hp) (F' : Addr → Prop) (H' : Hp) : Prop where
  up : ∀ a, F a → F' a
  fz : ∀ a o, F a → H a = some o → H' a = some o
  tp : ∀ a xs, H a = some (.tup xs) → H' a = some (.tup xs)
  zz : ∀ a o u, H a = some (.frz o u) → H' a = some (.frz o u)
theorem KeepF.refl {F : Addr → Prop} {H : Hp} : KeepF F H F H := ⟨fun _ h => h, fun _ _ _ h => h, fun _ _ h => h, fun _ _ _ h => h⟩
theorem KeepF.trans {F F' F'' : Addr → Prop} {H H' H'' : Hp} (a : KeepF F H F' H') (b : KeepF F' H' F'' H'') : KeepF F H F'' H'' :=
  ⟨fun c h => b.up c (a.up c h), fun c o f h => b.fz c o (a.up c f) (a.fz c o f h), fun c xs h => b.tp c xs (a.tp c xs h), fun c o u h => b.zz c o u (a.zz c o u h)⟩
theorem KeepF.sqT {K : PySem.W.Frag} {F F' : Addr → Prop} {H H' : Hp} (k : KeepF F H F' H') {a : Addr} {xs : List V} (h : SqT K H a xs) : SqT K H' a xs := by
  rcases h with (h | ⟨o, h⟩) | h
  · exact .inl (.inl (k.tp _ _ h))
  · exact .inl (.inr ⟨o, k.zz _ _ _ h⟩)
  · exact .inr h
theorem KeepF.stT {K : PySem.W.Frag} {F F' : Addr → Prop} {H H' : Hp} (k : KeepF F H F' H') {a : Addr} {xs : List V} (h : StT K H a xs) : StT K H' a xs := h.imp (fun ⟨o, c, h⟩ => ⟨o, c, k.zz _ _ _ h⟩) fun h => h
theorem KeepF.ndT {K : PySem.W.Frag} {F F' : Addr → Prop} {H H' : Hp} (k : KeepF F H F' H') {a : Addr} {xs : List V} {ts : List PyData} (h : NdT K H a xs ts) : NdT K H' a xs ts := ⟨k.sqT h.1, fun z => k.stT (h.2 z)⟩
theorem KeepF.sqL {F F' : Addr → Prop} {H H' : Hp} (k : KeepF F H F' H') {a : Addr} {u : HO} (f : F a) (h : Rd H a u) : Rd H' a u := by
  rcases h with h | ⟨o, h⟩
  · exact .inl (k.fz _ _ f h)
  · exact .inr ⟨o, k.zz _ _ _ h⟩
theorem KeepF.lq {K : PySem.W.Frag} {F F' : Addr → Prop} {H H' : Hp} (k : KeepF F H F' H') {a : Addr} {xs : List V} (h : LQ K F H a xs) : LQ K F' H' a xs := h.elim (fun h => .inl ⟨k.up _ h.1, k.sqL h.1 h.2⟩) .inr
mutual
theorem RF.keep {K : PySem.W.Frag} {F F' : Addr → Prop} {H H' : Hp} (k : KeepF F H F' H') : ∀ {d : PyData} {v : V}, RF K F H d v → RF K F' H' d v
  | _, _, .non => .non
  | _, _, .bl b => .bl b
  | _, _, .int i => .int i
  | _, _, .str x => .str x
  | _, _, .lst s r => .lst (k.lq s) (RFs.keep k r)
  | _, _, .tup s r => .tup (k.ndT s) (RFs.keep k r)
theorem RFs.keep {K : PySem.W.Frag} {F F' : Addr → Prop} {H H' : Hp} (k : KeepF F H F' H') : ∀ {ds : List PyData} {vs : List V}, RFs K F H ds vs → RFs K F' H' ds vs
  | _, _, .nil => .nil
  | _, _, .cons r t => .cons (RF.keep k r) (RFs.keep k t)
end
mutual
/-- the same, forgetting what is frozen -/
theorem RF.loose {K : PySem.W.Frag} {F : Addr → Prop} {H : Hp} : ∀ {d : PyData} {v : V}, RF K F H d v → RF K (fun _ => True) H d v
  | _, _, .non => .non
  | _, _, .bl b => .bl b
  | _, _, .int i => .int i
  | _, _, .str x => .str x
  | _, _, .lst s r => .lst (s.elim (fun h => .inl ⟨trivial, h.2⟩) .inr) (RFs.loose r)
  | _, _, .tup s r => .tup s (RFs.loose r)
theorem RFs.loose {K : PySem.W.Frag} {F : Addr → Prop} {H : Hp} : ∀ {ds : List PyData} {vs : List V}, RFs K F H ds vs → RFs K (fun _ => True) H ds vs
  | _, _, .nil => .nil
  | _, _, .cons r t => .cons (RF.loose r) (RFs.loose t)
end
mutual
theorem RF.dp {K : PySem.W.Frag} {F : Addr → Prop} {H : Hp} : ∀ {d : PyData} {v : V}, RF K F H d v → Dp K H v d
  | _, _, .non => .non
  | _, _, .bl b => .bl b
  | _, _, .int i => .int i
  | _, _, .str x => .str x
  | _, _, .lst s r => .lst s.sq (RFs.dp r)
  | _, _, .tup s r => .tup s.1 (RFs.dp r)
theorem RFs.dp {K : PySem.W.Frag} {F : Addr → Prop} {H : Hp} : ∀ {ds : List PyData} {vs : List V}, RFs K F H ds vs → DpAll K H vs ds
  | _, _, .nil => .nil
  | _, _, .cons r t => .cons (RF.dp r) (RFs.dp t)
end
section
variable {K : PySem.W.Frag} {F F' : Addr → Prop} {H H' : Hp}
theorem RFs.length : ∀ {ds : List PyData} {vs : List V}, RFs K F H ds vs → ds.length = vs.length
  | _, _, .nil => rfl
  | _, _, .cons _ t => by simp [RFs.length t]
theorem RFs.append : ∀ {ds es : List PyData} {vs us : List V}, RFs K F H ds vs → RFs K F H es us → RFs K F H (ds ++ es) (vs ++ us)
  | _, _, _, _, .nil, s => s
  | _, _, _, _, .cons r t, s => .cons r (RFs.append t s)
theorem RFs.get : ∀ {ds : List PyData} {vs : List V} {i : Nat} {d : PyData}, RFs K F H ds vs → ds[i]? = some d → ∃ v, vs[i]? = some v ∧ RF K F H d v
  | _, _, _, _, .nil, e => by simp at e
  | _, _, 0, _, .cons r _, e => by simp at e; subst e; exact ⟨_, rfl, r⟩
  | _, _, i + 1, d, .cons _ t, e => by
    obtain ⟨v, h1, h2⟩ := RFs.get (i := i) (d := d) t (by simpa using e)
    exact ⟨v, by simpa using h1, h2⟩
theorem RFs.get' : ∀ {ds : List PyData} {vs : List V} {i : Nat} {v : V}, RFs K F H ds vs → vs[i]? = some v → ∃ d, ds[i]? = some d ∧ RF K F H d v
  | _, _, _, _, .nil, e => by simp at e
  | _, _, 0, _, .cons r _, e => by simp at e; subst e; exact ⟨_, rfl, r⟩
  | _, _, i + 1, v, .cons _ t, e => by
    obtain ⟨d, h1, h2⟩ := RFs.get' (i := i) (v := v) t (by simpa using e)
    exact ⟨d, by simpa using h1, h2⟩
theorem RFs.set {d : PyData} {v : V} (r : RF K F H d v) : ∀ {ds : List PyData} {vs : List V} (i : Nat), RFs K F H ds vs → RFs K F H (ds.set i d) (vs.set i v)
  | _, _, _, .nil => .nil
  | _, _, 0, .cons _ t => .cons r t
  | _, _, i + 1, .cons q t => .cons q (RFs.set r i t)
theorem RFs.take : ∀ {ds : List PyData} {vs : List V} (n : Nat), RFs K F H ds vs → RFs K F H (ds.take n) (vs.take n)
  | _, _, 0, _ => by simp; exact .nil
  | _, _, _ + 1, .nil => .nil
  | _, _, n + 1, .cons r t => .cons r (RFs.take n t)
theorem RFs.drop : ∀ {ds : List PyData} {vs : List V} (n : Nat), RFs K F H ds vs → RFs K F H (ds.drop n) (vs.drop n)
  | _, _, 0, r => r
  | _, _, _ + 1, .nil => .nil
  | _, _, n + 1, .cons _ t => RFs.drop n t
theorem RFs.eraseIdx : ∀ {ds : List PyData} {vs : List V} (n : Nat), RFs K F H ds vs → RFs K F H (ds.eraseIdx n) (vs.eraseIdx n)
  | _, _, _, .nil => .nil
  | _, _, 0, .cons _ t => t
  | _, _, n + 1, .cons r t => .cons r (RFs.eraseIdx n t)
theorem RFs.reverse : ∀ {ds : List PyData} {vs : List V}, RFs K F H ds vs → RFs K F H ds.reverse vs.reverse
  | _, _, .nil => .nil
  | _, _, .cons r t => by
    rw [List.reverse_cons, List.reverse_cons]
    exact (RFs.reverse t).append (.cons r .nil)
theorem RFs.rep (n : Nat) {ds : List PyData} {vs : List V} (r : RFs K F H ds vs) : RFs K F H (List.replicate n ds).flatten (List.replicate n vs).flatten := by
  induction n with
  | zero => exact .nil
  | succ n ih => rw [List.replicate_succ, List.replicate_succ, List.flatten_cons, List.flatten_cons]; exact r.append ih
theorem RFs.ofInts : ∀ (ns : List Int), RFs K F H (ns.map .int) (ns.map V.int)
  | [] => .nil
  | n :: r => .cons (.int n) (RFs.ofInts r)
theorem RFs.ints' : ∀ {ds : List PyData} {vs : List V} {ns : List Int}, RFs K F H ds vs → intsD ds = some ns → vs = ns.map V.int ∧ ds = ns.map .int
  | _, _, _, .nil, e => by simp [intsD] at e; subst e; exact ⟨rfl, rfl⟩
  | _, _, ns, .cons (d := d) (ds := ds) r t, e => by
    cases r with
    | int i =>
      simp only [intsD, Option.map_eq_some_iff] at e
      obtain ⟨ms, e1, rfl⟩ := e
      obtain ⟨h1, h2⟩ := RFs.ints' t e1
      exact ⟨by rw [h1]; rfl, by rw [h2]; rfl⟩
    | _ => simp [intsD] at e
theorem RFs.bools' : ∀ {ds : List PyData} {vs : List V} {ns : List Bool}, RFs K F H ds vs → boolsD ds = some ns → vs = ns.map V.bl ∧ ds = ns.map .bool
  | _, _, _, .nil, e => by simp [boolsD] at e; subst e; exact ⟨rfl, rfl⟩
  | _, _, ns, .cons (d := d) (ds := ds) r t, e => by
    cases r with
    | bl i =>
      simp only [boolsD, Option.map_eq_some_iff] at e
      obtain ⟨ms, e1, rfl⟩ := e
      obtain ⟨h1, h2⟩ := RFs.bools' t e1
      exact ⟨by rw [h1]; rfl, by rw [h2]; rfl⟩
    | _ => simp [boolsD] at e
theorem RF.int_inv {i : Int} {v : V} (r : RF K F H (.int i) v) : v = .int i := by cases r; rfl
theorem RF.bl_inv {b : Bool} {v : V} (r : RF K F H (.bool b) v) : v = .bl b := by cases r; rfl
theorem RF.non_inv {v : V} (r : RF K F H .none v) : v = .non := by cases r; rfl
theorem RF.str_inv {x : Str} {v : V} (r : RF K F H (.str x) v) : v = .str x := by cases r; rfl
theorem RF.lst_inv {ts : List PyData} {v : V} (r : RF K F H (.list ts) v) : ∃ a xs, v = .ref a ∧ LQ K F H a xs ∧ RFs K F H ts xs := by cases r with | lst s r => exact ⟨_, _, rfl, s, r⟩
theorem RF.tup_inv {ts : List PyData} {v : V} (r : RF K F H (.tuple ts) v) : ∃ a xs, v = .ref a ∧ SqT K H a xs ∧ RFs K F H ts xs := by cases r with | tup s r => exact ⟨_, _, rfl, s.1, r⟩
theorem RF.tup_invN {ts : List PyData} {v : V} (r : RF K F H (.tuple ts) v) : ∃ a xs, v = .ref a ∧ NdT K H a xs ts ∧ RFs K F H ts xs := by cases r with | tup s r => exact ⟨_, _, rfl, s, r⟩
end

/-- a field, or an entry, of the object n: data, or a list of its own -/
def FlR (K : PySem.W.Frag) (s : Sx) (n j : Nat) : Fld → V → Prop
  | .p d, v => RF K s.F s.H d v
  | .l ts, v => v = .ref (s.φ n (j + 1)) ∧ ∃ xs, s.H (s.φ n (j + 1)) = some (.lst xs) ∧ RFs K s.F s.H ts xs
/-- the classes: where they stand, their fields' names -/
abbrev CInf := Nat → Option (Addr × List Str)
def ObR (K : PySem.W.Frag) (CI : CInf) (s : Sx) (n : Nat) : Ob → Prop
  | .lst ts => ∃ xs, s.H (s.φ n 0) = some (.lst xs) ∧ RFs K s.F s.H ts xs
  | .dct kvs => ∃ es : List (Key × V), s.H (s.φ n 0) = some (.dK es) ∧ es.map (·.1) = kvs.map (·.1) ∧ (kvs.map (·.1)).Nodup ∧ ∀ j k f, kvs[j]? = some (k, f) → ∃ v, es[j]? = some (k, v) ∧ FlR K s n j f v
  | .ins c fs => ∃ C names dx es, CI c = some (C, names) ∧ s.H (s.φ n 0) = some (.ins C dx es) ∧ es.map (·.1) = names.take fs.length ∧ fs.length ≤ names.length ∧
      ∀ j f, fs[j]? = some f → ∃ x v, names[j]? = some x ∧ es[j]? = some (x, v) ∧ FlR K s n j f v
  | .dead => True
/-- a place that is in use -/
def Live (h : Hi) (n : Nat) : Nat → Prop
  | 0 => ∃ o, h[n]? = some o ∧ o ≠ .dead
  | j + 1 => (∃ c fs ts, h[n]? = some (.ins c fs) ∧ fs[j]? = some (.l ts)) ∨ (∃ kvs k ts, h[n]? = some (.dct kvs) ∧ kvs[j]? = some (k, .l ts))
structure HR (K : PySem.W.Frag) (CI : CInf) (s : Sx) : Prop where
  ob : ∀ n o, s.h[n]? = some o → ObR K CI s n o
  inj : ∀ n j m k, Live s.h n j → Live s.h m k → s.φ n j = s.φ m k → n = m ∧ j = k
  nf : ∀ n j, Live s.h n j → ¬ s.F (s.φ n j)
  bt : ∀ b, s.B b → (∀ n j, Live s.h n j → s.φ n j ≠ b) ∧ ¬ s.F b ∧ ∃ o, s.H b = some o
  ft : ∀ b, s.F b → ∃ o, s.H b = some o
/-- no place of the small heap -/
def NotLive (s : Sx) (b : Addr) : Prop := ∀ n j, Live s.h n j → s.φ n j ≠ b
structure Le (s s' : Sx) : Prop where
  len : s.h.length ≤ s'.h.length
  ph : ∀ n, n < s.h.length → s'.φ n 0 = s.φ n 0
  kf : KeepF s.F s.H s'.F s'.H
  fr : ∀ b, s.B b → s'.B b ∧ s'.H b = s.H b
theorem Le.refl (s : Sx) : Le s s := ⟨Nat.le_refl _, fun _ _ => rfl, .refl, fun _ h => ⟨h, rfl⟩⟩
theorem Le.trans {s s' s'' : Sx} (a : Le s s') (b : Le s' s'') : Le s s'' :=
  ⟨Nat.le_trans a.len b.len, fun n h => (b.ph n (Nat.lt_of_lt_of_le h a.len)).trans (a.ph n h), a.kf.trans b.kf, fun c h =>
    let ⟨h1, e1⟩ := a.fr c h
    let ⟨h2, e2⟩ := b.fr c h1
    ⟨h2, e2.trans e1⟩⟩
def VR (K : PySem.W.Frag) (s : Sx) : Val → V → Prop
  | .p d, x => RF K s.F s.H d x
  | .ref n, x => n < s.h.length ∧ x = .ref (s.φ n 0)
theorem VR.le {K : PySem.W.Frag} {s s' : Sx} (l : Le s s') {v : Val} {x : V} (r : VR K s v x) : VR K s' v x := by
  cases v with
  | p d => exact RF.keep l.kf r
  | ref n => exact ⟨Nat.lt_of_lt_of_le r.1 l.len, by rw [l.ph n r.1]; exact r.2⟩
structure ER (K : PySem.W.Frag) (s : Sx) (env : Ev) (σ : L2.St) : Prop where
  len : env.length = σ.length
  at_ : ∀ i v, slot env i = some v → ∃ x, σ[i]? = some (some x) ∧ VR K s v x
theorem ER.le {K : PySem.W.Frag} {s s' : Sx} (l : Le s s') {env : Ev} {σ : L2.St} (r : ER K s env σ) : ER K s' env σ :=
  ⟨r.len, fun i v e => let ⟨x, h1, h2⟩ := r.at_ i v e; ⟨x, h1, h2.le l⟩⟩
theorem slot_set_same : ∀ {env : Ev} {i : Nat} {v : Option Val}, i < env.length → slot (setSlot env i v) i = v
  | [], _, _, h => by simp at h
  | _ :: _, 0, _, _ => rfl
  | _ :: r, i + 1, v, h => slot_set_same (env := r) (i := i) (by simpa using h)
theorem slot_set_ne : ∀ {env : Ev} {i j : Nat} {v : Option Val}, j ≠ i → slot (setSlot env i v) j = slot env j
  | [], _, _, _, _ => rfl
  | _ :: _, 0, 0, _, h => absurd rfl h
  | _ :: _, 0, j + 1, _, _ => rfl
  | _ :: _, i + 1, 0, _, _ => rfl
  | _ :: r, i + 1, j + 1, v, h => slot_set_ne (env := r) (i := i) (j := j) (fun e => h (by rw [e]))
theorem setSlot_length : ∀ {env : Ev} {i : Nat} {v : Option Val}, (setSlot env i v).length = env.length
  | [], _, _ => rfl
  | _ :: _, 0, _ => rfl
  | _ :: r, i + 1, v => by simp [setSlot, setSlot_length (env := r) (i := i) (v := v)]
theorem slot_lt : ∀ {env : Ev} {i : Nat} {v : Val}, slot env i = some v → i < env.length
  | [], _, _, h => by simp [slot] at h
  | _ :: _, 0, _, _ => by simp
  | _ :: r, i + 1, v, h => by have := slot_lt (env := r) (i := i) (v := v) h; simp; omega
theorem setSlot_out : ∀ {env : Ev} {i : Nat} {v : Option Val}, env.length ≤ i → setSlot env i v = env
  | [], _, _, _ => rfl
  | _ :: _, 0, _, h => by simp at h
  | x :: r, i + 1, v, h => by simp [setSlot, setSlot_out (env := r) (i := i) (v := v) (by simpa using h)]
theorem ER.set {K : PySem.W.Frag} {s : Sx} {env : Ev} {σ : L2.St} (r : ER K s env σ) {i : Nat} {v : Val} {x : V} (q : VR K s v x) : ER K s (setSlot env i (some v)) (σ.set i (some x)) where
  len := by rw [setSlot_length, List.length_set]; exact r.len
  at_ := fun j w e => by
    by_cases hj : j = i
    · subst hj
      by_cases hl : j < env.length
      · rw [slot_set_same hl] at e
        cases e
        exact ⟨x, by rw [List.getElem?_set_self (by rw [← r.len]; exact hl)], q⟩
      · rw [setSlot_out (by omega)] at e
        exact absurd (slot_lt e) hl
    · rw [slot_set_ne hj] at e
      obtain ⟨y, h1, h2⟩ := r.at_ j w e
      exact ⟨y, by rw [List.getElem?_set_ne (Ne.symm hj)]; exact h1, h2⟩
theorem ER.unset {K : PySem.W.Frag} {s : Sx} {env : Ev} {σ : L2.St} (r : ER K s env σ) {i : Nat} : ER K s (setSlot env i none) (σ.set i none) where
  len := by rw [setSlot_length, List.length_set]; exact r.len
  at_ := fun j w e => by
    by_cases hj : j = i
    · subst hj
      by_cases hl : j < env.length
      · rw [slot_set_same hl] at e
        cases e
      · rw [setSlot_out (by omega)] at e
        exact absurd (slot_lt e) hl
    · rw [slot_set_ne hj] at e
      obtain ⟨y, h1, h2⟩ := r.at_ j w e
      exact ⟨y, by rw [List.getElem?_set_ne (Ne.symm hj)]; exact h1, h2⟩
theorem ER.wipe {K : PySem.W.Frag} {s : Sx} {env : Ev} {σ : L2.St} (r : ER K s env σ) : ∀ vs : List Nat, ER K s (wipeE env vs) (wipe σ vs)
  | [] => r
  | v :: vs => (ER.wipe r vs).unset
/-- a new thing at p -/
def Sx.put (s : Sx) (p : Addr) (o : HO) (fz : Bool) : Sx := { s with H := upd s.H p o, F := fun a => s.F a ∨ (fz = true ∧ a = p) }
theorem KeepF.put {F : Addr → Prop} {H : Hp} {p : Addr} {o : HO} {fz : Bool} (h : H p = none) : KeepF F H (fun a => F a ∨ (fz = true ∧ a = p)) (upd H p o) where
  up := fun _ f => .inl f
  fz := fun a o' _ e => by rw [upd_ne (ne_of_none e h)]; exact e
  tp := fun a o' e => by rw [upd_ne (ne_of_none e h)]; exact e
  zz := fun a o' _ e => by rw [upd_ne (ne_of_none e h)]; exact e
section
variable {K : PySem.W.Frag} {CI : CInf} {s : Sx}
/-- what stands at a place in use -/
theorem HR.there (h : HR K CI s) {n j : Nat} (l : Live s.h n j) : ∃ o, s.H (s.φ n j) = some o := by
  cases j with
  | zero =>
    obtain ⟨o, e, nd⟩ := l
    have q := h.ob n o e
    cases o with
    | lst ts => obtain ⟨xs, e, _⟩ := q; exact ⟨_, e⟩
    | dct kvs => obtain ⟨es, e, _⟩ := q; exact ⟨_, e⟩
    | ins c fs => obtain ⟨C, names, dx, es, _, e, _⟩ := q; exact ⟨_, e⟩
    | dead => exact absurd rfl nd
  | succ j =>
    rcases l with ⟨c, fs, ts, e, ef⟩ | ⟨kvs, k, ts, e, ef⟩
    · obtain ⟨C, names, dx, es, _, _, _, _, q⟩ := h.ob n _ e
      obtain ⟨x, v, _, _, _, xs, e2, _⟩ := q j _ ef
      exact ⟨_, e2⟩
    · obtain ⟨es, _, _, _, q⟩ := h.ob n _ e
      obtain ⟨v, _, _, xs, e2, _⟩ := q j _ _ ef
      exact ⟨_, e2⟩
/-- the objects in another abstract heap, where what they lean on is kept -/
theorem FlR.move {s s' : Sx} {n j : Nat} {f : Fld} {v : V} (r : FlR K s n j f v) (k : KeepF s.F s.H s'.F s'.H)
    (ph : ∀ ts, f = .l ts → s'.φ n (j + 1) = s.φ n (j + 1) ∧ ∀ xs, s.H (s.φ n (j + 1)) = some (.lst xs) → s'.H (s.φ n (j + 1)) = some (.lst xs)) : FlR K s' n j f v := by
  cases f with
  | p d => exact RF.keep k r
  | l ts =>
    obtain ⟨e, xs, hx, q⟩ := r
    obtain ⟨e1, e2⟩ := ph ts rfl
    exact ⟨by rw [e1]; exact e, xs, by rw [e1]; exact e2 xs hx, q.keep k⟩
theorem ObR.move {s s' : Sx} {n : Nat} {o : Ob} (r : ObR K CI s n o) (k : KeepF s.F s.H s'.F s'.H) (hn : s.h[n]? = some o)
    (ph : ∀ j, Live s.h n j → s'.φ n j = s.φ n j ∧ ∀ u, s.H (s.φ n j) = some u → s'.H (s.φ n j) = some u) : ObR K CI s' n o := by
  cases o with
  | lst ts =>
    obtain ⟨xs, e, q⟩ := r
    obtain ⟨e1, e2⟩ := ph 0 ⟨_, hn, by intro z; cases z⟩
    exact ⟨xs, by rw [e1]; exact e2 _ e, q.keep k⟩
  | dct kvs =>
    obtain ⟨es, e, m, nd, q⟩ := r
    obtain ⟨e1, e2⟩ := ph 0 ⟨_, hn, by intro z; cases z⟩
    refine ⟨es, by rw [e1]; exact e2 _ e, m, nd, fun j y f ef => ?_⟩
    obtain ⟨v, h1, h2⟩ := q j y f ef
    refine ⟨v, h1, h2.move k fun ts eq => ?_⟩
    subst eq
    obtain ⟨a, b⟩ := ph (j + 1) (.inr ⟨kvs, y, ts, hn, ef⟩)
    exact ⟨a, fun xs => b _⟩
  | ins c fs =>
    obtain ⟨C, names, dx, es, ci, e, m, l, q⟩ := r
    obtain ⟨e1, e2⟩ := ph 0 ⟨_, hn, by intro z; cases z⟩
    refine ⟨C, names, dx, es, ci, by rw [e1]; exact e2 _ e, m, l, fun j f ef => ?_⟩
    obtain ⟨x, v, h0, h1, h2⟩ := q j f ef
    refine ⟨x, v, h0, h1, h2.move k fun ts eq => ?_⟩
    subst eq
    obtain ⟨a, b⟩ := ph (j + 1) (.inl ⟨c, fs, ts, hn, ef⟩)
    exact ⟨a, fun xs => b _⟩
  | dead => trivial
theorem HR.notLive (h : HR K CI s) {p : Addr} (hp : s.H p = none) : NotLive s p := fun n j l e => by
  obtain ⟨o, q⟩ := h.there l
  rw [e, hp] at q; cases q
theorem HR.put (h : HR K CI s) {p : Addr} {o : HO} {fz : Bool} (hp : s.H p = none) : HR K CI (s.put p o fz) where
  ob := fun n u e => (h.ob n u e).move (KeepF.put hp) e fun j l => ⟨rfl, fun w e => by
    show upd s.H p o (s.φ n j) = some w
    rw [upd_ne (ne_of_none e hp)]; exact e⟩
  inj := h.inj
  nf := fun n j l f => by
    rcases f with f | ⟨_, f⟩
    · exact h.nf n j l f
    · obtain ⟨u, e⟩ := h.there l
      exact ne_of_none e hp f
  bt := fun b hb => by
    obtain ⟨h1, h2, u, e⟩ := h.bt b hb
    exact ⟨h1, fun f => f.elim h2 fun z => ne_of_none e hp z.2, u, by show upd s.H p o b = some u; rw [upd_ne (ne_of_none e hp)]; exact e⟩
  ft := fun b hb => by
    rcases hb with hb | ⟨_, rfl⟩
    · obtain ⟨u, e⟩ := h.ft b hb
      exact ⟨u, by show upd s.H p o b = some u; rw [upd_ne (ne_of_none e hp)]; exact e⟩
    · exact ⟨o, upd_same⟩
theorem HR.put_le (h : HR K CI s) {p : Addr} {o : HO} {fz : Bool} (hp : s.H p = none) : Le s (s.put p o fz) := ⟨Nat.le_refl _, fun _ _ => rfl, .put hp, fun b hb => by
  obtain ⟨_, _, u, e⟩ := h.bt b hb
  exact ⟨hb, by show upd s.H p o b = s.H b; rw [upd_ne (ne_of_none e hp)]⟩⟩
end
end Cd
set_option Elab.async false
set_option linter.all false
set_option maxRecDepth 100000
set_option maxHeartbeats 4000000
namespace Cd
open PySem PySem.Spec PyProof.Rows L2

structure Inf where
  ci : CInf
  xi : Nat → Option Addr
def XR (K : PySem.W.Frag) (I : Inf) (s : Sx) (e : Ex) (cls : Value) (d : Option Addr) : Prop :=
  ∃ C, I.xi e.c = some C ∧ cls = .ref C ∧ match e.fs with
    | [] => True
    | [x] => ∃ dx v, d = some dx ∧ s.H dx = some (.xd [("at", v)]) ∧ RF K s.F s.H x v
    | _ => False
/-- an evaluation's end, from the state s on -/
def PR {α β : Type} (K : PySem.W.Frag) (I : Inf) (W : WX) (s : Sx) (σ : L2.St) (r : R α) (Rel : Sx → α → β → Prop) (Q : β → Hp → Prop) : Prop :=
  match r with
  | .ok a h' => ∀ s' x, Le s s' → s'.h = h' → HR K I.ci s' → Rel s' a x → Q x s'.H
  | .exc e h' => ∀ s' cls d, Le s s' → s'.h = h' → HR K I.ci s' → XR K I s' e cls d → W cls d σ s'.H
  | .stuck => False
theorem PR.le {α β : Type} {K : PySem.W.Frag} {I : Inf} {W : WX} {s s1 : Sx} {σ : L2.St} {r : R α} {Rel : Sx → α → β → Prop} {Q : β → Hp → Prop} (h : PR K I W s σ r Rel Q) (l : Le s s1) : PR K I W s1 σ r Rel Q := by
  cases r with
  | ok a h' => exact fun s' x l' => h s' x (l.trans l')
  | exc e h' => exact fun s' c d l' => h s' c d (l.trans l')
  | stuck => exact h
theorem PR.mono {α β : Type} {K : PySem.W.Frag} {I : Inf} {W : WX} {s : Sx} {σ : L2.St} {r : R α} {Rel : Sx → α → β → Prop} {Q Q' : β → Hp → Prop} (h : PR K I W s σ r Rel Q) (m : ∀ x H, Q x H → Q' x H) : PR K I W s σ r Rel Q' := by
  cases r with
  | ok a h' => exact fun s' x l e hr rel => m _ _ (h s' x l e hr rel)
  | exc e h' => exact h
  | stuck => exact h
def At {α β : Type} (K : PySem.W.Frag) (I : Inf) (W : WX) (σ : L2.St) (H : Hp) (G : Sx → Prop) (r : Ev → Hi → R α) (Rel : Sx → α → β → Prop) (Q : β → Hp → Prop) : Prop :=
  ∃ env s, s.H = H ∧ HR K I.ci s ∧ ER K s env σ ∧ G s ∧ PR K I W s σ (r env s.h) Rel Q
def tE {α β : Type} (K : PySem.W.Frag) (I : Inf) (W : WX) (r : Ev → Hi → R α) (Rel : Sx → α → β → Prop) : L2.St → Hp → (β → Hp → Prop) → Prop := fun σ H Q => At K I W σ H (fun _ => True) r Rel Q
theorem At.bind {α β γ δ : Type} {K : PySem.W.Frag} {I : Inf} {W : WX} {σ : L2.St} {H : Hp} {G G' : Sx → Prop} {ev1 : Ev → Hi → R α} {ev2 : α → Ev → Hi → R γ} {Rel1 : Sx → α → β → Prop} {Rel2 : Sx → γ → δ → Prop} {Q : δ → Hp → Prop}
    (h : At K I W σ H G (fun env h => (ev1 env h).bind fun a h1 => ev2 a env h1) Rel2 Q) (mono : ∀ s s', Le s s' → G s → G' s' := by intro _ _ _ g; exact g) :
    tE K I W ev1 Rel1 σ H (fun x H1 => ∃ a, At K I W σ H1 (fun s => G' s ∧ Rel1 s a x) (ev2 a) Rel2 Q) := by
  obtain ⟨env, s, eH, hr, er, g, pr⟩ := h
  refine ⟨env, s, eH, hr, er, trivial, ?_⟩
  replace pr : PR K I W s σ ((ev1 env s.h).bind fun a h1 => ev2 a env h1) Rel2 Q := pr
  generalize ev1 env s.h = r at pr ⊢
  cases r with
  | ok a h1 =>
    intro s' x l eh hr' rel
    subst eh
    exact ⟨a, env, s', rfl, hr', er.le l, ⟨mono s s' l g, rel⟩, PR.le (r := ev2 a env s'.h) pr l⟩
  | exc e h1 => exact pr
  | stuck => exact pr
theorem _root_.L2.PE.imp {X : Cx} {e : Expr} {t t' : TE} (h : PE X e t) (i : ∀ σ H Q, t' σ H Q → t σ H Q) : PE X e t' := ⟨fun pins s σ H Q I q => h.run pins s σ H Q I (i σ H Q q)⟩
theorem _root_.L2.PT.imp {X : Cx} {e : Expr} {t t' : TT} (h : PT X e t) (i : ∀ σ H Q, t' σ H Q → t σ H Q) : PT X e t' := ⟨fun pins s σ H Q I q => h.run pins s σ H Q I (i σ H Q q)⟩
theorem _root_.L2.PA.imp {X : Cx} {e : List Expr} {t t' : TA} (h : PA X e t) (i : ∀ σ H Q, t' σ H Q → t σ H Q) : PA X e t' := ⟨fun pos pins s σ H Q I q => h.run pos pins s σ H Q I (i σ H Q q)⟩
theorem _root_.L2.PS.imp {X : Cx} {e : Stmt} {t t' : TS} (h : PS X e t) (i : ∀ D σ H, t' D σ H → t D σ H) : PS X e t' := ⟨fun pins s σ H D I q => h.run pins s σ H D I (i D σ H q)⟩
theorem _root_.L2.PSs.imp {X : Cx} {e : List Stmt} {t t' : TS} (h : PSs X e t) (i : ∀ D σ H, t' D σ H → t D σ H) : PSs X e t' := ⟨fun pins s σ H D I q => h.run pins s σ H D I (i D σ H q)⟩
theorem _root_.L2.PI.imp {X : Cx} {tg e : Expr} {t t' : TI} (h : PI X tg e t) (i : ∀ σ H Q, t' σ H Q → t σ H Q) : PI X tg e t' := ⟨fun pins s σ H Q I q => h.run pins s σ H Q I (i σ H Q q)⟩

/-- borrowed: what is read at once -/
def RB (K : PySem.W.Frag) (s : Sx) (d : PyData) (x : V) : Prop := RF K s.F s.H d x ∨ ∃ ts a xs, d = .list ts ∧ x = .ref a ∧ Rd s.H a (.lst xs) ∧ RFs K s.F s.H ts xs
def PRl (K : PySem.W.Frag) (s : Sx) (d : PyData) (x : V) : Prop := RF K s.F s.H d x
theorem PRl.le {K : PySem.W.Frag} {s s' : Sx} {d : PyData} {x : V} (l : Le s s') (r : PRl K s d x) : PRl K s' d x := RF.keep l.kf r
theorem PR.val {K : PySem.W.Frag} {I : Inf} {W : WX} {s : Sx} {σ : L2.St} {o : Option Val} {v : Val} {x : V} {Q : V → Hp → Prop} (pr : PR K I W s σ (ofO o s.h) (VR K) Q) (hr : HR K I.ci s) (e : o = some v) (r : VR K s v x) : Q x s.H := by
  subst e
  exact pr s x (.refl s) rfl hr r
theorem PR.new {K : PySem.W.Frag} {I : Inf} {W : WX} {s : Sx} {σ : L2.St} {o : Option Val} {v : Val} {p : Addr} {u : HO} {Q : V → Hp → Prop} (pr : PR K I W s σ (ofO o s.h) (VR K) Q) (hr : HR K I.ci s) (e : o = some v) (hp : s.H p = none) (r : VR K (s.put p u true) v (.ref p)) : Q (.ref p) (upd s.H p u) := by
  subst e
  exact pr (s.put p u true) _ (hr.put_le hp) rfl (hr.put hp) r
theorem PR.isSome {K : PySem.W.Frag} {I : Inf} {W : WX} {s : Sx} {σ : L2.St} {o : Option Val} {Q : V → Hp → Prop} (pr : PR K I W s σ (ofO o s.h) (VR K) Q) : ∃ v, o = Option.some v := by
  cases o with
  | none => exact pr.elim
  | some v => exact ⟨v, rfl⟩
theorem lst_new {K : PySem.W.Frag} {s : Sx} {p : Addr} {ts : List PyData} {xs : List V} (hp : s.H p = none) (r : RFs K s.F s.H ts xs) : VR K (s.put p (.lst xs) true) (.p (.list ts)) (.ref p) :=
  .lst (.inl ⟨.inr ⟨rfl, rfl⟩, Rd.of upd_same⟩) (r.keep (KeepF.put hp))
theorem tup_newL {K : PySem.W.Frag} {s : Sx} {p : Addr} {ts : List PyData} {xs : List V} {b : Bool} (hp : s.H p = none) (r : RFs K s.F s.H ts xs) (nn : needT ts = false := by rfl) : VR K (s.put p (.tup xs) b) (.p (.tuple ts)) (.ref p) :=
  .tup (.lo (SqT.of upd_same) nn) (r.keep (KeepF.put hp))
theorem tup_new {K : PySem.W.Frag} {s : Sx} {p : Addr} {ts : List PyData} {xs : List V} {b : Bool} {o : Obj} (hp : s.H p = none) (ho : TupO o) (r : RFs K s.F s.H ts xs) : VR K (s.put p (.frz o (.tup xs)) b) (.p (.tuple ts)) (.ref p) :=
  .tup (.st (.of ho upd_same)) (r.keep (KeepF.put hp))

structure Gm where
  fns : Nat → Option FnD
  defs : List (Str × Nat)
  nobs : List Str
  cons : List (Str × PyData)
  cls : List (Str × Nat × Nat)
  meths : List (Nat × Str × Nat)
  flds : List (Nat × List Str)
  excs : List (Str × Nat)
  tabs : List (Str × List (List Int × Int)) := []
  sts : List (Nat × Str × Nat) := []
/-- an entry of a table of the written part: a tuple of ints, an int -/
def TabEnt (K : PySem.W.Frag) (ks : List Int) (i : Int) (e : DictEntry) : Prop := ∃ (t : Addr) (tok : Tok) (o : Obj) (items : Array Value) (n : Nat), e.key = .ref t ∧ e.val = .int i tok ∧ (∀ (P : Program) (w : World), e.hash = tupleKeyHash (mixKind P w) (ks.map Sum.inl)) ∧
  K.lookup t = some o ∧ o.cls = .type "tuple" ∧ o.data = .seq items n ∧ IntsAre items.toList ks
def TabEs (K : PySem.W.Frag) : List (List Int × Int) → List DictEntry → Prop
  | [], [] => True
  | p :: ps, e :: es => TabEnt K p.1 p.2 e ∧ TabEs K ps es
  | _, _ => False
/-- a table of the written part -/
def TabK (K : PySem.W.Frag) (a : Addr) (kvs : List (List Int × Int)) : Prop := ∃ (es : Array DictEntry) (m : Nat), K.lookup a = some ⟨.type "dict", none, .dict es m, #[]⟩ ∧ TabEs K kvs es.toList ∧ (kvs.map (·.1)).Nodup
/-- an own exception class whose __init__ keeps its one argument as at -/
structure XoSt (K : PySem.W.Frag) (C : Addr) : Prop where
  oex : OexC K C
  xf : XfC K C
  no : PySem.W.findIn K (.ref C) "at" = some none
  ex : ∃ (fI : Addr) (x qual : Str) (st : Stmt) (fd : FuncData) (p1 p2 p3 p4 : Pos), PySem.W.findIn K (.ref C) "__init__" = some (some (.ref fI)) ∧ PySem.W.typeIn K (.ref fI) = some (.type "function") ∧ Fun K x qual st fI fd ∧ Binds K fd ["self", "at"] [] ∧
    FnScope ["self", "at"] ["self", "at"] (defScope st) ∧ (defScope st).names.lookup ("self" : Str) = some .local ∧ (defScope st).names.lookup ("at" : Str) = some .local ∧ defBody st = [.Assign [.Attribute (.Name "self" p1) "at" p2] (.Name "at" p3) p4]
/-- an own exception class -/
structure XcOk (K : PySem.W.Frag) (c : Nat) (C : Addr) : Prop where
  q : c ≠ 1 → PySem.W.excIn K C [.type "ValueError", .type "Exception", .type "BaseException", .type "object"] "ValueError.__new__" = true
  kC : PySem.W.keepIn K (.ref C) = true
  sb : PySem.W.subIn K (.ref C) (.type "BaseException") = some true
  ty : PySem.W.typeIn K (.ref C) = some (.type "type")
  more : c = 1 → XoSt K C
/-- what is asked of the def f, by the interpreter -/
def spF (K : PySem.W.Frag) (I : Inf) (fns : Nat → Option FnD) (n f np : Nat) : Sp := fun vs H Q E => ∃ s args, s.H = H ∧ HR K I.ci s ∧ Paired (VR K s) args vs ∧ args.length = np ∧
  match callF fns n f args s.h with
  | .ok v h' => ∀ s' x, Le s s' → s'.h = h' → HR K I.ci s' → VR K s' v x → Q x s'.H
  | .exc e h' => ∀ s' cls d, Le s s' → s'.h = h' → HR K I.ci s' → XR K I s' e cls d → E cls d s'.H
  | .stuck => False
/-- the def f of the small program stands at a -/
def FAt (P : Program) (w : World) (K : PySem.W.Frag) (mg : Str → Option Value) (base : Heap) (I : Inf) (fns : Nat → Option FnD) (n f : Nat) (a : Addr) : Prop :=
  PySem.W.keepIn K (.ref a) = true ∧ PySem.W.isFn K (.ref a) = true ∧ ∃ fd ps d, fns f = some d ∧ ps.length = d.np ∧ Binds K fd ps [] ∧ FnOk P w K mg base (L2.CX P w) (2 * n) a fd ps (spF K I fns n f d.np)
/-- a tuple whose object is known -/
def StR (K : PySem.W.Frag) (s : Sx) (ts : List PyData) (x : V) : Prop := ∃ (a : Addr) (xs : List V) (o : Obj), x = .ref a ∧ s.H a = some (.frz o (.tup xs)) ∧ o.cls = .type "tuple" ∧ o.dict = none ∧ RFs K s.F s.H ts xs
/-- the field is a list: its own, or data -/
def FldL : Option Fld → List PyData → Prop
  | some (.l us), ts => us = ts
  | some (.p d), ts => d = .list ts
  | none, _ => False
/-- what is asked of a method that tells tuple(its field j) -/
def spS (K : PySem.W.Frag) (I : Inf) (n c j : Nat) : Sp := fun vs H Q _ => 0 < n ∧ ∃ (s : Sx) (k : Nat) (fs : List Fld) (ts : List PyData), s.H = H ∧ HR K I.ci s ∧ vs = [.ref (s.φ k 0)] ∧ insAt s.h k = some (c, fs) ∧ FldL fs[j]? ts ∧
  ∀ s' x, Le s s' → s'.h = s.h → HR K I.ci s' → StR K s' ts x → Q x s'.H
/-- a block's names; those whose cells it has made itself -/
structure Sco where
  s : Scope
  fn : Str → Bool
  top : Bool
  /-- whether nothing guards here against running round -/
  gd : Bool
structure GX (Γ : Gm) (n : Nat) (I : Inf) (N : List Str) (sc : Sco) (W : WX) (X : Cx) : Prop where
  stk : sc.top = true → X.stack = X.env :: X.outer ∧ X.env.frame = some X.env.locals
  gd : sc.gd = true → X.A.guards = some []
  hN : X.N = N
  nd : N.Nodup
  fnc : X.fn = sc.fn
  sc : X.env.scope = sc.s
  calm : X.calm = true
  tk : Takes X W
  pass : PassesOwn (model X.prog X.w) X.A X.env X.xe
  room : Room (2 * n + 1) X.A
  fn : ∀ p ∈ Γ.defs, ∃ a, X.mg p.1 = some (.ref a) ∧ FAt X.prog X.w X.K X.mg X.base I Γ.fns n p.2 a
  nob : ∀ x ∈ Γ.nobs, X.mg x = none
  con : ∀ p ∈ Γ.cons, ∃ u v, X.mg p.1 = some u ∧ RelV v u ∧ ∀ F H, RF X.K F H p.2 v
  cl : ∀ p ∈ Γ.cls, ∃ C names a, X.mg p.1 = some (.ref C) ∧ I.ci p.2.1 = some (C, names) ∧ Mk X.K C a ∧ FAt X.prog X.w X.K X.mg X.base I Γ.fns n p.2.2 a
  mt : ∀ p ∈ Γ.meths, ∃ C names a, I.ci p.1 = some (C, names) ∧ Meth X.K C p.2.1 a ∧ p.2.1 ∉ names ∧ FAt X.prog X.w X.K X.mg X.base I Γ.fns n p.2.2 a
  fl : ∀ p ∈ Γ.flds, ∃ C, I.ci p.1 = some (C, p.2) ∧ Cls X.K C ∧ p.2.Nodup ∧ p.2.length < 1000 ∧ ∀ x ∈ p.2, NoAttr X.K C x
  ci : ∀ c C names, I.ci c = some (C, names) → (c, names) ∈ Γ.flds
  xc : ∀ p ∈ Γ.excs, ∃ C, X.mg p.1 = some (.ref C) ∧ I.xi p.2 = some C ∧ XcOk X.K p.2 C
  xm : ∀ c C c' C', I.xi c = some C → I.xi c' = some C' → PySem.W.exmOne X.K (.ref C) (.ref C') = some (subC c c')
  tb : ∀ p ∈ Γ.tabs, ∃ a, X.mg p.1 = some (.ref a) ∧ TabK X.K a p.2
  st : ∀ p ∈ Γ.sts, ∃ C names a fd, I.ci p.1 = some (C, names) ∧ Meth X.K C p.2.1 a ∧ p.2.1 ∉ names ∧ Binds X.K fd ["self"] [] ∧ FnOk X.prog X.w X.K X.mg X.base (L2.CX X.prog X.w) (2 * n) a fd ["self"] (spS X.K I n p.1 p.2.2)
def DE (Γ : Gm) (N : List Str) (sc : Sco) (e : Expr) (a : E) : Prop :=
  ∀ n I W X, GX Γ n I N sc W X → PE X e (tE X.K I W (fun env h => evalE (callF Γ.fns n) env a h) (VR X.K))
def DB (Γ : Gm) (N : List Str) (sc : Sco) (e : Expr) (a : E) : Prop :=
  ∀ n I W X, GX Γ n I N sc W X → PE X e (tE X.K I W (fun env h => bor env h a (evalE (callF Γ.fns n) env a h)) (RB X.K))
/-- as data that stays -/
def DV (Γ : Gm) (N : List Str) (sc : Sco) (e : Expr) (a : E) : Prop :=
  ∀ n I W X, GX Γ n I N sc W X → PE X e (tE X.K I W (fun env h => (evalE (callF Γ.fns n) env a h).bind unP) (PRl X.K))
def tP (K : PySem.W.Frag) (I : Inf) (r : Ev → Hi → R Val) : TE := fun σ H Q => ∃ env s, s.H = H ∧ HR K I.ci s ∧ ER K s env σ ∧ match r env s.h with
  | .ok (.p d) h' => h' = s.h ∧ ∀ x, RF K s.F s.H d x → Q x H
  | _ => False
/-- data that is looked up, changing nothing -/
structure DP (Γ : Gm) (N : List Str) (sc : Sco) (e : Expr) (a : E) : Prop where
  run : ∀ n I W X, GX Γ n I N sc W X → PE X e (tP X.K I (fun env h => evalE (callF Γ.fns n) env a h))
  pure : ∀ cf env h, (∃ v, evalE cf env a h = .ok v h) ∨ evalE cf env a h = .stuck
def DT (Γ : Gm) (N : List Str) (sc : Sco) (e : Expr) (a : Te) : Prop :=
  ∀ n I W X, GX Γ n I N sc W X → PT X e (tE X.K I W (fun env h => evalT (callF Γ.fns n) env a h) (fun _ a x => x = a))
section
variable {Γ : Gm} {N : List Str} {sc : Sco} {x : Expr} {a : E}
theorem DE.v (h : DE Γ N sc x a) : DV Γ N sc x a := fun n I W X g => (h n I W X g).imp fun σ H Q q => by
  obtain ⟨env, s, eH, hr, er, _, pr⟩ := q
  refine ⟨env, s, eH, hr, er, trivial, ?_⟩
  replace pr : PR X.K I W s σ ((evalE (callF Γ.fns n) env a s.h).bind unP) (PRl X.K) Q := pr
  show PR X.K I W s σ (evalE (callF Γ.fns n) env a s.h) (VR X.K) Q
  generalize evalE (callF Γ.fns n) env a s.h = r at pr ⊢
  cases r with
  | ok v h1 =>
    intro s' x l eh hr' rel
    cases v with
    | p d => exact pr s' x l eh hr' rel
    | ref m => exact False.elim pr
  | exc e h1 => exact pr
  | stuck => exact pr
theorem DV.b (h : DV Γ N sc x a) (np : ∀ env h, peek env h a = none := by intros; rfl) : DB Γ N sc x a := fun n I W X g => (h n I W X g).imp fun σ H Q q => by
  obtain ⟨env, s, eH, hr, er, _, pr⟩ := q
  refine ⟨env, s, eH, hr, er, trivial, ?_⟩
  replace pr : PR X.K I W s σ (bor env s.h a (evalE (callF Γ.fns n) env a s.h)) (RB X.K) Q := pr
  show PR X.K I W s σ ((evalE (callF Γ.fns n) env a s.h).bind unP) (PRl X.K) Q
  simp only [bor, np] at pr
  generalize (evalE (callF Γ.fns n) env a s.h).bind unP = r at pr ⊢
  cases r with
  | ok v h1 => exact fun s' y l eh hr' rel => pr s' y l eh hr' (.inl rel)
  | exc e h1 => exact pr
  | stuck => exact pr
theorem DP.v (h : DP Γ N sc x a) : DV Γ N sc x a := fun n I W X g => (h.run n I W X g).imp fun σ H Q q => by
  obtain ⟨env, s, eH, hr, er, _, pr⟩ := q
  refine ⟨env, s, eH, hr, er, ?_⟩
  replace pr : PR X.K I W s σ ((evalE (callF Γ.fns n) env a s.h).bind unP) (PRl X.K) Q := pr
  show (match evalE (callF Γ.fns n) env a s.h with
  | .ok (.p d) h' => h' = s.h ∧ ∀ x, RF X.K s.F s.H d x → Q x H
  | _ => False)
  rcases h.pure (callF Γ.fns n) env s.h with ⟨v, e⟩ | e
  · rw [e] at pr ⊢
    cases v with
    | p d => exact ⟨rfl, fun y r => by rw [← eH]; exact pr s y (.refl s) rfl hr r⟩
    | ref m => exact False.elim pr
  · rw [e] at pr
    exact False.elim pr
end
section
variable {K : PySem.W.Frag} {s : Sx}
theorem RB.dp {d : PyData} {x : V} (r : RB K s d x) : Dp K s.H x d := by
  rcases r with r | ⟨ts, a, xs, rfl, rfl, h, t⟩
  · exact r.dp
  · exact .lst (.inl h) t.dp
theorem RB.strict {d : PyData} {x : V} (r : RB K s d x) (n : ∀ ts, d ≠ .list ts) : RF K s.F s.H d x := by
  rcases r with r | ⟨ts, a, xs, rfl, rfl, h, t⟩
  · exact r
  · exact absurd rfl (n ts)
theorem RB.lst {ts : List PyData} {x : V} (r : RB K s (.list ts) x) : ∃ a xs, x = .ref a ∧ SqL K s.H a xs ∧ RFs K s.F s.H ts xs := by
  rcases r with r | ⟨ts', a, xs, e, rfl, h, t⟩
  · obtain ⟨a, xs, e, h, t⟩ := r.lst_inv
    exact ⟨a, xs, e, h.sq, t⟩
  · cases e
    exact ⟨a, xs, rfl, .inl h, t⟩
theorem RB.tup {ts : List PyData} {x : V} (r : RB K s (.tuple ts) x) : ∃ a xs, x = .ref a ∧ SqT K s.H a xs ∧ RFs K s.F s.H ts xs := (r.strict (fun _ z => nomatch z)).tup_inv
theorem RB.tupN {ts : List PyData} {x : V} (r : RB K s (.tuple ts) x) : ∃ a xs, x = .ref a ∧ NdT K s.H a xs ts ∧ RFs K s.F s.H ts xs := (r.strict (fun _ z => nomatch z)).tup_invN
theorem RB.int {i : Int} {x : V} (r : RB K s (.int i) x) : x = .int i := (r.strict (fun _ z => nomatch z)).int_inv
theorem RB.bl {i : Bool} {x : V} (r : RB K s (.bool i) x) : x = .bl i := (r.strict (fun _ z => nomatch z)).bl_inv
theorem RB.str {i : Str} {x : V} (r : RB K s (.str i) x) : x = .str i := (r.strict (fun _ z => nomatch z)).str_inv
theorem RB.non {x : V} (r : RB K s .none x) : x = .non := (r.strict (fun _ z => nomatch z)).non_inv
end
/-- an operation's end: data that was there, or a new thing -/
def Fin (K : PySem.W.Frag) (s : Sx) (d : PyData) (Q : VK) : Prop :=
  (∀ z, RF K s.F s.H d z → Q z s.H) ∧ ∀ p u, s.H p = none → VR K (s.put p u true) (.p d) (.ref p) → Q (.ref p) (upd s.H p u)
theorem PR.fin {K : PySem.W.Frag} {I : Inf} {W : WX} {s : Sx} {σ : L2.St} {o : Option PyData} {Q : V → Hp → Prop} (pr : PR K I W s σ (ofO (o.map Val.p) s.h) (VR K) Q) (hr : HR K I.ci s) : ∃ d, o = some d ∧ Fin K s d Q := by
  cases o with
  | none => exact False.elim pr
  | some d => exact ⟨d, rfl, fun z r => PR.val (v := .p d) pr hr rfl r, fun p u hp r => PR.new (v := .p d) pr hr rfl hp r⟩
def Op1Ok (K : PySem.W.Frag) (r : V → Hp → VK → Prop) (o : O1) : Prop := ∀ (s : Sx) d1 d x (Q : VK), RB K s d1 x → opf1 o d1 = some d → Fin K s d Q → r x s.H Q
def Op2Ok (K : PySem.W.Frag) (r : R2) (o : O2) : Prop := ∀ (s : Sx) d1 d2 d x y (Q : VK), RB K s d1 x → RB K s d2 y → opf2 o d1 d2 = some d → Fin K s d Q → r x y s.H Q
section
variable {Γ : Gm} {N : List Str} {sc : Sco} {e ea eb ec : Expr} {a b c : E} {o : O2}
theorem op1_imp {o : O1} {r : V → Hp → VK → Prop} {n : Nat} {I : Inf} {W : WX} {X : Cx} (ok : Op1Ok X.K r o) {σ : L2.St} {H : Hp} {Q : VK} (q : tE X.K I W (fun env h => evalE (callF Γ.fns n) env (.op1 o a) h) (VR X.K) σ H Q) :
    tUn r (tE X.K I W (fun env h => bor env h a (evalE (callF Γ.fns n) env a h)) (RB X.K)) σ H Q := by
    obtain ⟨env, s, eH, hr, er, _, pr⟩ := At.bind (Rel1 := RB X.K) (ev2 := fun x env h => ofO ((opf1 o x).map Val.p) h) q
    refine ⟨env, s, eH, hr, er, trivial, ?_⟩
    refine PR.mono pr fun x H1 ⟨d, env, s, e, hr, er, ⟨_, rb⟩, pr⟩ => ?_
    subst e
    obtain ⟨d', e1, f⟩ := PR.fin (o := opf1 o d) pr hr
    exact ok s d d' x Q rb e1 f
theorem de_op1 {o : O1} {r : Cx → V → Hp → VK → Prop} (hpe : ∀ n I W X, GX Γ n I N sc W X → ∀ ta, PE X ea ta → PE X e (tUn (r X) ta)) (ok : ∀ n I W X, GX Γ n I N sc W X → Op1Ok X.K (r X) o) (ha : DB Γ N sc ea a) : DE Γ N sc e (.op1 o a) := fun n I W X g =>
  (hpe n I W X g _ (ha n I W X g)).imp fun σ H Q q => op1_imp (ok n I W X g) q
theorem op2_imp {r : R2} {n : Nat} {I : Inf} {W : WX} {X : Cx} (ok : Op2Ok X.K r o) {σ : L2.St} {H : Hp} {Q : VK} (q : tE X.K I W (fun env h => evalE (callF Γ.fns n) env (.op2 o a b) h) (VR X.K) σ H Q) :
    tOp r (tE X.K I W (fun env h => (evalE (callF Γ.fns n) env a h).bind unP) (PRl X.K)) (tE X.K I W (fun env h => bor env h b (evalE (callF Γ.fns n) env b h)) (RB X.K)) σ H Q := by
    obtain ⟨env, s, eH, hr, er, _, pr⟩ := At.bind (Rel1 := PRl X.K) (ev2 := fun x env h => (bor env h b (evalE (callF Γ.fns n) env b h)).bind fun y h2 => ofO ((opf2 o x y).map Val.p) h2) q
    refine ⟨env, s, eH, hr, er, trivial, ?_⟩
    refine PR.mono pr fun x H1 ⟨d, q⟩ => ?_
    obtain ⟨env, s, eH, hr, er, _, pr⟩ := At.bind (Rel1 := RB X.K) (G' := fun s => PRl X.K s d x) (ev2 := fun y env h2 => ofO ((opf2 o d y).map Val.p) h2) q (fun s s' l g => g.2.le l)
    refine ⟨env, s, eH, hr, er, trivial, ?_⟩
    refine PR.mono pr fun y H2 ⟨d2, env, s, e, hr, er, ⟨r1, r2⟩, pr⟩ => ?_
    subst e
    obtain ⟨d', e1, f⟩ := PR.fin (o := opf2 o d d2) pr hr
    exact ok s d d2 d' x y Q (.inl r1) r2 e1 f
theorem de_op2 {r : Cx → R2} (hpe : ∀ n I W X, GX Γ n I N sc W X → ∀ ta tb, PE X ea ta → PE X eb tb → PE X e (tOp (r X) ta tb)) (ok : ∀ n I W X, GX Γ n I N sc W X → Op2Ok X.K (r X) o) (ha : DV Γ N sc ea a) (hb : DB Γ N sc eb b) :
    DE Γ N sc e (.op2 o a b) := fun n I W X g =>
  (hpe n I W X g _ _ (ha n I W X g) (hb n I W X g)).imp fun σ H Q q => op2_imp (ok n I W X g) q
theorem op2b_imp {r : R2} {n : Nat} {I : Inf} {W : WX} {X : Cx} (ok : Op2Ok X.K r o) (hb : ∀ cf env h, (∃ v, evalE cf env b h = .ok v h) ∨ evalE cf env b h = .stuck) {σ : L2.St} {H : Hp} {Q : VK} (q : tE X.K I W (fun env h => evalE (callF Γ.fns n) env (.op2b o a b) h) (VR X.K) σ H Q) :
    tOp r (tE X.K I W (fun env h => bor env h a (evalE (callF Γ.fns n) env a h)) (RB X.K)) (tP X.K I (fun env h => evalE (callF Γ.fns n) env b h)) σ H Q := by
    obtain ⟨env, s, eH, hr, er, _, pr⟩ := At.bind (Rel1 := RB X.K) (ev2 := fun x env h => ((evalE (callF Γ.fns n) env b h).bind unP).bind fun y h2 => ofO ((opf2 o x y).map Val.p) h2) q
    refine ⟨env, s, eH, hr, er, trivial, ?_⟩
    refine PR.mono pr fun x H1 ⟨d, env, s, eH, hr, er, ⟨_, rb⟩, pr⟩ => ?_
    refine ⟨env, s, eH, hr, er, ?_⟩
    replace pr : PR X.K I W s σ (((evalE (callF Γ.fns n) env b s.h).bind unP).bind fun y h2 => ofO ((opf2 o d y).map Val.p) h2) (VR X.K) Q := pr
    show (match evalE (callF Γ.fns n) env b s.h with
    | .ok (.p d2) h' => h' = s.h ∧ ∀ y, RF X.K s.F s.H d2 y → r x y H1 Q
    | _ => False)
    rcases hb (callF Γ.fns n) env s.h with ⟨v, e⟩ | e
    · rw [e] at pr ⊢
      cases v with
      | p d2 =>
        refine ⟨rfl, fun y ry => ?_⟩
        obtain ⟨d', e1, f⟩ := PR.fin (o := opf2 o d d2) pr hr
        rw [← eH]
        exact ok s d d2 d' x y Q rb (.inl ry) e1 f
      | ref m => exact False.elim pr
    · rw [e] at pr
      exact False.elim pr
theorem de_op2b {r : Cx → R2} (hpe : ∀ n I W X, GX Γ n I N sc W X → ∀ ta tb, PE X ea ta → PE X eb tb → PE X e (tOp (r X) ta tb)) (ok : ∀ n I W X, GX Γ n I N sc W X → Op2Ok X.K (r X) o) (ha : DB Γ N sc ea a) (hb : DP Γ N sc eb b) :
    DE Γ N sc e (.op2b o a b) := fun n I W X g =>
  (hpe n I W X g _ _ (ha n I W X g) (hb.run n I W X g)).imp fun σ H Q q => op2b_imp (ok n I W X g) hb.pure q
/-- operations that make nothing -/
def Op2Pu (K : PySem.W.Frag) (r : R2) (o : O2) : Prop := ∀ (s : Sx) d1 d2 d x y (Q : VK), RB K s d1 x → RB K s d2 y → opf2 o d1 d2 = some d → (∀ z, RF K s.F s.H d z → Q z s.H) → r x y s.H Q
theorem Op2Pu.ok {K : PySem.W.Frag} {r : R2} (h : Op2Pu K r o) : Op2Ok K r o := fun s d1 d2 d x y Q r1 r2 e f => h s d1 d2 d x y Q r1 r2 e f.1
theorem de_op2d {r : Cx → R2} (hpe : ∀ n I W X, GX Γ n I N sc W X → ∀ ta tb, PE X ea ta → PE X eb tb → PE X e (tOp (r X) ta tb)) (ok : ∀ n I W X, GX Γ n I N sc W X → Op2Ok X.K (r X) o) (ha : DV Γ N sc ea a) (hb : DV Γ N sc eb b) :
    DE Γ N sc e (.op2d o a b) := fun n I W X g =>
  (hpe n I W X g _ _ (ha n I W X g) (hb n I W X g)).imp fun σ H Q q => by
    obtain ⟨env, s, eH, hr, er, _, pr⟩ := At.bind (Rel1 := PRl X.K) (ev2 := fun x env h => ((evalE (callF Γ.fns n) env b h).bind unP).bind fun y h2 => ofO ((opf2 o x y).map Val.p) h2) q
    refine ⟨env, s, eH, hr, er, trivial, ?_⟩
    refine PR.mono pr fun x H1 ⟨d, q⟩ => ?_
    obtain ⟨env, s, eH, hr, er, _, pr⟩ := At.bind (Rel1 := PRl X.K) (G' := fun s => PRl X.K s d x) (ev2 := fun y env h2 => ofO ((opf2 o d y).map Val.p) h2) q (fun s s' l g => g.2.le l)
    refine ⟨env, s, eH, hr, er, trivial, ?_⟩
    refine PR.mono pr fun y H2 ⟨d2, env, s, e, hr, er, ⟨r1, r2⟩, pr⟩ => ?_
    subst e
    obtain ⟨d', e1, f⟩ := PR.fin (o := opf2 o d d2) pr hr
    exact ok n I W X g s d d2 d' x y Q (.inl r1) (.inl r2) e1 f
theorem dp_op2d {r : Cx → R2} (hpe : ∀ n I W X, GX Γ n I N sc W X → ∀ ta tb, PE X ea ta → PE X eb tb → PE X e (tOp (r X) ta tb)) (ok : ∀ n I W X, GX Γ n I N sc W X → Op2Pu X.K (r X) o) (ha : DP Γ N sc ea a) (hb : DP Γ N sc eb b) : DP Γ N sc e (.op2d o a b) where
  run := fun n I W X g => (hpe n I W X g _ _ (ha.run n I W X g) (hb.run n I W X g)).imp fun σ H Q q => by
    obtain ⟨env, s, eH, hr, er, pr⟩ := q
    refine ⟨env, s, eH, hr, er, ?_⟩
    replace pr : (match ((evalE (callF Γ.fns n) env a s.h).bind unP).bind (fun x h1 => ((evalE (callF Γ.fns n) env b h1).bind unP).bind fun y h2 => ofO ((opf2 o x y).map Val.p) h2) with
      | .ok (.p d) h' => h' = s.h ∧ ∀ x, RF X.K s.F s.H d x → Q x H
      | _ => False) := pr
    show (match evalE (callF Γ.fns n) env a s.h with
    | .ok (.p d2) h' => h' = s.h ∧ ∀ y, RF X.K s.F s.H d2 y → tP X.K I (fun env h => evalE (callF Γ.fns n) env b h) σ H (fun y H2 => r X _ y H2 Q)
    | _ => False)
    rcases ha.pure (callF Γ.fns n) env s.h with ⟨v, e⟩ | e
    · rw [e] at pr ⊢
      cases v with
      | p d1 =>
        refine ⟨rfl, fun x rx => ⟨env, s, eH, hr, er, ?_⟩⟩
        simp only [R.bind_ok, unP] at pr
        show (match evalE (callF Γ.fns n) env b s.h with
        | .ok (.p d2) h' => h' = s.h ∧ ∀ y, RF X.K s.F s.H d2 y → r X x y H Q
        | _ => False)
        rcases hb.pure (callF Γ.fns n) env s.h with ⟨v, e⟩ | e
        · rw [e] at pr ⊢
          cases v with
          | p d2 =>
            refine ⟨rfl, fun y ry => ?_⟩
            simp only [R.bind_ok, unP] at pr
            cases e1 : opf2 o d1 d2 with
            | none => rw [e1] at pr; exact False.elim pr
            | some d' =>
              rw [e1] at pr
              rw [← eH]
              exact ok n I W X g s d1 d2 d' x y Q (.inl rx) (.inl ry) e1 fun z rz => by rw [eH]; exact pr.2 z rz
          | ref m => exact False.elim pr
        · rw [e] at pr
          exact False.elim pr
      | ref m => exact False.elim pr
    · rw [e] at pr
      exact False.elim pr
  pure := fun cf env h => by
    show (∃ v, ((evalE cf env a h).bind unP).bind (fun x h1 => ((evalE cf env b h1).bind unP).bind fun y h2 => ofO ((opf2 o x y).map Val.p) h2) = .ok v h) ∨ ((evalE cf env a h).bind unP).bind (fun x h1 => ((evalE cf env b h1).bind unP).bind fun y h2 => ofO ((opf2 o x y).map Val.p) h2) = .stuck
    rcases ha.pure cf env h with ⟨v, e⟩ | e
    · rw [e]
      cases v with
      | p d1 =>
        simp only [R.bind_ok, unP]
        rcases hb.pure cf env h with ⟨v, e⟩ | e
        · rw [e]
          cases v with
          | p d2 =>
            simp only [R.bind_ok, unP]
            cases opf2 o d1 d2 with
            | none => exact .inr rfl
            | some d => exact .inl ⟨_, rfl⟩
          | ref m => exact .inr rfl
        · rw [e]; exact .inr rfl
      | ref m => exact .inr rfl
    · rw [e]; exact .inr rfl
end
end Cd
set_option Elab.async false
set_option linter.all false
set_option maxRecDepth 100000
set_option maxHeartbeats 4000000
namespace Cd
open PySem PySem.Spec PyProof.Rows L2

structure VOk (N : List Str) (sc : Sco) (i : Nat) (x : Str) : Prop where
  hN : N[i]? = some x
  hv : Vis sc.s x
  hd : (x == ("__debug__" : Str)) = false
  hc : (x == ("__classdict__" : Str)) = false
structure GOk (sc : Sco) (x : Str) : Prop where
  gl : sc.s.names.lookup x = some .globalImplicit
  db : (x == ("__debug__" : Str)) = false
  nm : x ≠ "__name__"
section
variable {Γ : Gm} {N : List Str} {sc : Sco} {n : Nat} {I : Inf} {W : WX} {X : Cx} {i : Nat} {x : Str} {pos : Pos}
theorem VOk.pe (v : VOk N sc i x) (g : GX Γ n I N sc W X) : PE X (.Name x pos) (tVar i) := pe_var (by rw [g.hN]; exact v.hN) (by rw [g.sc]; exact v.hv) v.hd v.hc
theorem GOk.g (v : GOk sc x) (g : GX Γ n I N sc W X) : Gl X x := by
  unfold Gl Env.kindOf
  rw [g.sc]; exact v.gl
theorem de_var (v : VOk N sc i x) : DE Γ N sc (.Name x pos) (.var i) := fun n I W X g => (v.pe g).imp fun σ H Q q => by
  obtain ⟨env, s, eH, hr, er, _, pr⟩ := q
  obtain ⟨v, e⟩ := PR.isSome (o := slot env i) pr
  obtain ⟨y, h1, h2⟩ := er.at_ i v e
  exact ⟨y, h1, by rw [← eH]; exact PR.val (o := slot env i) pr hr e h2⟩
theorem dp_var (v : VOk N sc i x) : DP Γ N sc (.Name x pos) (.var i) where
  run := fun n I W X g => (v.pe g).imp fun σ H Q q => by
    obtain ⟨env, s, eH, hr, er, pr⟩ := q
    replace pr : (match ofO (slot env i) s.h with
      | .ok (.p d) h' => h' = s.h ∧ ∀ x, RF X.K s.F s.H d x → Q x H
      | _ => False) := pr
    cases e : slot env i with
    | none => rw [e] at pr; exact False.elim pr
    | some v =>
      rw [e] at pr
      cases v with
      | p d =>
        obtain ⟨y, h1, h2⟩ := er.at_ i _ e
        exact ⟨y, h1, pr.2 y h2⟩
      | ref m => exact False.elim pr
  pure := fun cf env h => by
    show (∃ v, ofO (slot env i) h = .ok v h) ∨ ofO (slot env i) h = .stuck
    cases slot env i with
    | none => exact .inr rfl
    | some v => exact .inl ⟨v, rfl⟩
theorem slotRef_of {env : Ev} {i n : Nat} (e : slotRef env i = some n) : slot env i = some (.ref n) := by
  unfold slotRef at e
  split at e
  · cases e; assumption
  · cases e
theorem listAt_of {h : Hi} {n : Nat} {ts : List PyData} (e : listAt h n = some ts) : h[n]? = some (.lst ts) := by
  unfold listAt at e
  split at e
  · cases e; assumption
  · cases e
theorem insAt_of {h : Hi} {n : Nat} {p : Nat × List Fld} (e : insAt h n = some p) : h[n]? = some (.ins p.1 p.2) := by
  unfold insAt at e
  split at e
  · cases e; assumption
  · cases e
theorem dctAt_of {h : Hi} {n : Nat} {p : List (Key × Fld)} (e : dctAt h n = some p) : h[n]? = some (.dct p) := by
  unfold dctAt at e
  split at e
  · cases e; assumption
  · cases e
theorem db_var (v : VOk N sc i x) : DB Γ N sc (.Name x pos) (.var i) := fun n I W X g => (v.pe g).imp fun σ H Q q => by
  obtain ⟨env, s, eH, hr, er, _, pr⟩ := q
  replace pr : PR X.K I W s σ (bor env s.h (.var i) (ofO (slot env i) s.h)) (RB X.K) Q := pr
  cases e : slot env i with
  | none =>
    have e2 : slotRef env i = none := by unfold slotRef; rw [e]
    simp only [bor, peek, lstOf, e2, e, ofO_none, Option.bind_none, Option.map_none, R.bind_stuck] at pr
    exact False.elim pr
  | some v =>
    obtain ⟨y, h1, h2⟩ := er.at_ i v e
    refine ⟨y, h1, ?_⟩
    cases v with
    | p d =>
      have e2 : slotRef env i = none := by unfold slotRef; rw [e]
      simp only [bor, peek, lstOf, e2, e, ofO_some, Option.bind_none, Option.map_none, R.bind_ok, unP] at pr
      rw [← eH]
      exact pr s y (.refl s) rfl hr (.inl h2)
    | ref m =>
      have e2 : slotRef env i = some m := by unfold slotRef; rw [e]
      cases e3 : listAt s.h m with
      | none =>
        simp only [bor, peek, lstOf, e2, e, e3, ofO_some, Option.bind_some, Option.map_none, R.bind_ok, unP] at pr
        exact False.elim pr
      | some ts =>
        simp only [bor, peek, lstOf, e2, e, e3, ofO_some, Option.bind_some, Option.map_some, R.bind_ok, unP] at pr
        obtain ⟨xs, q1, q2⟩ := hr.ob m _ (listAt_of e3)
        rw [← eH]
        exact pr s y (.refl s) rfl hr (.inr ⟨ts, _, xs, rfl, h2.2, Rd.of q1, q2⟩)
theorem dp_c {e : Expr} {d : PyData} {v : V} (hpe : ∀ X, PE X e (tC v)) (hd : ∀ K F H, RF K F H d v) : DP Γ N sc e (.lit d) where
  run := fun n I W X g => (hpe X).imp fun σ H Q ⟨env, s, eH, hr, er, pr⟩ => pr.2 v (hd _ _ _)
  pure := fun cf env h => .inl ⟨_, rfl⟩
theorem dp_int {i : Int} {j : Nat} {pos : Pos} : DP Γ N sc (.Constant (.int i) j pos) (.lit (.int i)) := dp_c (fun _ => pe_int) fun _ _ _ => .int _
theorem dp_bool {b : Bool} {j : Nat} {pos : Pos} : DP Γ N sc (.Constant (.bool b) j pos) (.lit (.bool b)) := dp_c (fun _ => pe_bl) fun _ _ _ => .bl _
theorem dp_none {j : Nat} {pos : Pos} : DP Γ N sc (.Constant .none j pos) (.lit .none) := dp_c (fun _ => pe_non) fun _ _ _ => .non
theorem dp_str {y : Str} {j : Nat} {pos : Pos} : DP Γ N sc (.Constant (.str y) j pos) (.lit (.str y)) := dp_c (fun _ => pe_str) fun _ _ _ => .str _
theorem dp_con {d : PyData} (v : GOk sc x) (hm : (x, d) ∈ Γ.cons) : DP Γ N sc (.Name x pos) (.lit d) where
  run := fun n I W X g => by
    obtain ⟨u, y, h1, h2, h3⟩ := g.con _ hm
    exact (pe_glob (v.g g) h1 h2 v.db).imp fun σ H Q ⟨env, s, eH, hr, er, pr⟩ => pr.2 y (h3 _ _)
  pure := fun cf env h => .inl ⟨_, rfl⟩
end
section
variable {Γ : Gm} {N : List Str} {sc : Sco} {e : Expr} {a : E}
theorem DP.b (h : DP Γ N sc e a) (np : ∀ env h, peek env h a = none := by intros; rfl) : DB Γ N sc e a := h.v.b np
end
section
variable {X : Cx} {pins : List (Addr × Obj)} {σ : L2.St} {H : Hp} {s : Shared} {p : Addr} {xs : List V}
def rCatR (K : PySem.W.Frag) : R2 := fun x y H Q => ∃ p q xs ys, x = .ref p ∧ y = .ref q ∧ SqL K H p xs ∧ SqL K H q ys ∧ xs.length + ys.length ≤ sizeLine ∧ ∀ l, H l = none → Q (.ref l) (upd H l (.lst (xs ++ ys)))
theorem op_catR : OpR X (binaryOp .Add) (rCatR X.K) := fun pins s σ H x y v u Q I rx ry ⟨p, q, xs, ys, ex, ey, hp, hq, hz, k⟩ => by
  subst ex ey
  obtain rfl : v = .ref p := rx
  obtain rfl : u = .ref q := ry
  obtain ⟨us, ru, pu, _⟩ := I.list hp
  obtain ⟨ws, rw', pw, _⟩ := I.list hq
  obtain ⟨⟨c1, d1, t1, l1⟩, m1, o1, k1, k2, k3⟩ := pu
  obtain ⟨⟨c2, d2, t2, l2⟩, m2, o2, k4, k5, k6⟩ := pw
  simp only at k1 k2 k3 k4 k5 k6
  subst k1 k2 k3 k4 k5 k6
  have h1 := ru.length
  have h2 := rw'.length
  refine concat_meets ⟨_, o1, rfl⟩ ⟨_, o2, rfl⟩ noFill_list_add seq_list_add PySem.F.slot_list_add PySem.F.entry_list_add (PySem.F.args_list_add_2 _ _) (list_addW p q us.toArray ws.toArray m1 m2 none none l1 l2 (by simp only [List.size_toArray]; omega)) ⟨o1, o2, ?_⟩
  rw [List.append_toArray]
  exact ⟨.ref _, _, I.lnew (ru.append rw') (by simp only [List.length_append]; omega), rfl, k _ I.fresh⟩
end
section
variable {K : PySem.W.Frag} {X : Cx}
theorem ok_sub : Op2Pu K (rI0 fun i j => .int (i - j)) .sub := fun s d1 d2 d x y Q r1 r2 e f => by
  replace e : subD d1 d2 = some d := e
  unfold subD at e
  split at e
  · cases e; rw [r1.int, r2.int]; exact ⟨_, _, rfl, rfl, f _ (.int _)⟩
  · cases e
def rModN : R2 := rI (fun _ j => j ≠ 0) fun i j => .int (i.fmod j)
theorem ok_mod : Op2Pu K rModN .mod := fun s d1 d2 d x y Q r1 r2 e f => by
  replace e : modD d1 d2 = some d := e
  unfold modD at e
  split at e
  · split at e
    · cases e
    · rename_i h
      cases e; rw [r1.int, r2.int]; exact ⟨_, _, rfl, rfl, h, f _ (.int _)⟩
  · cases e
def rDivN : R2 := rI CDivN fun i j => .int (i.fdiv j)
theorem ok_fdiv : Op2Pu K rDivN .fdiv := fun s d1 d2 d x y Q r1 r2 e f => by
  replace e : fdivD d1 d2 = some d := e
  unfold fdivD at e
  split at e
  · split at e
    · rename_i h
      simp only [Bool.and_eq_true, decide_eq_true_eq] at h
      cases e; rw [r1.int, r2.int]; exact ⟨_, _, rfl, rfl, h, f _ (.int _)⟩
    · cases e
  · cases e
/-- t + u, what it lays known -/
def rCatS (K : PySem.W.Frag) : R2 := fun x y H Q => ∃ a b xs ys, x = .ref a ∧ y = .ref b ∧ SqT K H a xs ∧ SqT K H b ys ∧ xs.length + ys.length ≤ sizeLine ∧
  (xs = [] → Q (.ref b) H) ∧ (xs ≠ [] → ys = [] → Q (.ref a) H) ∧ (xs ≠ [] → ys ≠ [] → ∀ p o, H p = none → TupO o → Q (.ref p) (upd H p (.frz o (.tup (xs ++ ys)))))
theorem op_catS {X : Cx} : OpR X (binaryOp .Add) (rCatS X.K) := by
  intro pins s σ H x y v u Q I rx ry h
  obtain ⟨a, b, xs, ys, rfl, rfl, ha, hb, hz, q0, q1, q2⟩ := h
  by_cases hx : xs = []
  · exact op_catA pins s σ H _ _ v u Q I rx ry ⟨a, b, xs, ys, rfl, rfl, ha, hb, hz, q0, fun z => absurd hx z, fun z => absurd hx z⟩
  · cases rx
    cases ry
    obtain ⟨its, r1, p1, _⟩ := I.tuple ha
    obtain ⟨its2, r2, p2, _⟩ := I.tuple hb
    refine HT.cat_tup p1 p2 (fun z => hx (r1.nil_iff.mp z)) (fun z => ⟨.ref a, H, I, rfl, q1 hx (r2.nil_iff.mp z)⟩) (fun z => ?_) (by rw [← r1.length, ← r2.length]; exact hz)
    refine ⟨.ref s.heap.objs.size, _, I.laid (t' := s.toks) (o := .frz { cls := .type "tuple", data := .seq (its ++ its2).toArray } (.tup (xs ++ ys))) (fun b ob q => Heap.get?_push_of_some _ q) (Nat.le_refl _) ?_, rfl, q2 hx (fun w => z (r2.nil_iff.mpr w)) _ _ (I.hok.fresh (Nat.le_refl _)) ⟨rfl, rfl⟩⟩
    exact ⟨Heap.get?_push_size _ rfl, by rw [List.length_append]; exact hz, _, r1.append r2, IsTup.new _ _⟩
/-- ints, texts, tuples, lists -/
def rAdd (K : PySem.W.Frag) : R2 := fun x y H Q => (((rI0 fun i j => .int (i + j)) x y H Q ∨ (∃ i j, x = .str i ∧ y = .str j ∧ i.length + j.length ≤ sizeLine ∧ Q (.str (i ++ j)) H)) ∨ rCatS K x y H Q) ∨ rCatR K x y H Q
theorem op_addA : OpR X (binaryOp .Add) (rAdd X.K) := ((op_add.or op_add_str).or op_catS).or op_catR
theorem ok_add : Op2Ok K (rAdd K) .add := fun s d1 d2 d x y Q r1 r2 e f => by
  replace e : addD d1 d2 = some d := e
  unfold addD at e
  split at e
  · cases e; rw [r1.int, r2.int]; exact .inl (.inl (.inl ⟨_, _, rfl, rfl, f.1 _ (.int _)⟩))
  · split at e
    · rename_i h
      cases e; rw [r1.str, r2.str]; exact .inl (.inl (.inr ⟨_, _, rfl, rfl, h, f.1 _ (.str _)⟩))
    · cases e
  · split at e
    · rename_i h
      cases e
      obtain ⟨a, xs, rfl, h1, q1⟩ := r1.tupN
      obtain ⟨b, ys, rfl, h2, q2⟩ := r2.tupN
      refine .inl (.inr ⟨a, b, xs, ys, rfl, rfl, h1.1, h2.1, by rw [← q1.length, ← q2.length]; exact h, fun e => ?_, fun _ e => ?_, fun _ _ p o hp ho => f.2 p _ hp (tup_new hp ho (q1.append q2))⟩)
      · subst e
        cases q1
        exact f.1 _ (.tup h2 q2)
      · subst e
        cases q2
        rw [List.append_nil] at f
        exact f.1 _ (.tup h1 q1)
    · cases e
  · split at e
    · rename_i h
      cases e
      obtain ⟨a, xs, rfl, h1, q1⟩ := r1.lst
      obtain ⟨b, ys, rfl, h2, q2⟩ := r2.lst
      exact .inr ⟨a, b, xs, ys, rfl, rfl, h1, h2, by rw [← q1.length, ← q2.length]; exact h, fun p hp => f.2 p _ hp (lst_new hp (q1.append q2))⟩
    · cases e
  · cases e
def rAddI : R2 := rI0 fun i j => .int (i + j)
theorem small64_of {i : Int} (h : small64 i = true) : -(2 ^ 64) < i ∧ i < 2 ^ 64 := by
  unfold small64 at h
  rw [decide_eq_true_eq] at h
  omega
theorem ok_mul : Op2Pu K (rI CMul fun i j => .int (i * j)) .mul := fun s d1 d2 d x y Q r1 r2 e f => by
  replace e : mulD d1 d2 = some d := e
  unfold mulD at e
  split at e
  · split at e
    · rename_i h
      cases e
      rw [r1.int, r2.int]
      refine ⟨_, _, rfl, rfl, ?_, f _ (.int _)⟩
      rcases Bool.or_eq_true _ _ ▸ h with h | h
      · exact .inl (small64_of h)
      · exact .inr (small64_of h)
    · cases e
  · cases e
def rCmpD (K : PySem.W.Frag) (f : PyData → PyData → Bool) : R2 := fun x y H Q => ∃ d e, Dp K H x d ∧ Dp K H y e ∧ cmpOk d e = true ∧ Q (.bl (f d e)) H
theorem cmpOk_of {d e : PyData} (h : cmpOk d e = true) : PySem.W.alike d e = true ∧ d ≠ .none ∧ min d.depth e.depth ≤ 64 := by
  unfold cmpOk at h
  simp only [Bool.and_eq_true, decide_eq_true_eq] at h
  refine ⟨h.1.1, fun z => ?_, h.2⟩
  rw [z] at h
  simp [isNoneD] at h
theorem op_ltG (hu : X.A.units + 64 < cLine) : OpR X (compareOp .Lt) (rCmpD X.K fun d e => PySem.W.dataLt d e) := by
  intro pins s σ H x y v u Q I rx ry h
  obtain ⟨d, e, hd, he, c, q⟩ := h
  obtain ⟨as, r1⟩ := Dp.reads I d x v hd rx
  obtain ⟨bs, r2⟩ := Dp.reads I e y u he ry
  obtain ⟨c1, c2, c3⟩ := cmpOk_of c
  exact PySem.W.lt_data r1 r2 c1 c2 (by omega) ⟨.bl _, H, I, rfl, q⟩
theorem op_gtG (hu : X.A.units + 64 < cLine) : OpR X (compareOp .Gt) (rCmpD X.K fun d e => PySem.W.dataLt e d) := by
  intro pins s σ H x y v u Q I rx ry h
  obtain ⟨d, e, hd, he, c, q⟩ := h
  obtain ⟨as, r1⟩ := Dp.reads I d x v hd rx
  obtain ⟨bs, r2⟩ := Dp.reads I e y u he ry
  obtain ⟨c1, c2, c3⟩ := cmpOk_of c
  exact PySem.W.gt_data r1 r2 c1 c2 (by omega) ⟨.bl _, H, I, rfl, q⟩
theorem op_leG (hu : X.A.units + 64 < cLine) : OpR X (compareOp .LtE) (rCmpD X.K fun d e => !PySem.W.dataLt e d) := by
  intro pins s σ H x y v u Q I rx ry h
  obtain ⟨d, e, hd, he, c, q⟩ := h
  obtain ⟨as, r1⟩ := Dp.reads I d x v hd rx
  obtain ⟨bs, r2⟩ := Dp.reads I e y u he ry
  obtain ⟨c1, c2, c3⟩ := cmpOk_of c
  exact PySem.W.le_data r1 r2 c1 c2 (by omega) ⟨.bl _, H, I, rfl, q⟩
theorem op_geG (hu : X.A.units + 64 < cLine) : OpR X (compareOp .GtE) (rCmpD X.K fun d e => !PySem.W.dataLt d e) := by
  intro pins s σ H x y v u Q I rx ry h
  obtain ⟨d, e, hd, he, c, q⟩ := h
  obtain ⟨as, r1⟩ := Dp.reads I d x v hd rx
  obtain ⟨bs, r2⟩ := Dp.reads I e y u he ry
  obtain ⟨c1, c2, c3⟩ := cmpOk_of c
  exact PySem.W.ge_data r1 r2 c1 c2 (by omega) ⟨.bl _, H, I, rfl, q⟩
/-- ints, or data -/
def rCmp (K : PySem.W.Frag) (p : Int → Int → Bool) (f : PyData → PyData → Bool) : R2 := fun x y H Q => (rI0 fun i j => .bl (p i j)) x y H Q ∨ rCmpD K f x y H Q
theorem ok_cmp {p : Int → Int → Bool} {f : PyData → PyData → Bool} {o : O2} (ho : ∀ x y, opf2 o x y = cmpD p f x y) : Op2Pu K (rCmp K p f) o := fun s d1 d2 d x y Q r1 r2 e q => by
  rw [ho] at e
  unfold cmpD at e
  split at e
  · cases e; rw [r1.int, r2.int]; exact .inl ⟨_, _, rfl, rfl, q _ (.bl _)⟩
  · split at e
    · rename_i c
      cases e
      exact .inr ⟨_, _, r1.dp, r2.dp, c, q _ (.bl _)⟩
    · cases e
def rEqA (K : PySem.W.Frag) : R2 := fun x y H Q => rEq x y H Q ∨ rEqD K x y H Q
def rNeA (K : PySem.W.Frag) : R2 := fun x y H Q => rNe x y H Q ∨ rNeD K x y H Q
theorem op_eqA (hu : X.A.units + 64 < cLine) : OpR X (compareOp .Eq) (rEqA X.K) := op_eq.or (op_eqD hu)
theorem op_neA (hu : X.A.units + 64 < cLine) : OpR X (compareOp .NotEq) (rNeA X.K) := op_ne.or (op_neD hu)
theorem eqD_cases {d1 d2 : PyData} {b : Bool} (e : eqD d1 d2 = some b) : b = PyData.eqv d1 d2 ∧ ((scalD d1 = true ∧ scalD d2 = true) ∨ (SeqAt.shaped d1 = true ∧ SeqAt.shaped d2 = true)) := by
  unfold eqD at e
  split at e
  · rename_i h
    rw [Bool.and_eq_true] at h
    cases e
    exact ⟨rfl, .inl h⟩
  · split at e
    · rename_i h
      rw [Bool.and_eq_true] at h
      cases e
      exact ⟨rfl, .inr h⟩
    · cases e
theorem scal_eq {s : Sx} {d1 d2 : PyData} {x y : V} (h1 : scalD d1 = true) (h2 : scalD d2 = true) (r1 : RB K s d1 x) (r2 : RB K s d2 y) : (scal x y = true ∧ PyData.eqv d1 d2 = decide (x = y)) ∨ (SeqAt.shaped d1 = true ∧ SeqAt.shaped d2 = true) := by
  cases d1 with
  | none =>
    rw [r1.non]
    cases d2 with
    | none => rw [r2.non]; exact .inl ⟨rfl, rfl⟩
    | bool b => rw [r2.bl]; exact .inl ⟨rfl, rfl⟩
    | int b => rw [r2.int]; exact .inl ⟨rfl, rfl⟩
    | str b => rw [r2.str]; exact .inl ⟨rfl, rfl⟩
    | _ => cases h2
  | bool a =>
    rw [r1.bl]
    cases d2 with
    | none => rw [r2.non]; exact .inl ⟨rfl, rfl⟩
    | bool b => rw [r2.bl]; exact .inl ⟨rfl, by rw [dec_bl]; rfl⟩
    | int b => exact .inr ⟨rfl, rfl⟩
    | str b => rw [r2.str]; exact .inl ⟨rfl, rfl⟩
    | _ => cases h2
  | int a =>
    rw [r1.int]
    cases d2 with
    | none => rw [r2.non]; exact .inl ⟨rfl, rfl⟩
    | bool b => exact .inr ⟨rfl, rfl⟩
    | int b => rw [r2.int]; exact .inl ⟨rfl, by rw [dec_int]; rfl⟩
    | str b => rw [r2.str]; exact .inl ⟨rfl, rfl⟩
    | _ => cases h2
  | str a =>
    rw [r1.str]
    cases d2 with
    | none => rw [r2.non]; exact .inl ⟨rfl, rfl⟩
    | bool b => rw [r2.bl]; exact .inl ⟨rfl, rfl⟩
    | int b => rw [r2.int]; exact .inl ⟨rfl, rfl⟩
    | str b => rw [r2.str]; exact .inl ⟨rfl, by rw [dec_str]; rfl⟩
    | _ => cases h2
  | _ => cases h1
theorem ok_eq : Op2Pu K (rEqA K) .eq := fun s d1 d2 d x y Q r1 r2 e f => by
  replace e : (eqD d1 d2).map PyData.bool = some d := e
  rw [Option.map_eq_some_iff] at e
  obtain ⟨b, e, rfl⟩ := e
  obtain ⟨rfl, h⟩ := eqD_cases e
  have sh : SeqAt.shaped d1 = true ∧ SeqAt.shaped d2 = true → rEqA K x y s.H Q := fun h => .inr ⟨_, _, r1.dp, r2.dp, h.1, h.2, f _ (.bl _)⟩
  rcases h with ⟨h1, h2⟩ | h
  · rcases scal_eq h1 h2 r1 r2 with ⟨a, b⟩ | h
    · exact .inl ⟨a, by rw [← b]; exact f _ (.bl _)⟩
    · exact sh h
  · exact sh h
theorem ok_ne : Op2Pu K (rNeA K) .ne := fun s d1 d2 d x y Q r1 r2 e f => by
  replace e : (eqD d1 d2).map (fun b => PyData.bool !b) = some d := e
  rw [Option.map_eq_some_iff] at e
  obtain ⟨b, e, rfl⟩ := e
  obtain ⟨rfl, h⟩ := eqD_cases e
  have sh : SeqAt.shaped d1 = true ∧ SeqAt.shaped d2 = true → rNeA K x y s.H Q := fun h => .inr ⟨_, _, r1.dp, r2.dp, h.1, h.2, f _ (.bl _)⟩
  rcases h with ⟨h1, h2⟩ | h
  · rcases scal_eq h1 h2 r1 r2 with ⟨a, b⟩ | h
    · exact .inl ⟨a, by rw [← b]; exact f _ (.bl _)⟩
    · exact sh h
  · exact sh h
theorem RFs.atI {F : Addr → Prop} {H : Hp} {ts : List PyData} {xs : List V} (r : RFs K F H ts xs) {i : Int} {d : PyData} (e : L2.atI ts i = some d) : ∃ v, L2.atI xs i = some v ∧ RF K F H d v := by
  unfold L2.atI at e ⊢
  rw [r.length] at e
  cases h : ixN xs.length i with
  | none => rw [h] at e; cases e
  | some j =>
    rw [h] at e
    exact r.get e
theorem ok_ix : Op2Pu K (rIx K) .ix := fun s d1 d2 d x y Q r1 r2 e f => by
  replace e : ixD d1 d2 = some d := e
  unfold ixD at e
  split at e
  · obtain ⟨a, xs, rfl, h1, q1⟩ := r1.lst
    rw [r2.int]
    obtain ⟨v, e1, rv⟩ := q1.atI e
    exact .inl ⟨a, xs, _, v, rfl, rfl, h1, e1, f v rv⟩
  · obtain ⟨a, xs, rfl, h1, q1⟩ := r1.tup
    rw [r2.int]
    obtain ⟨v, e1, rv⟩ := q1.atI e
    exact .inr (.inl ⟨a, xs, _, v, rfl, rfl, h1, e1, f v rv⟩)
  · unfold strAt at e
    split at e
    · rename_i hz
      rw [Option.map_eq_some_iff] at e
      obtain ⟨c, e, rfl⟩ := e
      rw [r1.str, r2.int]
      exact .inr (.inr ⟨_, _, c, rfl, rfl, hz, e, f _ (.str _)⟩)
    · cases e
  · cases e
end
end Cd
set_option Elab.async false
set_option linter.all false
set_option maxRecDepth 100000
set_option maxHeartbeats 4000000
namespace Cd
open PySem PySem.Spec PyProof.Rows L2
section
variable {K : PySem.W.Frag} {X : Cx}
abbrev one (r : List V → Hp → VK → Prop) : V → Hp → VK → Prop := fun x H Q => r [x] H Q
theorem ok_len : Op1Ok K (one fun xs H Q => ∃ x n, xs = [x] ∧ LenV K x H n ∧ Q (.int n) H) .len := fun s d1 d x Q r e f => by
  replace e : lenD d1 = some d := e
  unfold lenD at e
  split at e
  · cases e
    obtain ⟨a, xs, rfl, h1, q1⟩ := r.lst
    exact ⟨_, _, rfl, .inl ⟨xs, h1, rfl⟩, by rw [← q1.length]; exact f.1 _ (.int _)⟩
  · cases e
    obtain ⟨a, xs, rfl, h1, q1⟩ := r.tup
    exact ⟨_, _, rfl, .inr ⟨xs, h1, rfl⟩, by rw [← q1.length]; exact f.1 _ (.int _)⟩
  · split at e
    · rename_i hz
      cases e
      rw [r.str]
      exact ⟨_, _, rfl, ⟨hz, rfl⟩, f.1 _ (.int _)⟩
    · cases e
  · cases e
def rSumT (K : PySem.W.Frag) : List V → Hp → VK → Prop := fun vs H Q => ∃ (a : Addr) (ns : List Int), vs = [V.ref a] ∧ SqT K H a (ns.map V.int) ∧ Q (.int ns.sum) H
theorem cr_sumT (hc : X.calm = true) : CallR X (.builtin "sum") (rSumT X.K) := by
  intro pins s σ H vs us Q I r h
  obtain ⟨a, ns, rfl, hs, q⟩ := h
  obtain ⟨its, rv, ht, _⟩ := I.tuple hs
  rw [Vals.ref1 r]
  have hi := rv.ints
  obtain ⟨xs, e⟩ := hi.allInts.items
  have hn : numsOf (intItems xs).toList = ns := by rw [← e]; exact hi.numsOf
  rw [nums_intItems] at hn
  rw [e] at ht
  refine PySem.W.ktm_sumG (I.ok.hd hc) (by obtain ⟨o, ho, hcl, n, hd⟩ := ht; exact ⟨o, ho, hcl, n, hd⟩) fun h' tk t' hk => ?_
  refine ⟨.int _, H, I.kept hk, ⟨_, rfl⟩, ?_⟩
  rw [preSum_eq, List.take_of_length_le (by simp), hn]
  exact q
theorem ok_sum : Op1Ok K (one fun xs H Q => rSum K xs H Q ∨ rSumT K xs H Q) .sum := fun s d1 d x Q r e f => by
  replace e : sumD d1 = some d := e
  unfold sumD at e
  split at e
  · rw [Option.map_eq_some_iff] at e
    obtain ⟨ns, e, rfl⟩ := e
    obtain ⟨a, xs, rfl, h1, q1⟩ := r.lst
    obtain ⟨rfl, _⟩ := q1.ints' e
    exact .inl ⟨a, ns, rfl, h1, f.1 _ (.int _)⟩
  · rw [Option.map_eq_some_iff] at e
    obtain ⟨ns, e, rfl⟩ := e
    obtain ⟨a, xs, rfl, h1, q1⟩ := r.tup
    obtain ⟨rfl, _⟩ := q1.ints' e
    exact .inr ⟨a, ns, rfl, h1, f.1 _ (.int _)⟩
  · cases e
theorem maxOk_of {ts : List PyData} (h : maxOk ts = true) : PySem.W.AlikeAll ts ∧ PyData.depthAll ts ≤ 60 := by
  unfold maxOk at h
  simp only [Bool.and_eq_true, decide_eq_true_eq, List.all_eq_true] at h
  refine ⟨⟨fun x hx y hy => h.1.1 x hx y hy, fun x hx z => ?_⟩, h.2⟩
  have := h.1.2 x hx
  rw [z] at this
  simp [isNoneD] at this
/-- the item y of the sequence at a is the f of its data -/
def rBest (K : PySem.W.Frag) (f : PyData → List PyData → PyData) : List V → Hp → VK → Prop := fun vs H Q => ∃ (a : Addr) (xs : List V) (d : PyData) (ds : List PyData), vs = [V.ref a] ∧ (SqL K H a xs ∨ SqT K H a xs) ∧ DpAll K H xs (d :: ds) ∧ maxOk (d :: ds) = true ∧
  ∀ (i : Nat) (y : V), xs[i]? = some y → (d :: ds)[i]? = some (f d ds) → Q y H
theorem vals_get' : ∀ {xs : List V} {us : List Value} {i : Nat} {u : Value}, Vals xs us → us[i]? = some u → ∃ x, xs[i]? = some x ∧ RelV x u
  | _, _, _, _, .nil, e => by simp at e
  | _, _, 0, _, .cons r _, e => by simp at e; subst e; exact ⟨_, rfl, r⟩
  | _, _, i + 1, x, .cons _ t, e => by
    obtain ⟨u, h1, h2⟩ := vals_get' (i := i) (u := x) t (by simpa using e)
    exact ⟨u, by simpa using h1, h2⟩
theorem best_back {pins : List (Addr × Obj)} {s : Shared} {σ : L2.St} {H : Hp} {xs : List V} {its : List Value} {d m : PyData} {ds : List PyData} {Q : VK} {as bs : List Addr} {i : Nat} {v : Value} {h' : Heap} {tk : Nat}
    (I : Inv X pins σ H s) (rv : Vals xs its) (ra : ReadsAll s.heap its (d :: ds) as) (hv : its.toArray[i]? = some v) (r : Reads h' v m bs) (hk : ∀ b o, s.heap.get? b = some o → h'.get? b = some o)
    (q : ∀ (i : Nat) (y : V), xs[i]? = some y → (d :: ds)[i]? = some m → Q y H) : EP X pins σ Q v { s with heap := h', toks := tk } := by
  have hv' : its[i]? = some v := by simpa using hv
  obtain ⟨y, hy, ry⟩ := vals_get' rv hv'
  refine ⟨y, H, I.kept hk, ry, q i y hy ?_⟩
  obtain ⟨cs, r2, hl, _⟩ := PySem.W.readsAll_atA (vs := its.toArray) ra i v hv
  have e : (d :: ds).getD i .none = m := (PySem.W.reads_keeps hk r2).unique _ _ r |>.1
  rw [List.getD_eq_getElem?_getD] at e
  rw [List.getElem?_eq_getElem hl] at e ⊢
  simpa using e
theorem cr_maxG (hc : X.calm = true) (hu : X.A.units + 64 < cLine) : CallR X (.builtin "max") (rBest X.K PySem.W.maxD) := by
  intro pins s σ H vs us Q I r h
  obtain ⟨a, xs, d, ds, rfl, hs, dp, ok, q⟩ := h
  obtain ⟨al, dl⟩ := maxOk_of ok
  rw [Vals.ref1 r]
  rcases hs with hs | hs
  · obtain ⟨its, rv, hl, _⟩ := I.list hs
    obtain ⟨as, ra⟩ := Dp.readsAll I _ _ its dp rv
    exact PySem.W.max_list_data (I.ok.hd hc) hl.isList ra al (by omega) fun i v h' tk bs hv r hk => best_back I rv ra hv r hk q
  · obtain ⟨its, rv, ⟨o, ho, hcl, n, hd⟩, _⟩ := I.tuple hs
    obtain ⟨as, ra⟩ := Dp.readsAll I _ _ its dp rv
    exact PySem.W.max_tuple_data (I.ok.hd hc) ⟨o, ho, hcl, n, hd⟩ ra al (by omega) fun i v h' tk bs hv r hk => best_back I rv ra hv r hk q
theorem cr_minG (hc : X.calm = true) (hu : X.A.units + 64 < cLine) : CallR X (.builtin "min") (rBest X.K PySem.W.minD) := by
  intro pins s σ H vs us Q I r h
  obtain ⟨a, xs, d, ds, rfl, hs, dp, ok, q⟩ := h
  obtain ⟨al, dl⟩ := maxOk_of ok
  rw [Vals.ref1 r]
  rcases hs with hs | hs
  · obtain ⟨its, rv, hl, _⟩ := I.list hs
    obtain ⟨as, ra⟩ := Dp.readsAll I _ _ its dp rv
    exact PySem.W.min_list_data (I.ok.hd hc) hl.isList ra al (by omega) fun i v h' tk bs hv r hk => best_back I rv ra hv r hk q
  · obtain ⟨its, rv, ⟨o, ho, hcl, n, hd⟩, _⟩ := I.tuple hs
    obtain ⟨as, ra⟩ := Dp.readsAll I _ _ its dp rv
    exact PySem.W.min_tuple_data (I.ok.hd hc) ⟨o, ho, hcl, n, hd⟩ ra al (by omega) fun i v h' tk bs hv r hk => best_back I rv ra hv r hk q
theorem ok_any : Op1Ok K (one (rAny K)) .any := fun s d1 d x Q r e f => by
  replace e : anyS d1 = some d := e
  unfold anyS at e
  split at e
  · rw [Option.map_eq_some_iff] at e
    obtain ⟨ns, e, rfl⟩ := e
    obtain ⟨a, xs, rfl, h1, q1⟩ := r.lst
    obtain ⟨rfl, _⟩ := q1.bools' e
    exact ⟨a, ns, rfl, h1, f.1 _ (.bl _)⟩
  · cases e
theorem ok_all : Op1Ok K (one (rAll K)) .all := fun s d1 d x Q r e f => by
  replace e : allS d1 = some d := e
  unfold allS at e
  split at e
  · rw [Option.map_eq_some_iff] at e
    obtain ⟨ns, e, rfl⟩ := e
    obtain ⟨a, xs, rfl, h1, q1⟩ := r.lst
    obtain ⟨rfl, _⟩ := q1.bools' e
    exact ⟨a, ns, rfl, h1, f.1 _ (.bl _)⟩
  · cases e
/-- tuple(x), what it lays known -/
def rTupS (K : PySem.W.Frag) : List V → Hp → VK → Prop := fun xs H Q => ∃ p ys, xs = [.ref p] ∧ ((SqL K H p ys ∧ ∀ l o, H l = none → TupO o → Q (.ref l) (upd H l (.frz o (.tup ys)))) ∨ (SqT K H p ys ∧ Q (.ref p) H))
theorem call_tuple_S {X : Cx} : CallR X (.type "tuple") (rTupS X.K) := by
  intro pins s σ H xs us Q I r h
  obtain ⟨p, ys, rfl, h⟩ := h
  obtain ⟨u, rfl, rx⟩ := vals1 r
  cases rx
  rcases h with ⟨hq, q⟩ | ⟨hq, q⟩
  · obtain ⟨its, r', pl, hz⟩ := I.list hq
    have hlen := r'.length
    refine call_tuple_list pl.isList (fun h' kp => ?_) (by simp only [List.size_toArray] <;> omega)
    have I1 : Inv _ pins σ H { s with heap := h' } := I.kept (t' := s.toks) kp
    have I2 : Inv _ pins σ (upd H h'.objs.size (.frz { cls := .type "tuple", data := .seq its.toArray } (.tup ys))) { s with heap := h'.push { cls := .type "tuple", data := .seq its.toArray } } :=
      I1.laid (t' := s.toks) (fun b o e => Heap.get?_push_of_some _ e) (Nat.le_refl _) (show ObjOk _ _ _ _ _ (.frz _ (.tup ys)) from ⟨Heap.get?_push_size _ rfl, hz, its, r', IsTup.new _ _⟩)
    exact ⟨.ref h'.objs.size, _, I2, rfl, q _ _ (I1.hok.fresh (Nat.le_refl _)) ⟨rfl, rfl⟩⟩
  · obtain ⟨its, r', pl, hz⟩ := I.tuple hq
    exact call_tuple_same pl ⟨.ref p, H, I, rfl, q⟩
theorem ok_tuple : Op1Ok K (one (rTupS K)) .tuple := fun s d1 d x Q r e f => by
  replace e : tupleS d1 = some d := e
  unfold tupleS at e
  split at e
  · cases e
    obtain ⟨a, xs, rfl, h1, q1⟩ := r.lst
    exact ⟨a, xs, rfl, .inl ⟨h1, fun p o hp ho => f.2 p _ hp (tup_new hp ho q1)⟩⟩
  · cases e
    obtain ⟨a, xs, rfl, h1, q1⟩ := r.tupN
    exact ⟨a, xs, rfl, .inr ⟨h1.1, f.1 _ (.tup h1 q1)⟩⟩
  · cases e
/-- a new list of a list's, a tuple's, a text's -/
def rListA (K : PySem.W.Frag) : List V → Hp → VK → Prop := fun xs H Q => (∃ p ys, xs = [.ref p] ∧ (SqL K H p ys ∨ SqT K H p ys) ∧ ∀ l, H l = none → Q (.ref l) (upd H l (.lst ys))) ∨ (∃ z : Str, xs = [.str z] ∧ z.cps.size ≤ sizeLine ∧ ∀ l, H l = none → Q (.ref l) (upd H l (.lst (z.cps.toList.map fun c => V.str ⟨#[c]⟩))))
theorem vals_at : ∀ (xs : List V) (us : List Value), us.length = xs.length → (∀ (j : Nat) (u : Value), us[j]? = some u → ∃ x, xs[j]? = some x ∧ RelV x u) → Vals xs us
  | [], [], _, _ => .nil
  | [], _ :: _, h, _ => by cases h
  | _ :: _, [], h, _ => by cases h
  | x :: xs, u :: us, h, k => by
    refine .cons ?_ (vals_at xs us (by simpa using h) fun j w e => k (j + 1) w e)
    obtain ⟨y, e, r⟩ := k 0 u rfl
    cases e
    exact r
theorem call_list_txt {X : Cx} (hc : X.calm = true) : CallR X (.type "list") (fun xs H Q => ∃ z : Str, xs = [.str z] ∧ z.cps.size ≤ sizeLine ∧ ∀ l, H l = none → Q (.ref l) (upd H l (.lst (z.cps.toList.map fun c => V.str ⟨#[c]⟩)))) := by
  intro pins s σ H xs us Q I r h
  obtain ⟨z, rfl, hz, q⟩ := h
  obtain ⟨u, rfl, rx⟩ := vals1 r
  obtain ⟨t, rfl⟩ := rx
  refine call_list_str (I.ok.hd hc) z t (fun h' tk acc c' kp e ia => ?_) hz
  have ln : acc.toList.length = (z.cps.toList.map fun c => V.str ⟨#[c]⟩).length := by rw [List.length_map, Array.length_toList, Array.length_toList]; exact ia.1
  have rv : Vals (z.cps.toList.map fun c => V.str ⟨#[c]⟩) acc.toList := vals_at _ _ ln fun j w ew => by
    rw [Array.getElem?_toList] at ew
    obtain ⟨c, tk', e1, e2⟩ := ia.2 j w ew
    refine ⟨.str ⟨#[c]⟩, ?_, ?_⟩
    · rw [List.getElem?_map, Array.getElem?_toList, e1]; rfl
    · rw [e2]; exact ⟨_, rfl⟩
  exact ⟨.ref s.heap.objs.size, _, I.laid (t' := tk) kp (Nat.le_refl _) (show ObjOk X.prog X.w _ h' _ (.lst (z.cps.toList.map fun c => V.str ⟨#[c]⟩)) from ⟨by rw [← ln, Array.length_toList, ia.1]; exact hz, acc.toList, c', rv, e⟩), rfl, q _ (I.hok.fresh (Nat.le_refl _))⟩
theorem ok_neg : Op1Ok K (rU fun i => .int (-i)) .neg := fun s d1 d x Q r e f => by
  replace e : negS d1 = some d := e
  unfold negS at e
  split at e
  · cases e
    rw [r.int]
    exact ⟨_, rfl, f.1 _ (.int _)⟩
  · cases e
theorem none_iff {s : Sx} {d : PyData} {x : V} (r : RB K s d x) : isNoneD d = decide (x = .non) := by
  rcases r with r | ⟨ts, a, xs, rfl, rfl, h, t⟩
  · cases r <;> rfl
  · rfl
theorem ok_isNone : Op1Ok K (fun x H Q => Q (.bl (decide (x = .non))) H) .isNone := fun s d1 d x Q r e f => by
  replace e : some (PyData.bool (isNoneD d1)) = some d := e
  cases e
  show Q (.bl (decide (x = .non))) s.H
  rw [← none_iff r]
  exact f.1 _ (.bl _)
theorem ok_notNone : Op1Ok K (fun x H Q => Q (.bl (!decide (x = .non))) H) .notNone := fun s d1 d x Q r e f => by
  replace e : some (PyData.bool !(isNoneD d1)) = some d := e
  cases e
  show Q (.bl (!decide (x = .non))) s.H
  rw [← none_iff r]
  exact f.1 _ (.bl _)
theorem insI_perm (x : Int) : ∀ l : List Int, (insI x l).Perm (x :: l)
  | [] => .refl _
  | y :: r => by
    unfold insI
    split
    · exact .refl _
    · exact ((insI_perm x r).cons y).trans (.swap x y r)
theorem insI_sorted (x : Int) : ∀ l : List Int, l.Pairwise (· ≤ ·) → (insI x l).Pairwise (· ≤ ·)
  | [], _ => by simp [insI]
  | y :: r, h => by
    unfold insI
    rw [List.pairwise_cons] at h
    split
    · rename_i hx
      refine List.pairwise_cons.mpr ⟨fun z hz => ?_, List.pairwise_cons.mpr h⟩
      rcases List.mem_cons.mp hz with rfl | hz
      · exact hx
      · exact Int.le_trans hx (h.1 z hz)
    · rename_i hx
      refine List.pairwise_cons.mpr ⟨fun z hz => ?_, insI_sorted x r h.2⟩
      rcases List.mem_cons.mp ((insI_perm x r).mem_iff.mp hz) with rfl | hz
      · omega
      · exact h.1 z hz
theorem sortI_perm : ∀ l : List Int, (sortI l).Perm l
  | [] => .refl _
  | x :: r => (insI_perm x (sortI r)).trans ((sortI_perm r).cons x)
theorem sortI_sorted : ∀ l : List Int, (sortI l).Pairwise (· ≤ ·)
  | [] => .nil
  | x :: r => insI_sorted x _ (sortI_sorted r)
theorem sorted_uniq {l m : List Int} (p : l.Perm m) (h1 : l.Pairwise (· ≤ ·)) (h2 : m.Pairwise (· ≤ ·)) : l = m := p.eq_of_pairwise (fun _ _ _ _ a b => Int.le_antisymm a b) h1 h2
end
end Cd
set_option Elab.async false
set_option linter.all false
set_option maxRecDepth 100000
set_option maxHeartbeats 4000000
namespace Cd
open PySem PySem.Spec PyProof.Rows L2
section
variable {Γ : Gm} {N : List Str} {sc : Sco} {e ea eb ec : Expr} {a b c : E} {o : O2} {pos p p2 : Pos}
structure NB (Γ : Gm) (sc : Sco) (x : Str) : Prop where
  g : GOk sc x
  m : x ∈ Γ.nobs
theorem GX.hu {n : Nat} {I : Inf} {W : WX} {X : Cx} (g : GX Γ n I N sc W X) : X.A.units + 64 < cLine := g.room.units
theorem de_addD (ha : DV Γ N sc ea a) (hb : DV Γ N sc eb b) : DE Γ N sc (.BinOp ea .Add eb pos) (.op2d .add a b) := de_op2d (r := fun X => rAdd X.K) (fun _ _ _ X g ta tb h1 h2 => pe_op op_addA h1 h2) (fun _ _ _ X g => ok_add) ha hb
theorem de_subD (ha : DV Γ N sc ea a) (hb : DV Γ N sc eb b) : DE Γ N sc (.BinOp ea .Sub eb pos) (.op2d .sub a b) := de_op2d (fun _ _ _ X g ta tb h1 h2 => pe_op op_sub h1 h2) (fun _ _ _ X g => ok_sub.ok) ha hb
theorem de_mulD (ha : DV Γ N sc ea a) (hb : DV Γ N sc eb b) : DE Γ N sc (.BinOp ea .Mult eb pos) (.op2d .mul a b) := de_op2d (fun _ _ _ X g ta tb h1 h2 => pe_op op_mul h1 h2) (fun _ _ _ X g => ok_mul.ok) ha hb
theorem de_divD (ha : DV Γ N sc ea a) (hb : DV Γ N sc eb b) : DE Γ N sc (.BinOp ea .FloorDiv eb pos) (.op2d .fdiv a b) := de_op2d (r := fun _ => rDivN) (fun _ _ _ X g ta tb h1 h2 => pe_op op_fdivN h1 h2) (fun _ _ _ X g => ok_fdiv.ok) ha hb
theorem de_modD (ha : DV Γ N sc ea a) (hb : DV Γ N sc eb b) : DE Γ N sc (.BinOp ea .Mod eb pos) (.op2d .mod a b) := de_op2d (r := fun _ => rModN) (fun _ _ _ X g ta tb h1 h2 => pe_op op_modN h1 h2) (fun _ _ _ X g => ok_mod.ok) ha hb
theorem dp_mod (ha : DP Γ N sc ea a) (hb : DP Γ N sc eb b) : DP Γ N sc (.BinOp ea .Mod eb pos) (.op2d .mod a b) := dp_op2d (r := fun _ => rModN) (fun _ _ _ X g ta tb h1 h2 => pe_op op_modN h1 h2) (fun _ _ _ X g => ok_mod) ha hb
/-- the sum of ints alone -/
theorem ok_addP {K : PySem.W.Frag} : Op2Pu K rAddI .addI := fun s d1 d2 d x y Q r1 r2 e f => by
  replace e : addI d1 d2 = some d := e
  unfold addI at e
  split at e
  · cases e; rw [r1.int, r2.int]; exact ⟨_, _, rfl, rfl, f _ (.int _)⟩
  · cases e
theorem dp_add (ha : DP Γ N sc ea a) (hb : DP Γ N sc eb b) : DP Γ N sc (.BinOp ea .Add eb pos) (.op2d .addI a b) := dp_op2d (r := fun _ => rAddI) (fun _ _ _ X g ta tb h1 h2 => pe_op op_add h1 h2) (fun _ _ _ X g => ok_addP) ha hb
theorem de_neg (ha : DB Γ N sc ea a) : DE Γ N sc (.UnaryOp .USub ea pos) (.op1 .neg a) := de_op1 (r := fun _ => rU fun i => .int (-i)) (fun _ _ _ X g ta h => pe_un un_neg h) (fun _ _ _ X g => ok_neg) ha
theorem de_gt (ha : DV Γ N sc ea a) (hb : DB Γ N sc eb b) : DE Γ N sc (.Compare ea [.Gt] [eb] pos) (.op2 .gt a b) := de_op2 (r := fun X => rCmp X.K (fun i j => decide (j < i)) fun d e => PySem.W.dataLt e d) (fun _ _ _ X g ta tb h1 h2 => pe_cmpR (op_gt.or (op_gtG g.hu)) h1 h2 (nomark _)) (fun _ _ _ X g => (ok_cmp fun _ _ => rfl).ok) ha hb
theorem de_ge (ha : DV Γ N sc ea a) (hb : DB Γ N sc eb b) : DE Γ N sc (.Compare ea [.GtE] [eb] pos) (.op2 .ge a b) := de_op2 (r := fun X => rCmp X.K (fun i j => decide (j ≤ i)) fun d e => !PySem.W.dataLt d e) (fun _ _ _ X g ta tb h1 h2 => pe_cmpR (op_ge.or (op_geG g.hu)) h1 h2 (nomark _)) (fun _ _ _ X g => (ok_cmp fun _ _ => rfl).ok) ha hb
theorem de_eq (ha : DV Γ N sc ea a) (hb : DB Γ N sc eb b) : DE Γ N sc (.Compare ea [.Eq] [eb] pos) (.op2 .eq a b) := de_op2 (r := fun X => rEqA X.K) (fun _ _ _ X g ta tb h1 h2 => pe_cmpR (op_eqA g.hu) h1 h2 (nomark _)) (fun _ _ _ X g => ok_eq.ok) ha hb
theorem de_ne (ha : DV Γ N sc ea a) (hb : DB Γ N sc eb b) : DE Γ N sc (.Compare ea [.NotEq] [eb] pos) (.op2 .ne a b) := de_op2 (r := fun X => rNeA X.K) (fun _ _ _ X g ta tb h1 h2 => pe_cmpR (op_neA g.hu) h1 h2 (nomark _)) (fun _ _ _ X g => ok_ne.ok) ha hb
theorem de_ix (ha : DV Γ N sc ea a) (hb : DB Γ N sc eb b) (hs : PlainIx eb := by exact fun _ _ => rfl) : DE Γ N sc (.Subscript ea eb pos) (.op2 .ix a b) := de_op2 (r := fun X => rIx X.K) (fun _ _ _ X g ta tb h1 h2 => pe_ix ix_seq h1 h2 hs) (fun _ _ _ X g => ok_ix.ok) ha hb
theorem de_ixB (ha : DB Γ N sc ea a) (hb : DP Γ N sc eb b) (hs : PlainIx eb := by exact fun _ _ => rfl) : DE Γ N sc (.Subscript ea eb pos) (.op2b .ix a b) := de_op2b (r := fun X => rIx X.K) (fun _ _ _ X g ta tb h1 h2 => pe_ix ix_seq h1 h2 hs) (fun _ _ _ X g => ok_ix.ok) ha hb
theorem dp_ix (ha : DP Γ N sc ea a) (hb : DP Γ N sc eb b) (hs : PlainIx eb := by exact fun _ _ => rfl) : DP Γ N sc (.Subscript ea eb pos) (.op2d .ix a b) := dp_op2d (r := fun X => rIx X.K) (fun _ _ _ X g ta tb h1 h2 => pe_ix ix_seq h1 h2 hs) (fun _ _ _ X g => ok_ix) ha hb
abbrev Se1 (e : Expr) : Prop := ∀ env, starEach [e] env = (false, eval e env) :: starEach [] env
abbrev Se2 (e f : Expr) : Prop := ∀ env, starEach [e, f] env = (false, eval e env) :: starEach [f] env
theorem pe_bi1 {n : Nat} {I : Inf} {W : WX} {X : Cx} {x : Str} {id : String} {r : List V → Hp → VK → Prop} {ta : TE} (g : GX Γ n I N sc W X) (hc : CallR X (.builtin id) r) (v : NB Γ sc x) (hv : bootBuiltins x = some (.builtin id)) (h : PE X ea ta) (se : Se1 ea) :
    PE X (.Call (.Name x p) [ea] [] pos) (tUn (one r) ta) := pe_callB hc (v.g.g g) (g.nob _ v.m) hv (pa_cons h pa_nil (se _)) v.g.nm v.g.db (se _)
theorem pe_ty1 {n : Nat} {I : Inf} {W : WX} {X : Cx} {x : Str} {id : String} {r : List V → Hp → VK → Prop} {ta : TE} (g : GX Γ n I N sc W X) (hc : CallR X (.type id) r) (v : NB Γ sc x) (hv : bootBuiltins x = some (.type id)) (h : PE X ea ta) (se : Se1 ea) :
    PE X (.Call (.Name x p) [ea] [] pos) (tUn (one r) ta) := pe_callTy hc (v.g.g g) (g.nob _ v.m) hv (pa_cons h pa_nil (se _)) v.g.nm v.g.db (se _)
theorem de_len (v : NB Γ sc "len") (ha : DB Γ N sc ea a) (se : Se1 ea := by intro _; rfl) : DE Γ N sc (.Call (.Name "len" p) [ea] [] pos) (.op1 .len a) := de_op1 (fun _ _ _ X g ta h => pe_bi1 g call_len v boot_len h se) (fun _ _ _ X g => ok_len) ha
theorem de_sum (v : NB Γ sc "sum") (ha : DB Γ N sc ea a) (se : Se1 ea := by intro _; rfl) : DE Γ N sc (.Call (.Name "sum" p) [ea] [] pos) (.op1 .sum a) := de_op1 (fun _ _ _ X g ta h => pe_bi1 g ((cr_sum g.calm).or (cr_sumT g.calm)) v (by decide +kernel) h se) (fun _ _ _ X g => ok_sum) ha
theorem de_any (v : NB Γ sc "any") (ha : DB Γ N sc ea a) (se : Se1 ea := by intro _; rfl) : DE Γ N sc (.Call (.Name "any" p) [ea] [] pos) (.op1 .any a) := de_op1 (fun _ _ _ X g ta h => pe_bi1 g (cr_any g.calm) v (by decide +kernel) h se) (fun _ _ _ X g => ok_any) ha
theorem de_all (v : NB Γ sc "all") (ha : DB Γ N sc ea a) (se : Se1 ea := by intro _; rfl) : DE Γ N sc (.Call (.Name "all" p) [ea] [] pos) (.op1 .all a) := de_op1 (fun _ _ _ X g ta h => pe_bi1 g (cr_all g.calm) v (by decide +kernel) h se) (fun _ _ _ X g => ok_all) ha
theorem de_tuple (v : NB Γ sc "tuple") (ha : DB Γ N sc ea a) (se : Se1 ea := by intro _; rfl) : DE Γ N sc (.Call (.Name "tuple" p) [ea] [] pos) (.op1 .tuple a) := de_op1 (fun _ _ _ X g ta h => pe_ty1 g call_tuple_S v (by decide +kernel) h se) (fun _ _ _ X g => ok_tuple) ha
end
section
variable {Γ : Gm} {N : List Str} {sc : Sco} {e ea eb ec : Expr} {a b c : E} {ta tb : Te} {pos p p2 : Pos} {rest : List Expr}
theorem truth_rb {K : PySem.W.Frag} {s : Sx} {d : PyData} {x : V} {k : Bool} (r : RB K s d x) (e : truthD d = some k) : TruV K x s.H k := by
  unfold truthD at e
  split at e
  · cases e; rw [r.non]; rfl
  · cases e; rw [r.bl]; rfl
  · cases e; rw [r.int]; rfl
  · cases e
    obtain ⟨a, xs, rfl, h, q⟩ := r.lst
    exact .inl ⟨xs, h, by cases q <;> rfl⟩
  · cases e
    obtain ⟨a, xs, rfl, h, q⟩ := r.tup
    exact .inr (.inl ⟨xs, h, by cases q <;> rfl⟩)
  · split at e
    · rename_i hz
      cases e; rw [r.str]; exact ⟨hz, rfl⟩
    · cases e
  · cases e
/-- an expression as a test -/
theorem dt_val (ha : DB Γ N sc ea a) (he : ∀ env whole, isTrue ea env whole = (do let v ← whole; standAt ea.pos; holding [v] (truthy v)) := by intro _ _; rfl) : DT Γ N sc ea (.val a) := fun n I W X g =>
  (pt_truth (ha n I W X g) (he _)).imp fun σ H Q q => by
    obtain ⟨env, s, eH, hr, er, _, pr⟩ := At.bind (Rel1 := RB X.K) (ev2 := fun x env h => ofO (truthD x) h) q
    refine ⟨env, s, eH, hr, er, trivial, ?_⟩
    refine PR.mono pr fun x H1 ⟨d, env, s, e, hr, er, ⟨_, rb⟩, pr⟩ => ?_
    replace pr : PR X.K I W s σ (ofO (truthD d) s.h) _ Q := pr
    cases e1 : truthD d with
    | none => rw [e1] at pr; exact False.elim pr
    | some k =>
      rw [e1] at pr
      subst e
      exact ⟨k, truth_rb rb e1, pr s k (.refl s) rfl hr rfl⟩
def BoolE (a : E) : Prop := ∀ cf env h v h', evalE cf env a h = .ok v h' → ∃ k, v = .p (.bool k)
theorem boolR {α : Type} {r : R α} {k : α → Hi → R Val} {v : Val} {h' : Hi} (hk : ∀ x h, k x h = .ok v h' → ∃ b, v = .p (.bool b)) (e : r.bind k = .ok v h') : ∃ b, v = .p (.bool b) := by
  cases r with
  | ok a h => exact hk a h e
  | exc e2 h => cases e
  | stuck => cases e
theorem bool_ofO {o : Option PyData} {h h' : Hi} {v : Val} (hb : ∀ d, o = some d → ∃ k, d = .bool k) (e : ofO (o.map Val.p) h = .ok v h') : ∃ b, v = .p (.bool b) := by
  cases o with
  | none => cases e
  | some d =>
    obtain ⟨k, rfl⟩ := hb d rfl
    cases e
    exact ⟨k, rfl⟩
theorem cmp_bool {p : Int → Int → Bool} {f : PyData → PyData → Bool} {x y d : PyData} (e : cmpD p f x y = some d) : ∃ k, d = .bool k := by
  unfold cmpD at e
  split at e
  · cases e; exact ⟨_, rfl⟩
  · split at e
    · cases e; exact ⟨_, rfl⟩
    · cases e
theorem eq_bool {o : Option Bool} {f : Bool → Bool} {d : PyData} (e : o.map (fun b => PyData.bool (f b)) = some d) : ∃ k, d = .bool k := by
  rw [Option.map_eq_some_iff] at e
  obtain ⟨b, _, rfl⟩ := e
  exact ⟨_, rfl⟩
theorem boolE_op1 {o : O1} (hb : ∀ x d, opf1 o x = some d → ∃ k, d = .bool k) : BoolE (.op1 o a) := fun cf env h v h' e => boolR (r := bor env h a (evalE cf env a h)) (k := fun x h1 => ofO ((opf1 o x).map Val.p) h1) (fun x h1 e => bool_ofO (hb x) e) e
theorem boolE_op2 {o : O2} (hb : ∀ x y d, opf2 o x y = some d → ∃ k, d = .bool k) : BoolE (.op2 o a b) := fun cf env h v h' e => boolR (r := (evalE cf env a h).bind unP) (k := fun x h1 => (bor env h1 b (evalE cf env b h1)).bind fun y h2 => ofO ((opf2 o x y).map Val.p) h2)
  (fun x h1 e => boolR (k := fun y h2 => ofO ((opf2 o x y).map Val.p) h2) (fun y h2 e => bool_ofO (hb x y) e) e) e
theorem test_imp {n : Nat} {I : Inf} {W : WX} {X : Cx} (hb : BoolE a) (np : ∀ env h, peek env h a = none) {σ : L2.St} {H : Hp} {Q : Bool → Hp → Prop} (q : tE X.K I W (fun env h => evalT (callF Γ.fns n) env (.val a) h) (fun _ a x => x = a) σ H Q) :
    tE X.K I W (fun env h => evalE (callF Γ.fns n) env a h) (VR X.K) σ H (fun z H1 => ∃ k, z = .bl k ∧ Q k H1) := by
  obtain ⟨env, s, eH, hr, er, _, pr⟩ := q
  refine ⟨env, s, eH, hr, er, trivial, ?_⟩
  replace pr : PR X.K I W s σ ((bor env s.h a (evalE (callF Γ.fns n) env a s.h)).bind fun d h1 => ofO (truthD d) h1) (fun _ a x => x = a) Q := pr
  simp only [bor, np] at pr
  have hb' := hb (callF Γ.fns n) env s.h
  show PR X.K I W s σ (evalE (callF Γ.fns n) env a s.h) (VR X.K) _
  generalize evalE (callF Γ.fns n) env a s.h = r at pr hb' ⊢
  cases r with
  | ok v h1 =>
    obtain ⟨k, rfl⟩ := hb' v h1 rfl
    intro s' x l eh hr' rv
    exact ⟨k, RF.bl_inv rv, pr s' k l eh hr' rfl⟩
  | exc e h1 => exact pr
  | stuck => exact pr
theorem dt_op1 {o : O1} {r : Cx → V → Hp → VK → Prop} (hpt : ∀ n I W X, GX Γ n I N sc W X → ∀ t, PE X ea t → PT X e (fun σ H Q => tUn (r X) t σ H fun z H1 => ∃ k, z = .bl k ∧ Q k H1)) (ok : ∀ n I W X, GX Γ n I N sc W X → Op1Ok X.K (r X) o) (hb : ∀ x d, opf1 o x = some d → ∃ k, d = .bool k) (ha : DB Γ N sc ea a) : DT Γ N sc e (.val (.op1 o a)) := fun n I W X g =>
  (hpt n I W X g _ (ha n I W X g)).imp fun σ H Q q => op1_imp (ok n I W X g) (test_imp (boolE_op1 hb) (fun _ _ => rfl) q)
theorem dt_op2 {o : O2} {r : Cx → R2} (hpt : ∀ n I W X, GX Γ n I N sc W X → ∀ t t2, PE X ea t → PE X eb t2 → PT X e (tTest (tOp (r X) t t2))) (ok : ∀ n I W X, GX Γ n I N sc W X → Op2Ok X.K (r X) o) (hb : ∀ x y d, opf2 o x y = some d → ∃ k, d = .bool k) (ha : DV Γ N sc ea a) (hb2 : DB Γ N sc eb b) : DT Γ N sc e (.val (.op2 o a b)) := fun n I W X g =>
  (hpt n I W X g _ _ (ha n I W X g) (hb2 n I W X g)).imp fun σ H Q q => op2_imp (ok n I W X g) (test_imp (boolE_op2 hb) (fun _ _ => rfl) q)
theorem dt_lt (ha : DV Γ N sc ea a) (hb : DB Γ N sc eb b) : DT Γ N sc (.Compare ea [.Lt] [eb] pos) (.val (.op2 .lt a b)) := dt_op2 (r := fun X => rCmp X.K (fun i j => decide (i < j)) fun d e => PySem.W.dataLt d e) (fun _ _ _ X g ta tb h1 h2 => pt_cmpR (op_lt.or (op_ltG g.hu)) h1 h2 (nomark _)) (fun _ _ _ X g => (ok_cmp fun _ _ => rfl).ok) (fun _ _ _ e => cmp_bool e) ha hb
theorem dt_gt (ha : DV Γ N sc ea a) (hb : DB Γ N sc eb b) : DT Γ N sc (.Compare ea [.Gt] [eb] pos) (.val (.op2 .gt a b)) := dt_op2 (r := fun X => rCmp X.K (fun i j => decide (j < i)) fun d e => PySem.W.dataLt e d) (fun _ _ _ X g ta tb h1 h2 => pt_cmpR (op_gt.or (op_gtG g.hu)) h1 h2 (nomark _)) (fun _ _ _ X g => (ok_cmp fun _ _ => rfl).ok) (fun _ _ _ e => cmp_bool e) ha hb
theorem dt_eq (ha : DV Γ N sc ea a) (hb : DB Γ N sc eb b) : DT Γ N sc (.Compare ea [.Eq] [eb] pos) (.val (.op2 .eq a b)) := dt_op2 (r := fun X => rEqA X.K) (fun _ _ _ X g ta tb h1 h2 => pt_cmpR (op_eqA g.hu) h1 h2 (nomark _)) (fun _ _ _ X g => ok_eq.ok) (fun _ _ _ e => eq_bool (f := id) e) ha hb
theorem dt_ne (ha : DV Γ N sc ea a) (hb : DB Γ N sc eb b) : DT Γ N sc (.Compare ea [.NotEq] [eb] pos) (.val (.op2 .ne a b)) := dt_op2 (r := fun X => rNeA X.K) (fun _ _ _ X g ta tb h1 h2 => pt_cmpR (op_neA g.hu) h1 h2 (nomark _)) (fun _ _ _ X g => ok_ne.ok) (fun _ _ _ e => eq_bool (f := not) e) ha hb
theorem dt_isNone {j : Nat} (ha : DB Γ N sc ea a) : DT Γ N sc (.Compare ea [.Is] [.Constant .none j p] pos) (.val (.op1 .isNone a)) := dt_op1 (r := fun _ x H Q => Q (.bl (decide (x = .non))) H) (fun _ _ _ X g ta h => pt_cmp (pc_isN h) (nobehind _ (by decide) (by decide))) (fun _ _ _ X g => ok_isNone) (fun x d e => by cases e; exact ⟨_, rfl⟩) ha
theorem dt_notNone {j : Nat} (ha : DB Γ N sc ea a) : DT Γ N sc (.Compare ea [.IsNot] [.Constant .none j p] pos) (.val (.op1 .notNone a)) := dt_op1 (r := fun _ x H Q => Q (.bl (!decide (x = .non))) H) (fun _ _ _ X g ta h => pt_cmp (pc_notN h) (nobehind _ (by decide) (by decide))) (fun _ _ _ X g => ok_notNone) (fun x d e => by cases e; exact ⟨_, rfl⟩) ha
theorem dt_not (ha : DT Γ N sc ea ta) : DT Γ N sc (.UnaryOp .Not ea pos) (.not_ ta) := fun n I W X g =>
  (pt_not (ha n I W X g)).imp fun σ H Q q => by
    obtain ⟨env, s, eH, hr, er, _, pr⟩ := At.bind (Rel1 := fun _ a x => x = a) (ev2 := fun x env h => R.ok (!x) h) q
    refine ⟨env, s, eH, hr, er, trivial, ?_⟩
    refine PR.mono pr fun x H1 ⟨d, env, s, e, hr, er, ⟨_, rb⟩, pr⟩ => ?_
    subst e rb
    exact pr s _ (.refl s) rfl hr rfl
/-- and, or: what stands between -/
def DW (Γ : Gm) (N : List Str) (sc : Sco) (e : Expr) (a : Te) : Prop :=
  ∀ n I W X, GX Γ n I N sc W X → PW X e (tE X.K I W (fun env h => evalT (callF Γ.fns n) env a h) (fun _ a x => x = a))
theorem DW.t (h : DW Γ N sc ea ta) : DT Γ N sc ea ta := fun n I W X g => (h n I W X g).pt
theorem _root_.L2.PW.imp {X : Cx} {e : Expr} {t t' : TT} (h : PW X e t) (i : ∀ σ H Q, t' σ H Q → t σ H Q) : PW X e t' := ⟨fun w pins s σ H Q I q => h.run w pins s σ H Q I (i σ H Q q)⟩
theorem dw_and1 (ha : DT Γ N sc ea ta) : DW Γ N sc (.BoolOp .And [ea] pos) ta := fun n I W X g => pw_and1 (ha n I W X g)
theorem dw_or1 (ha : DT Γ N sc ea ta) : DW Γ N sc (.BoolOp .Or [ea] pos) ta := fun n I W X g => pw_or1 (ha n I W X g)
theorem dw_and (ha : DT Γ N sc ea ta) (hb : DW Γ N sc (.BoolOp .And (eb :: rest) pos) tb) : DW Γ N sc (.BoolOp .And (ea :: eb :: rest) pos) (.and_ ta tb) := fun n I W X g =>
  (pw_and (ha n I W X g) (hb n I W X g)).imp fun σ H Q q => by
    obtain ⟨env, s, eH, hr, er, _, pr⟩ := At.bind (Rel1 := fun _ a x => x = a) (ev2 := fun k env h1 => ifK (fun h2 => evalT (callF Γ.fns n) env tb h2) (fun h2 => .ok false h2) k h1) q
    refine ⟨env, s, eH, hr, er, trivial, ?_⟩
    refine PR.mono pr fun x H1 ⟨d, env, s, e, hr, er, ⟨_, rb⟩, pr⟩ => ?_
    subst rb
    cases x with
    | true => exact ⟨env, s, e, hr, er, trivial, pr⟩
    | false => subst e; exact pr s _ (.refl s) rfl hr rfl
theorem dw_or (ha : DT Γ N sc ea ta) (hb : DW Γ N sc (.BoolOp .Or (eb :: rest) pos) tb) : DW Γ N sc (.BoolOp .Or (ea :: eb :: rest) pos) (.or_ ta tb) := fun n I W X g =>
  (pw_or (ha n I W X g) (hb n I W X g)).imp fun σ H Q q => by
    obtain ⟨env, s, eH, hr, er, _, pr⟩ := At.bind (Rel1 := fun _ a x => x = a) (ev2 := fun k env h1 => ifK (fun h2 => .ok true h2) (fun h2 => evalT (callF Γ.fns n) env tb h2) k h1) q
    refine ⟨env, s, eH, hr, er, trivial, ?_⟩
    refine PR.mono pr fun x H1 ⟨d, env, s, e, hr, er, ⟨_, rb⟩, pr⟩ => ?_
    subst rb
    cases x with
    | true => subst e; exact pr s _ (.refl s) rfl hr rfl
    | false => exact ⟨env, s, e, hr, er, trivial, pr⟩
/-- the same as values -/
theorem de_not (ha : DE Γ N sc ea a) : DE Γ N sc (.UnaryOp .Not ea pos) (.not_ a) := fun n I W X g =>
  (pe_not (ha n I W X g)).imp fun σ H Q q => by
    obtain ⟨env, s, eH, hr, er, _, pr⟩ := At.bind (Rel1 := VR X.K) (ev2 := fun v env h1 => notK v h1) q
    refine ⟨env, s, eH, hr, er, trivial, ?_⟩
    refine PR.mono pr fun x H1 ⟨v, env, s, e, hr, er, ⟨_, rb⟩, pr⟩ => ?_
    subst e
    cases v with
    | ref m => exact False.elim pr
    | p d =>
      cases d with
      | bool k =>
        obtain rfl : x = .bl k := RF.bl_inv rb
        exact ⟨k, rfl, pr s _ (.refl s) rfl hr (.bl _)⟩
      | _ => exact False.elim pr
theorem de_one {op : BoolOp} (ha : DE Γ N sc ea a) : DE Γ N sc (.BoolOp op [ea] pos) a := fun n I W X g => pe_one (ha n I W X g)
theorem de_and (ha : DE Γ N sc ea a) (hb : DE Γ N sc (.BoolOp .And (eb :: rest) pos) b) : DE Γ N sc (.BoolOp .And (ea :: eb :: rest) pos) (.and_ a b) := fun n I W X g =>
  (pe_and (ha n I W X g) (hb n I W X g)).imp fun σ H Q q => by
    obtain ⟨env, s, eH, hr, er, _, pr⟩ := At.bind (Rel1 := VR X.K) (ev2 := fun v env h1 => andK (fun h2 => evalE (callF Γ.fns n) env b h2) v h1) q
    refine ⟨env, s, eH, hr, er, trivial, ?_⟩
    refine PR.mono pr fun x H1 ⟨v, env, s, e, hr, er, ⟨_, rb⟩, pr⟩ => ?_
    cases v with
    | ref m => exact False.elim pr
    | p d =>
      cases d with
      | bool k =>
        obtain rfl : x = .bl k := RF.bl_inv rb
        refine ⟨k, rfl, ?_⟩
        cases k with
        | true => exact ⟨env, s, e, hr, er, trivial, pr⟩
        | false => subst e; exact pr s _ (.refl s) rfl hr (.bl _)
      | _ => exact False.elim pr
theorem de_or (ha : DE Γ N sc ea a) (hb : DE Γ N sc (.BoolOp .Or (eb :: rest) pos) b) : DE Γ N sc (.BoolOp .Or (ea :: eb :: rest) pos) (.or_ a b) := fun n I W X g =>
  (pe_or (ha n I W X g) (hb n I W X g)).imp fun σ H Q q => by
    obtain ⟨env, s, eH, hr, er, _, pr⟩ := At.bind (Rel1 := VR X.K) (ev2 := fun v env h1 => orK (fun h2 => evalE (callF Γ.fns n) env b h2) v h1) q
    refine ⟨env, s, eH, hr, er, trivial, ?_⟩
    refine PR.mono pr fun x H1 ⟨v, env, s, e, hr, er, ⟨_, rb⟩, pr⟩ => ?_
    cases v with
    | ref m => exact False.elim pr
    | p d =>
      cases d with
      | bool k =>
        obtain rfl : x = .bl k := RF.bl_inv rb
        refine ⟨k, rfl, ?_⟩
        cases k with
        | true => subst e; exact pr s _ (.refl s) rfl hr (.bl _)
        | false => exact ⟨env, s, e, hr, er, trivial, pr⟩
      | _ => exact False.elim pr
def DPs (Γ : Gm) (N : List Str) (sc : Sco) (es : List Expr) (as : List E) : Prop :=
  ∀ n I W X, GX Γ n I N sc W X → PA X es (tE X.K I W (fun env h => evalPs (callF Γ.fns n) env as h) (fun s ds vs => RFs X.K s.F s.H ds vs ∧ ds.length = as.length))
def DAs (Γ : Gm) (N : List Str) (sc : Sco) (es : List Expr) (as : List E) : Prop :=
  ∀ n I W X, GX Γ n I N sc W X → PA X es (tE X.K I W (fun env h => evalEs (callF Γ.fns n) env as h) (fun s ds vs => Paired (VR X.K s) ds vs ∧ ds.length = as.length))
abbrev Sec (e : Expr) (es : List Expr) : Prop := ∀ env, starEach (e :: es) env = (false, eval e env) :: starEach es env
variable {es : List Expr} {as : List E}
theorem dps_nil : DPs Γ N sc [] [] := fun n I W X g => pa_nil.imp fun σ H Q ⟨env, s, eH, hr, er, _, pr⟩ => by
  subst eH
  exact pr s [] (.refl s) rfl hr ⟨.nil, rfl⟩
theorem dps_cons (ha : DV Γ N sc ea a) (hs : DPs Γ N sc es as) (se : Sec ea es := by intro _; rfl) : DPs Γ N sc (ea :: es) (a :: as) := fun n I W X g =>
  (pa_cons (ha n I W X g) (hs n I W X g) (se _)).imp fun σ H Q q => by
    obtain ⟨env, s, eH, hr, er, _, pr⟩ := At.bind (Rel1 := PRl X.K) (ev2 := fun v env h1 => (evalPs (callF Γ.fns n) env as h1).bind fun vs h2 => .ok (v :: vs) h2) q
    refine ⟨env, s, eH, hr, er, trivial, ?_⟩
    refine PR.mono pr fun x H1 ⟨d, q⟩ => ?_
    obtain ⟨env, s, eH, hr, er, _, pr⟩ := At.bind (Rel1 := fun s ds vs => RFs X.K s.F s.H ds vs ∧ ds.length = as.length) (G' := fun s => PRl X.K s d x) (ev2 := fun vs env h2 => R.ok (d :: vs) h2) q (fun s s' l g => g.2.le l)
    refine ⟨env, s, eH, hr, er, trivial, ?_⟩
    refine PR.mono pr fun ys H2 ⟨ds, env, s, e, hr, er, ⟨r1, r2⟩, pr⟩ => ?_
    subst e
    exact pr s _ (.refl s) rfl hr ⟨.cons r1 r2.1, by simp [r2.2]⟩
theorem das_nil : DAs Γ N sc [] [] := fun n I W X g => pa_nil.imp fun σ H Q ⟨env, s, eH, hr, er, _, pr⟩ => by
  subst eH
  exact pr s [] (.refl s) rfl hr ⟨.nil, rfl⟩
theorem das_cons (ha : DE Γ N sc ea a) (hs : DAs Γ N sc es as) (se : Sec ea es := by intro _; rfl) : DAs Γ N sc (ea :: es) (a :: as) := fun n I W X g =>
  (pa_cons (ha n I W X g) (hs n I W X g) (se _)).imp fun σ H Q q => by
    obtain ⟨env, s, eH, hr, er, _, pr⟩ := At.bind (Rel1 := VR X.K) (ev2 := fun v env h1 => (evalEs (callF Γ.fns n) env as h1).bind fun vs h2 => .ok (v :: vs) h2) q
    refine ⟨env, s, eH, hr, er, trivial, ?_⟩
    refine PR.mono pr fun x H1 ⟨d, q⟩ => ?_
    obtain ⟨env, s, eH, hr, er, _, pr⟩ := At.bind (Rel1 := fun s ds vs => Paired (VR X.K s) ds vs ∧ ds.length = as.length) (G' := fun s => VR X.K s d x) (ev2 := fun vs env h2 => R.ok (d :: vs) h2) q (fun s s' l g => g.2.le l)
    refine ⟨env, s, eH, hr, er, trivial, ?_⟩
    refine PR.mono pr fun ys H2 ⟨ds, env, s, e, hr, er, ⟨r1, r2⟩, pr⟩ => ?_
    subst e
    exact pr s _ (.refl s) rfl hr ⟨.cons r1 r2.1, by simp [r2.2]⟩
def tTupS (t : TA) : TE := fun σ H Q => t σ H fun xs H1 => xs.length ≤ sizeLine ∧ ∀ p o, H1 p = none → TupO o → Q (.ref p) (upd H1 p (.frz o (.tup xs)))
theorem pe_tupS {X : Cx} {es : List Expr} {t : TA} {pos : Pos} {x1} (h : PA X es t) : PE X (.Tuple es x1 pos) (tTupS t) := by
  refine ⟨fun pins s σ H Q I hq => ?_⟩
  refine wpAny_Tuple_spliced (thn (h.run pos pins s σ H _ I hq) fun us s1 ⟨xs, H1, I1, r, z, q⟩ => ⟨by rw [← r.length]; exact z, ?_⟩)
  have hf : H1 s1.heap.objs.size = none := I1.hok.fresh (Nat.le_refl _)
  refine ⟨.ref s1.heap.objs.size, _, I1.laid (t' := s1.toks) (o := .frz { cls := .type "tuple", data := .seq us.toArray } (.tup xs)) (fun b u e => Heap.get?_push_of_some _ e) (Nat.le_refl _) ?_, rfl, q _ _ hf ⟨rfl, rfl⟩⟩
  exact ⟨Heap.get?_push_size _ rfl, z, us, r, ⟨_, Heap.get?_push_size _ rfl, rfl, _, rfl⟩⟩
theorem de_tup {k : Nat} (hs : DPs Γ N sc es as) (hz : as.length ≤ sizeLine := by decide) : DE Γ N sc (.Tuple es k pos) (.tup as) := fun n I W X g =>
  (pe_tupS (hs n I W X g)).imp fun σ H Q q => by
    obtain ⟨env, s, eH, hr, er, _, pr⟩ := At.bind (Rel1 := fun s ds vs => RFs X.K s.F s.H ds vs ∧ ds.length = as.length) (ev2 := fun ds env h1 => R.ok (Val.p (.tuple ds)) h1) q
    refine ⟨env, s, eH, hr, er, trivial, ?_⟩
    refine PR.mono pr fun xs H1 ⟨ds, env, s, e, hr, er, ⟨_, rb, rl⟩, pr⟩ => ?_
    subst e
    exact ⟨by rw [← rb.length, rl]; exact hz, fun p o hp ho => PR.new (o := some (.p (.tuple ds))) pr hr rfl hp (tup_new hp ho rb)⟩
end
end Cd
set_option Elab.async false
set_option linter.all false
set_option maxRecDepth 100000
set_option maxHeartbeats 4000000
namespace Cd
open PySem PySem.Spec PyProof.Rows L2
theorem ofO_unP {h : Hi} : ∀ o : Option PyData, (Cd.ofO (o.map Val.p) h).bind unP = Cd.ofO o h
  | none => rfl
  | some _ => rfl
/-- a new list, that nothing else knows -/
def RN (K : PySem.W.Frag) (s : Sx) (d : PyData) (x : V) : Prop := ∃ ts a xs, d = .list ts ∧ x = .ref a ∧ s.H a = some (.lst xs) ∧ RFs K s.F s.H ts xs ∧ ¬ s.F a ∧ NotLive s a ∧ ¬ s.B a
def DN (Γ : Gm) (N : List Str) (sc : Sco) (e : Expr) (a : E) : Prop :=
  ∀ n I W X, GX Γ n I N sc W X → PE X e (tE X.K I W (fun env h => (evalE (callF Γ.fns n) env a h).bind unP) (RN X.K))
/-- frozen -/
def Sx.fz (s : Sx) (a : Addr) : Sx := { s with F := fun b => s.F b ∨ b = a }
theorem fz_keep {s : Sx} {a : Addr} : KeepF s.F s.H (s.fz a).F (s.fz a).H := ⟨fun _ f => .inl f, fun b o f h => h, fun _ _ h => h, fun _ _ _ h => h⟩
theorem fz_le {s : Sx} {a : Addr} : Le s (s.fz a) := ⟨Nat.le_refl _, fun _ _ => rfl, fz_keep, fun _ h => ⟨h, rfl⟩⟩
theorem HR.fz {K : PySem.W.Frag} {CI : CInf} {s : Sx} (h : HR K CI s) {a : Addr} (ha : ∃ o, s.H a = some o) (nl : NotLive s a) (nb : ¬ s.B a) : HR K CI (s.fz a) where
  ob := fun n u e => (h.ob n u e).move fz_keep e fun j l => ⟨rfl, fun w e => e⟩
  inj := h.inj
  nf := fun n j l f => f.elim (h.nf n j l) (nl n j l)
  bt := fun b hb => let ⟨h1, h2, h3⟩ := h.bt b hb; ⟨h1, fun f => f.elim h2 fun z => nb (z ▸ hb), h3⟩
  ft := fun b hb => hb.elim (h.ft b) fun z => z ▸ ha
section
variable {Γ : Gm} {N : List Str} {sc : Sco} {e ea eb ec : Expr} {a b c : E} {o : O2} {pos p p2 : Pos} {es : List Expr} {as : List E}
theorem HR.fresh {K : PySem.W.Frag} {CI : CInf} {s : Sx} (hr : HR K CI s) {l : Addr} (hp : s.H l = none) : ¬ s.F l ∧ NotLive s l ∧ ¬ s.B l := by
  refine ⟨fun f => ?_, hr.notLive hp, fun hb => ?_⟩
  · obtain ⟨u, e⟩ := hr.ft l f
    rw [hp] at e; cases e
  · obtain ⟨_, _, u, e⟩ := hr.bt l hb
    rw [hp] at e; cases e
theorem RN.new {K : PySem.W.Frag} {CI : CInf} {s : Sx} {l : Addr} {ts : List PyData} {xs : List V} (hr : HR K CI s) (hp : s.H l = none) (r : RFs K s.F s.H ts xs) : RN K (s.put l (.lst xs) false) (.list ts) (.ref l) := by
  refine ⟨ts, l, xs, rfl, rfl, upd_same, r.keep (KeepF.put hp), fun f => ?_, (hr.fresh hp).2.1, (hr.fresh hp).2.2⟩
  rcases f with f | ⟨f, _⟩
  · exact (hr.fresh hp).1 f
  · cases f
/-- a new list is data like any other, once it is frozen -/
theorem DN.v (h : DN Γ N sc e a) : DV Γ N sc e a := fun n I W X g => (h n I W X g).imp fun σ H Q q => by
  obtain ⟨env, s, eH, hr, er, _, pr⟩ := q
  refine ⟨env, s, eH, hr, er, trivial, ?_⟩
  replace pr : PR X.K I W s σ ((evalE (callF Γ.fns n) env a s.h).bind unP) (PRl X.K) Q := pr
  show PR X.K I W s σ ((evalE (callF Γ.fns n) env a s.h).bind unP) (RN X.K) Q
  generalize (evalE (callF Γ.fns n) env a s.h).bind unP = r at pr ⊢
  cases r with
  | ok d h1 =>
    rintro s' x l eh hr' ⟨ts, p, xs, rfl, rfl, hp, q, nf, nl, nb⟩
    exact pr (s'.fz p) _ (l.trans fz_le) eh (hr'.fz ⟨_, hp⟩ nl nb) (.lst (.inl ⟨.inr rfl, Rd.of hp⟩) (q.keep fz_keep))
  | exc e h1 => exact pr
  | stuck => exact pr
theorem DV.toE (h : DV Γ N sc e a) (nr : ∀ cf env h, (∃ d h', evalE cf env a h = .ok (.p d) h') ∨ (∀ v h', evalE cf env a h ≠ .ok v h')) : DE Γ N sc e a := fun n I W X g => (h n I W X g).imp fun σ H Q q => by
  obtain ⟨env, s, eH, hr, er, _, pr⟩ := q
  refine ⟨env, s, eH, hr, er, trivial, ?_⟩
  replace pr : PR X.K I W s σ (evalE (callF Γ.fns n) env a s.h) (VR X.K) Q := pr
  show PR X.K I W s σ ((evalE (callF Γ.fns n) env a s.h).bind unP) (PRl X.K) Q
  rcases nr (callF Γ.fns n) env s.h with ⟨d, h', e⟩ | ne
  · rw [e] at pr ⊢
    exact fun s' x l eh hr' rel => pr s' x l eh hr' rel
  · generalize evalE (callF Γ.fns n) env a s.h = r at pr ne ⊢
    cases r with
    | ok v h1 => exact absurd rfl (ne v h1)
    | exc e h1 => exact pr
    | stuck => exact pr
theorem PR.ofO {K : PySem.W.Frag} {I : Inf} {W : WX} {s : Sx} {σ : L2.St} {d : PyData} {x : V} {Rel : Sx → PyData → V → Prop} {Q : V → Hp → Prop} (pr : PR K I W s σ (R.ok d s.h) Rel Q) (hr : HR K I.ci s) {s' : Sx} (l : Le s s') (hr' : HR K I.ci s') (eh : s'.h = s.h) (r : Rel s' d x) : Q x s'.H := pr s' x l eh hr' r
theorem dn_lst (hs : DPs Γ N sc es as) (hz : as.length ≤ sizeLine := by decide) : DN Γ N sc (.List es pos) (.lst as) := fun n I W X g =>
  (pe_lst (hs n I W X g)).imp fun σ H Q q => by
    have q' : tE X.K I W (fun env h => (evalPs (callF Γ.fns n) env as h).bind fun ds h1 => R.ok (PyData.list ds) h1) (RN X.K) σ H Q := by
      obtain ⟨env, s, eH, hr, er, _, pr⟩ := q
      refine ⟨env, s, eH, hr, er, trivial, ?_⟩
      replace pr : PR X.K I W s σ (((evalPs (callF Γ.fns n) env as s.h).bind fun ds h1 => .ok (Val.p (.list ds)) h1).bind unP) (RN X.K) Q := pr
      show PR X.K I W s σ ((evalPs (callF Γ.fns n) env as s.h).bind fun ds h1 => R.ok (PyData.list ds) h1) (RN X.K) Q
      generalize evalPs (callF Γ.fns n) env as s.h = r at pr ⊢
      cases r with
      | ok ds h1 => exact pr
      | exc e h1 => exact pr
      | stuck => exact pr
    obtain ⟨env, s, eH, hr, er, _, pr⟩ := At.bind (Rel1 := fun s ds vs => RFs X.K s.F s.H ds vs ∧ ds.length = as.length) (ev2 := fun ds env h1 => R.ok (PyData.list ds) h1) q'
    refine ⟨env, s, eH, hr, er, trivial, ?_⟩
    refine PR.mono pr fun xs H1 ⟨ds, env, s, e, hr, er, ⟨_, rb, rl⟩, pr⟩ => ?_
    subst e
    exact ⟨by rw [← rb.length, rl]; exact hz, fun p hp => pr (s.put p (.lst xs) false) _ (hr.put_le hp) rfl (hr.put hp) (RN.new hr hp rb)⟩
/-- an operation that makes a list: new each time -/
def Op1N (K : PySem.W.Frag) (r : V → Hp → VK → Prop) (o : O1) : Prop := ∀ (s : Sx) d1 d x (Q : VK), RB K s d1 x → opf1 o d1 = some d → (∀ p xs ts, d = .list ts → RFs K s.F s.H ts xs → s.H p = none → Q (.ref p) (upd s.H p (.lst xs))) → r x s.H Q
theorem dn_op1 {o : O1} {r : Cx → V → Hp → VK → Prop} (hpe : ∀ n I W X, GX Γ n I N sc W X → ∀ ta, PE X ea ta → PE X e (tUn (r X) ta)) (ok : ∀ n I W X, GX Γ n I N sc W X → Op1N X.K (r X) o) (ha : DB Γ N sc ea a) : DN Γ N sc e (.op1 o a) := fun n I W X g =>
  (hpe n I W X g _ (ha n I W X g)).imp fun σ H Q q => by
    have q' : tE X.K I W (fun env h => (bor env h a (evalE (callF Γ.fns n) env a h)).bind fun x h1 => Cd.ofO (opf1 o x) h1) (RN X.K) σ H Q := by
      obtain ⟨env, s, eH, hr, er, _, pr⟩ := q
      refine ⟨env, s, eH, hr, er, trivial, ?_⟩
      replace pr : PR X.K I W s σ (((bor env s.h a (evalE (callF Γ.fns n) env a s.h)).bind fun x h1 => Cd.ofO ((opf1 o x).map .p) h1).bind unP) (RN X.K) Q := pr
      show PR X.K I W s σ ((bor env s.h a (evalE (callF Γ.fns n) env a s.h)).bind fun x h1 => Cd.ofO (opf1 o x) h1) (RN X.K) Q
      generalize bor env s.h a (evalE (callF Γ.fns n) env a s.h) = r at pr ⊢
      cases r with
      | ok d h1 =>
        simp only [R.bind_ok] at pr ⊢
        rw [ofO_unP] at pr
        exact pr
      | exc e h1 => exact pr
      | stuck => exact pr
    obtain ⟨env, s, eH, hr, er, _, pr⟩ := At.bind (Rel1 := RB X.K) (ev2 := fun x env h => Cd.ofO (opf1 o x) h) q'
    refine ⟨env, s, eH, hr, er, trivial, ?_⟩
    refine PR.mono pr fun x H1 ⟨d, env, s, e, hr, er, ⟨_, rb⟩, pr⟩ => ?_
    subst e
    replace pr : PR X.K I W s σ (Cd.ofO (opf1 o d) s.h) (RN X.K) Q := pr
    cases e1 : opf1 o d with
    | none => rw [e1] at pr; exact False.elim pr
    | some d' =>
      rw [e1] at pr
      refine ok n I W X g s d d' x Q rb e1 fun p xs ts ed rf hp => ?_
      subst ed
      exact pr (s.put p (.lst xs) false) _ (hr.put_le hp) rfl (hr.put hp) (RN.new hr hp rf)
theorem okn_list {K : PySem.W.Frag} : Op1N K (one (rListA K)) .list := fun s d1 d x Q r e f => by
  replace e : listS d1 = some d := e
  unfold listS at e
  split at e
  · cases e
    obtain ⟨a, xs, rfl, h1, q1⟩ := r.lst
    exact .inl ⟨a, xs, rfl, .inl h1, fun p hp => f p _ _ rfl q1 hp⟩
  · cases e
    obtain ⟨a, xs, rfl, h1, q1⟩ := r.tup
    exact .inl ⟨a, xs, rfl, .inr h1, fun p hp => f p _ _ rfl q1 hp⟩
  · split at e
    · rename_i z hz
      cases e
      rw [r.str]
      refine .inr ⟨z, rfl, hz, fun p hp => f p _ _ rfl ?_ hp⟩
      generalize z.cps.toList = l
      induction l with
      | nil => exact .nil
      | cons c l ih => exact .cons (.str _) ih
    · cases e
  · cases e
theorem dn_list (v : NB Γ sc "list") (ha : DB Γ N sc ea a) (se : Se1 ea := by intro _; rfl) : DN Γ N sc (.Call (.Name "list" p) [ea] [] pos) (.op1 .list a) := dn_op1 (fun _ _ _ X g ta h => pe_ty1 g (call_list_of.or (call_list_txt g.calm)) v (by decide +kernel) h se) (fun _ _ _ X g => okn_list) ha
end
end Cd
set_option Elab.async false
set_option linter.all false
set_option maxRecDepth 100000
set_option maxHeartbeats 4000000
namespace Cd
open PySem PySem.Spec PyProof.Rows L2
theorem lookup_nd {κ β : Type} [BEq κ] [LawfulBEq κ] : ∀ {l : List (κ × β)} {j : Nat} {x : κ} {v : β}, (l.map (·.1)).Nodup → l[j]? = some (x, v) → l.lookup x = some v
  | [], _, _, _, _, e => by simp at e
  | (y, w) :: r, 0, x, v, nd, e => by
    simp at e
    obtain ⟨rfl, rfl⟩ := e
    simp
  | (y, w) :: r, j + 1, x, v, nd, e => by
    have e' : r[j]? = some (x, v) := by simpa using e
    have nd' : y ∉ r.map (·.1) ∧ (r.map (·.1)).Nodup := by simpa using nd
    have hm : x ∈ r.map (·.1) := List.mem_map.mpr ⟨_, List.mem_of_getElem? e', rfl⟩
    have ne : (x == y) = false := by
      rw [beq_eq_false_iff_ne]
      rintro rfl
      exact nd'.1 hm
    rw [List.lookup_cons, ne]
    exact lookup_nd nd'.2 e'
theorem nd_take {α : Type} {l : List α} (h : l.Nodup) (n : Nat) : (l.take n).Nodup := h.sublist (List.take_sublist n l)
section
variable {Γ : Gm} {N : List Str} {sc : Sco} {e ea eb ec : Expr} {a b c : E} {o : O2} {pos p p2 : Pos} {es : List Expr} {as : List E} {i j : Nat} {x f : Str} {cl : Nat} {names : List Str}
theorem insOf_of {env : Ev} {h : Hi} {i : Nat} {q : Nat × Nat × List Fld} (e : insOf env h i = some q) : slot env i = some (.ref q.1) ∧ h[q.1]? = some (.ins q.2.1 q.2.2) := by
  unfold insOf at e
  rw [Option.bind_eq_some_iff] at e
  obtain ⟨n, e1, e2⟩ := e
  rw [Option.map_eq_some_iff] at e2
  obtain ⟨p, e2, rfl⟩ := e2
  exact ⟨slotRef_of e1, insAt_of e2⟩
theorem lstOf_of {env : Ev} {h : Hi} {i : Nat} {q : Nat × List PyData} (e : lstOf env h i = some q) : slot env i = some (.ref q.1) ∧ h[q.1]? = some (.lst q.2) := by
  unfold lstOf at e
  rw [Option.bind_eq_some_iff] at e
  obtain ⟨n, e1, e2⟩ := e
  rw [Option.map_eq_some_iff] at e2
  obtain ⟨p, e2, rfl⟩ := e2
  exact ⟨slotRef_of e1, listAt_of e2⟩
theorem dctOf_of {env : Ev} {h : Hi} {i : Nat} {q : Nat × List (Key × Fld)} (e : dctOf env h i = some q) : slot env i = some (.ref q.1) ∧ h[q.1]? = some (.dct q.2) := by
  unfold dctOf at e
  rw [Option.bind_eq_some_iff] at e
  obtain ⟨n, e1, e2⟩ := e
  rw [Option.map_eq_some_iff] at e2
  obtain ⟨p, e2, rfl⟩ := e2
  exact ⟨slotRef_of e1, dctAt_of e2⟩
/-- the only class with fields -/
structure FOk (Γ : Gm) (cl : Nat) (names : List Str) (j : Nat) (f : Str) : Prop where
  fl : Γ.flds = [(cl, names)]
  at_ : names[j]? = some f
abbrev Ab (x : Str) (p : Pos) (f : Str) : Prop := ∀ env, attributeBase (.Name x p) f env (eval (.Name x p) env) = eval (.Name x p) env
/-- what a field's name tells -/
theorem fld_at {n : Nat} {I : Inf} {W : WX} {X : Cx} {s : Sx} {env : Ev} {σ : L2.St} (g : GX Γ n I N sc W X) (hr : HR X.K I.ci s) (er : ER X.K s env σ) (hf : FOk Γ cl names j f) {q : Nat × Nat × List Fld} (e : insOf env s.h i = some q) {u : Fld} (eu : q.2.2[j]? = some u) :
    ∃ C dx es v, σ[i]? = some (some (.ref (s.φ q.1 0))) ∧ s.H (s.φ q.1 0) = some (.ins C dx es) ∧ Cls X.K C ∧ NoAttr X.K C f ∧ es.lookup f = some v ∧ FlR X.K s q.1 j u v := by
  obtain ⟨e1, e2⟩ := insOf_of e
  obtain ⟨y, h1, _, rfl⟩ := er.at_ i _ e1
  obtain ⟨C, nms, dx, es, ci, h3, h4, h5, h6⟩ := hr.ob _ _ e2
  have hm := g.ci _ _ _ ci
  obtain ⟨C', ci', k, nd, _, na⟩ := g.fl (cl, names) (by rw [hf.fl]; exact List.mem_singleton.mpr rfl)
  rw [hf.fl] at hm
  have hm' := List.mem_singleton.mp hm
  obtain ⟨hc, hn⟩ := Prod.mk.inj hm'
  rw [hc] at ci
  subst hn
  rw [ci] at ci'
  cases ci'
  obtain ⟨y, v, e3, e4, r⟩ := h6 j u eu
  rw [hf.at_] at e3
  cases e3
  refine ⟨C, dx, es, v, h1, h3, k, na _ (List.mem_of_getElem? hf.at_), lookup_nd (by rw [h4]; exact nd_take nd _) e4, r⟩
def tgSlots : Tg → List Nat
  | .name i => [i]
  | .tup ts => tgSlotsL ts
where tgSlotsL : List Tg → List Nat
  | [] => []
  | t :: ts => tgSlots t ++ tgSlotsL ts
def tG (K : PySem.W.Frag) (CI : CInf) (t : Tg) : TG := fun v σ H Q => ∃ env s d env1, s.H = H ∧ HR K CI s ∧ ER K s env σ ∧ RF K s.F s.H d v ∧ bindT t d env = some env1 ∧
  ∀ σ1, ER K s env1 σ1 → (σ1.length = σ.length ∧ ∀ k, k ∉ tgSlots t → σ1[k]? = σ[k]?) → Q σ1 H
def tGs (K : PySem.W.Frag) (CI : CInf) (ts : List Tg) : TGs := fun vs σ H Q => ∃ env s ds env1, s.H = H ∧ HR K CI s ∧ ER K s env σ ∧ RFs K s.F s.H ds vs ∧ bindTs ts ds env = some env1 ∧
  ∀ σ1, ER K s env1 σ1 → (σ1.length = σ.length ∧ ∀ k, k ∉ tgSlots.tgSlotsL ts → σ1[k]? = σ[k]?) → Q σ1 H
def DG (Γ : Gm) (N : List Str) (sc : Sco) (e : Expr) (t : Tg) : Prop := ∀ n I W X, GX Γ n I N sc W X → PG X e (tG X.K I.ci t)
def DGs (Γ : Gm) (N : List Str) (sc : Sco) (e : List Expr) (t : List Tg) : Prop := ∀ n I W X, GX Γ n I N sc W X → PGs X e (tGs X.K I.ci t)
theorem _root_.L2.PG.imp {X : Cx} {e : Expr} {t t' : TG} (h : PG X e t) (i : ∀ v σ H Q, t' v σ H Q → t v σ H Q) : PG X e t' := ⟨fun pins s σ H v u Q I r q => h.run pins s σ H v u Q I r (i v σ H Q q)⟩
theorem _root_.L2.PGs.imp {X : Cx} {e : List Expr} {t t' : TGs} (h : PGs X e t) (i : ∀ v σ H Q, t' v σ H Q → t v σ H Q) : PGs X e t' := ⟨fun pins s σ H v u Q I r q => h.run pins s σ H v u Q I r (i v σ H Q q)⟩
/-- a name that may be stored -/
structure TOk (N : List Str) (sc : Sco) (i : Nat) (x : Str) : Prop where
  hN : N[i]? = some x
  loc : Loc sc.s x
  fn : sc.fn x = true ∨ sc.s.names.lookup x = some .local
theorem dg_name (v : TOk N sc i x) : DG Γ N sc (.Name x pos) (.name i) := fun n I W X g =>
  (pg_name (i := i) (by rw [g.hN]; exact g.nd) (by rw [g.hN]; exact v.hN) (by rw [g.sc]; exact v.loc) (by rw [g.fnc, g.sc]; exact v.fn)).imp fun y σ H Q ⟨env, s, d, env1, eH, hr, er, r, e, q⟩ => by
    cases e
    refine q _ (er.set (v := .p d) r) ⟨by simp, fun k hk => ?_⟩
    rw [List.getElem?_set_ne]
    rintro rfl
    exact hk (by simp [tgSlots])
theorem dgs_nil : DGs Γ N sc [] [] := fun n I W X g => pgs_nil.imp fun y σ H Q ⟨env, s, ds, env1, eH, hr, er, r, e, q⟩ => by
  cases r with
  | nil =>
    cases e
    exact ⟨rfl, q _ er ⟨rfl, fun _ _ => rfl⟩⟩
  | cons _ _ => cases e
theorem dgs_cons {t : Tg} {ts : List Tg} (ha : DG Γ N sc ea t) (hs : DGs Γ N sc es ts) (hq : ∀ env, (assignEach (ea :: es) env).map (·.2) = assign ea env :: (assignEach es env).map (·.2) := by intro _; rfl) : DGs Γ N sc (ea :: es) (t :: ts) := fun n I W X g =>
  (pgs_cons (ha n I W X g) (hs n I W X g) (hq _)).imp fun y σ H Q ⟨env, s, ds, env1, eH, hr, er, r, e, q⟩ => by
    cases r with
    | nil => cases e
    | @cons d v0 ds vs0 r1 r2 =>
      have e' : (bindT t d env).bind (bindTs ts ds) = some env1 := e
      rw [Option.bind_eq_some_iff] at e'
      obtain ⟨env2, e1, e2⟩ := e'
      refine ⟨_, _, rfl, env, s, d, env2, eH, hr, er, r1, e1, fun σ1 er1 k1 => ?_⟩
      refine ⟨env2, s, ds, env1, eH, hr, er1, r2, e2, fun σ2 er2 k2 => q σ2 er2 ⟨k2.1.trans k1.1, fun k hk => ?_⟩⟩
      have hk' : k ∉ tgSlots t ∧ k ∉ tgSlots.tgSlotsL ts := by
        unfold tgSlots.tgSlotsL at hk
        simpa using hk
      rw [k2.2 k hk'.2, k1.2 k hk'.1]
theorem bindTs_len : ∀ {ts : List Tg} {ds : List PyData} {env env1 : Ev}, bindTs ts ds env = some env1 → ds.length = ts.length
  | [], [], _, _, _ => rfl
  | [], _ :: _, _, _, e => by cases e
  | _ :: _, [], _, _, e => by cases e
  | t :: ts, d :: ds, env, env1, e => by
    have e' : (bindT t d env).bind (bindTs ts ds) = some env1 := e
    rw [Option.bind_eq_some_iff] at e'
    obtain ⟨env2, e1, e2⟩ := e'
    simp [bindTs_len e2]
theorem dg_tup {k m : Nat} {ts : List Tg} (hs : DGs Γ N sc es ts) (hm : ts.length = m := by rfl) (hn : ∀ env, (assignEach es env).length = m := by intro _; rfl) (hst : ∀ env, (assignEach es env).findIdx? (·.1) = none := by intro _; rfl) : DG Γ N sc (.Tuple es k pos) (.tup ts) := fun n I W X g =>
  (pg_tup (n := m) g.calm (hs n I W X g) (hn _) (hst _)).imp fun y σ H Q ⟨env, s, d, env1, eH, hr, er, r, e, q⟩ => by
    cases d with
    | tuple ds =>
      obtain ⟨p, xs, rfl, h1, q1⟩ := r.tup_inv
      have e' : bindTs ts ds env = some env1 := e
      refine ⟨p, xs, rfl, by rw [← eH]; exact h1, ?_, env, s, ds, env1, eH, hr, er, q1, e', q⟩
      rw [← q1.length, bindTs_len e', hm]
    | _ => cases e
end
end Cd
set_option Elab.async false
set_option linter.all false
set_option maxRecDepth 100000
set_option maxHeartbeats 4000000
namespace Cd
open PySem PySem.Spec PyProof.Rows L2
def charsV (x : Str) : List V := x.cps.toList.map fun c => .str ⟨#[c]⟩
/-- v stands for the things xs, wherever C holds -/
structure SeqV (K : PySem.W.Frag) (v : Value) (xs : List V) (C : Hp → Prop) (own : List Addr) (T : Addr → Nat → Heap → Prop) : Prop where
  beg : ∀ (X : Cx) (pins : List (Addr × Obj)) (σ : L2.St) (H : Hp) (s : Shared), X.K = K → Inv X pins σ H s → C H → ∃ (o : Obj) (Pre : Heap → Prop), Begins v o Pre ∧ Pre s.heap ∧ (∀ h it, h.get? it = some o → T it 0 h) ∧ ∀ b ∈ own, b < s.heap.objs.size
  drw : ∀ (X : Cx) (pins : List (Addr × Obj)) (σ : L2.St) (H : Hp) (s : Shared) (A : Around) (it : Addr), X.K = K → Inv X pins σ H s → C H → A.handled = none → it ∉ own →
    ∃ (Pre : Heap → Prop) (Pn : Nat → Value → Prop), Pre s.heap ∧ Draws X.prog X.w A it (it :: own) xs.length Pn (fun i h => T it i h ∧ Pre h) ∧ ∀ i u, Pn i u → ∃ y, xs[i]? = some y ∧ RelV y u
  at_ : ∀ it i h h', T it i h → (∀ o, h.get? it = some o → h'.get? it = some o) → T it i h'
  ob : ∀ it i h, T it i h → ∃ o, h.get? it = some o ∧ ∀ v, o.data ≠ .cell v
theorem seq_list {K : PySem.W.Frag} (a : Addr) (xs : List V) : SeqV K (.ref a) xs (fun H => SqL K H a xs) [a] (fun it i h => h.IsListIter it a i) where
  beg := fun X pins σ H s eK I c => by
    subst eK
    obtain ⟨its, rv, p, _⟩ := I.list c
    exact ⟨_, _, begins_list a its.toArray, p.isList, fun h it e => ⟨_, e, rfl, rfl⟩, fun b hb => by rw [List.mem_singleton.mp hb]; exact p.lt⟩
  drw := fun X pins σ H s A it eK I c hh ne => by
    subst eK
    obtain ⟨its, rv, p, _⟩ := I.list c
    have D := Draws.list (prog := X.prog) (w := X.w) hh it a (fun e => ne (by simp [e])) its.toArray
    rw [List.size_toArray, ← rv.length] at D
    exact ⟨_, _, p.isList, D, fun i u e => vals_get' rv (by simpa using e)⟩
  at_ := fun it i h h' t k => t.at k
  ob := fun it i h ⟨o, e, _, d⟩ => ⟨o, e, fun v q => by rw [d] at q; cases q⟩
theorem seq_tup {K : PySem.W.Frag} (a : Addr) (xs : List V) : SeqV K (.ref a) xs (fun H => SqT K H a xs) [a] (fun it i h => h.IsTupleIter it a i) where
  beg := fun X pins σ H s eK I c => by
    subst eK
    obtain ⟨its, rv, p, _⟩ := I.tuple c
    exact ⟨_, _, begins_tuple a its.toArray, p, fun h it e => ⟨_, e, rfl, rfl⟩, fun b hb => by rw [List.mem_singleton.mp hb]; exact p.lt⟩
  drw := fun X pins σ H s A it eK I c hh ne => by
    subst eK
    obtain ⟨its, rv, p, _⟩ := I.tuple c
    have D := Draws.tuple (prog := X.prog) (w := X.w) hh it a (fun e => ne (by simp [e])) its.toArray
    rw [List.size_toArray, ← rv.length] at D
    exact ⟨_, _, p, D, fun i u e => vals_get' rv (by simpa using e)⟩
  at_ := fun it i h h' t k => t.at k
  ob := fun it i h ⟨o, e, _, d⟩ => ⟨o, e, fun v q => by rw [d] at q; cases q⟩
theorem seq_str {K : PySem.W.Frag} (x : Str) (t : Tok) : SeqV K (.str x t) (charsV x) (fun _ => True) [] (fun it i h => h.IsStrIter it (strIterType x) x t i) where
  beg := fun X pins σ H s eK I c => ⟨_, _, begins_text x t, trivial, fun h it e => ⟨_, e, rfl, rfl⟩, fun b hb => nomatch hb⟩
  drw := fun X pins σ H s A it eK I c hh ne => by
    have D := Draws.text (prog := X.prog) (w := X.w) hh it x t
    have e : x.cps.size = (charsV x).length := by simp [charsV]
    rw [e] at D
    refine ⟨fun _ => True, _, trivial, ⟨fun i h st => D.live i h st.1, fun i h h' st k => ⟨D.frame i h h' st.1 k, trivial⟩, fun i s Q E hi st hQ => D.item i s Q E hi st.1 fun x h' tk hP st' sb => hQ x h' tk hP ⟨st', trivial⟩ sb, fun s Q E st hE => D.done s Q E st.1 hE⟩, fun i u ⟨c, u', e1, e2⟩ => ?_⟩
    subst e2
    refine ⟨.str ⟨#[c]⟩, ?_, _, rfl⟩
    unfold charsV
    rw [List.getElem?_map, Array.getElem?_toList, e1]
    rfl
  at_ := fun it i h h' ⟨o, e, r⟩ k => ⟨o, k o e, r⟩
  ob := fun it i h ⟨o, e, _, d⟩ => ⟨o, e, fun v q => by rw [d] at q; cases q⟩
/-- the kinds of sequences -/
inductive Kd where
  | l (a : Addr)
  | t (a : Addr)
  | s (y : Str)
/-- x is a sequence of xs, of the kind k -/
def SqK (K : PySem.W.Frag) (k : Kd) (x : V) (xs : List V) (H : Hp) : Prop := match k with
  | .l a => x = .ref a ∧ SqL K H a xs
  | .t a => x = .ref a ∧ SqT K H a xs
  | .s y => x = .str y ∧ xs = charsV y
theorem seq_of {K : PySem.W.Frag} {k : Kd} {H : Hp} {x : V} {xs : List V} {v : Value} (h : SqK K k x xs H) (r : RelV x v) : ∃ (own : List Addr) (T : Addr → Nat → Heap → Prop), SeqV K v xs (SqK K k x xs) own T := by
  cases k with
  | l a =>
    obtain ⟨rfl, h⟩ := h
    obtain rfl : v = .ref a := r
    have S := seq_list (K := K) a xs
    exact ⟨_, _, ⟨fun X p σ H s e I c => S.beg X p σ H s e I c.2, fun X p σ H s A it e I c => S.drw X p σ H s A it e I c.2, S.at_, S.ob⟩⟩
  | t a =>
    obtain ⟨rfl, h⟩ := h
    obtain rfl : v = .ref a := r
    have S := seq_tup (K := K) a xs
    exact ⟨_, _, ⟨fun X p σ H s e I c => S.beg X p σ H s e I c.2, fun X p σ H s A it e I c => S.drw X p σ H s A it e I c.2, S.at_, S.ob⟩⟩
  | s y =>
    obtain ⟨rfl, rfl⟩ := h
    obtain ⟨t, rfl⟩ := r
    have S := seq_str (K := K) y t
    exact ⟨_, _, ⟨fun X p σ H s e I c => S.beg X p σ H s e I trivial, fun X p σ H s A it e I c => S.drw X p σ H s A it e I trivial, S.at_, S.ob⟩⟩
/-- zip's next and the loop's own care of the pair: the pair's object known -/
theorem zip2_goesS {prog : Program} {w : World} {A : Around} {elts : List Expr} {x1 : Nat} {pos : Pos} {z TI TO i1 i2 : Addr} {fp1 fp2 : List Addr} {n1 n2 : Nat} {P1 P2 : Nat → Value → Prop} {St1 St2 : Nat → Heap → Prop} (S : ZipSep2 z TI TO i1 i2 fp1 fp2) (D1 : Draws prog w A.in1 i1 fp1 n1 P1 St1) (D2 : Draws prog w A.in1 i2 fp2 n2 P2 St2)
    (i : Nat) (s : Shared) (Q : Value → Shared → Prop) (E : Value → Shared → Prop) (hi : i < min n1 n2) (st : IsZip s.heap z TI TO .none ∧ IsTupOf2 s.heap TI (.ref i1) (.ref i2) ∧ (∃ a1 a2, IsTupOf2 s.heap TO a1 a2) ∧ St1 i s.heap ∧ St2 i s.heap)
    (hQ : ∀ v h' tk, (∃ T x y, v = .ref T ∧ s.heap.objs.size ≤ T ∧ P1 i x ∧ P2 i y ∧ IsTupOf2 h' T x y) → (IsZip h' z TI TO .none ∧ IsTupOf2 h' TI (.ref i1) (.ref i2) ∧ (∃ a1 a2, IsTupOf2 h' TO a1 a2) ∧ St1 (i + 1) h' ∧ St2 (i + 1) h') →
      (∀ b o, b ∉ [z, TO, i1, i2] → s.heap.get? b = some o → h'.get? b = some o) → s.toks ≤ tk → Q v { s with heap := h', toks := tk }) :
    wpAny (model prog w) A (pyNext (.ref z)) (fun r s₁ => ∃ v, r = some v ∧ wpAny (model prog w) A (letOwnedTupleGo (.Tuple elts x1 pos) (.ref z) v) (fun _ s₂ => Q v s₂) E s₁) E s := by
  obtain ⟨hz, hTI, ⟨a1, a2, hTO⟩, st1, st2⟩ := st
  refine wpAny_with_toks (n := s.toks) (Nat.le_refl _) (wpAny_pyNext_zipD2_item S D1 D2 hz hTI hTO st1 st2 (by omega) (by omega) fun y1 y2 h' tk p1 p2 b1 b2 d1 d2 b5 b6 hk htk => ?_)
  have lt : ∀ {c o}, s.heap.get? c = some o → s.heap.objs.size ≠ c := fun e => Nat.ne_of_gt (Heap.lt_size e)
  have l1 : s.heap.objs.size ≠ i1 := by obtain ⟨_, e⟩ := D1.live _ _ st1; exact lt e
  have l2 : s.heap.objs.size ≠ i2 := by obtain ⟨_, e⟩ := D2.live _ _ st2; exact lt e
  have mid : IsZip h' z TI TO (rawInt s.heap.objs.size) ∧ IsTupOf2 h' TI (.ref i1) (.ref i2) ∧ (∃ a1 a2, IsTupOf2 h' TO a1 a2) ∧ St1 (i + 1) h' ∧ St2 (i + 1) h' ∧ s.heap.objs.size ≠ z ∧ s.heap.objs.size ≠ TO ∧ s.heap.objs.size ≠ i1 ∧ s.heap.objs.size ≠ i2 :=
    ⟨b1, hk _ _ S.TIz S.TITO S.TIi1 S.TIi2 hTI, ⟨_, _, b2⟩, d1, d2, lt hz, lt hTO, l1, l2⟩
  have W := WalksT.zipD2 (prog := prog) (w := w) (A := A) S D1 D2
  refine ⟨.ref s.heap.objs.size, rfl, W.go elts x1 pos i s.heap.objs.size { s with heap := h', toks := tk } _ _ mid fun h₂ st₂ hk₂ => ?_⟩
  refine hQ (.ref s.heap.objs.size) h₂ tk ⟨_, y1, y2, rfl, Nat.le_refl _, p1, p2, hk₂ _ _ (W.apart i _ h' mid) b5⟩ st₂ (fun b o hb e => hk₂ b o hb (hk b o (fun x => hb (by simp [x])) (fun x => hb (by simp [x])) (fun x => hb (by simp [x])) (fun x => hb (by simp [x])) e)) htk

def ItZ (C1 C2 : Hp → Prop) (xs ys : List V) : It :=
  ⟨fun i H => C1 H ∧ C2 H ∧ i < min xs.length ys.length,
    fun i H v H' => ∃ T o x y, v = .ref T ∧ H T = none ∧ TupO o ∧ H' = upd H T (.frz o (.tup [x, y])) ∧ xs[i]? = some x ∧ ys[i]? = some y,
    fun i H => C1 H ∧ C2 H ∧ i = min xs.length ys.length⟩
theorem turn_zipS {P : Program} {w : World} {K : PySem.W.Frag} {elts : List Expr} {kk : Nat} {tpos : Pos} {z TI TO i1 i2 : Addr} {v1 v2 : Value} {xs ys : List V} {C1 C2 : Hp → Prop} {own1 own2 : List Addr} {T1 T2 : Addr → Nat → Heap → Prop}
    (S1 : SeqV K v1 xs C1 own1 T1) (S2 : SeqV K v2 ys C2 own2 T2) (Z : ZipSep2 z TI TO i1 i2 (i1 :: own1) (i2 :: own2)) (n1 : i1 ∉ own1) (n2 : i2 ∉ own2) :
    Turn P w K (.Tuple elts kk tpos) (ItZ C1 C2 xs ys) [z, TI, TO, i1, i2] z (fun i h => IsZip h z TI TO .none ∧ IsTupOf2 h TI (.ref i1) (.ref i2) ∧ (∃ a b, IsTupOf2 h TO a b) ∧ T1 i1 i h ∧ T2 i2 i h) where
  mem := by simp
  obj := fun i h st b hb => by
    obtain ⟨hz, e1, ⟨a, c, e2⟩, t1, t2⟩ := st
    simp only [List.mem_cons, List.not_mem_nil, or_false] at hb
    rcases hb with rfl | rfl | rfl | rfl | rfl
    · exact ⟨_, hz, fun v q => nomatch q⟩
    · exact ⟨_, e1, fun v q => nomatch q⟩
    · exact ⟨_, e2, fun v q => nomatch q⟩
    · exact S1.ob _ _ _ t1
    · exact S2.ob _ _ _ t2
  keep := fun i h h' st k => by
    obtain ⟨hz, e1, ⟨a, c, e2⟩, t1, t2⟩ := st
    exact ⟨k z (by simp) _ hz, k TI (by simp) _ e1, ⟨a, c, k TO (by simp) _ e2⟩, S1.at_ _ _ _ _ t1 (fun o e => k i1 (by simp) o e), S2.at_ _ _ _ _ t2 (fun o e => k i2 (by simp) o e)⟩
  item := by
    intro X hP hw hK hc i pins s σ H E I hf st hg
    subst hP hw hK
    obtain ⟨hz, hTI, hTO, t1, t2⟩ := st
    obtain ⟨c1, c2, hi⟩ := hg
    have hh := I.ok.hd hc
    obtain ⟨P1, Q1, p1, D1, m1⟩ := S1.drw X pins σ H s X.A.in1 i1 rfl I c1 (by simp [hh]) n1
    obtain ⟨P2, Q2, p2, D2, m2⟩ := S2.drw X pins σ H s X.A.in1 i2 rfl I c2 (by simp [hh]) n2
    refine zip2_goesS (elts := elts) (x1 := kk) (pos := tpos) Z D1 D2 i s _ E hi ⟨hz, hTI, hTO, ⟨t1, p1⟩, ⟨t2, p2⟩⟩ fun v h' tk hY st' hk htk => ?_
    obtain ⟨T, x, y, rfl, hnew, hx, hy, hT⟩ := hY
    obtain ⟨x', ex, rx⟩ := m1 i x hx
    obtain ⟨y', ey, ry⟩ := m2 i y hy
    obtain ⟨hz', hTI', hTO', ⟨t1', _⟩, ⟨t2', _⟩⟩ := st'
    have new : ObjOk X.prog X.w (upd H T (.frz { cls := .type "tuple", data := .seq #[x, y] } (.tup [x', y']))) h' T (.frz { cls := .type "tuple", data := .seq #[x, y] } (.tup [x', y'])) := ⟨hT, by show 2 ≤ sizeLine; decide, [x, y], .cons rx (.cons ry .nil), ⟨_, hT, rfl, _, rfl⟩⟩
    have I1 : Inv X pins σ (upd H T (.frz { cls := .type "tuple", data := .seq #[x, y] } (.tup [x', y']))) { s with heap := h', toks := tk } :=
      I.turnedNew (ch := [z, TI, TO, i1, i2]) (fun b o hb q => hk b o (fun m => hb (by simp only [List.mem_cons, List.not_mem_nil, or_false] at m ⊢; rcases m with m | m | m | m <;> simp [m])) q) hf hnew new
    refine ⟨.ref T, _, I1, rfl, ⟨T, _, x', y', rfl, I.hok.fresh hnew, ⟨rfl, rfl⟩, rfl, ex, ey⟩, ⟨hz', hTI', hTO', t1', t2'⟩, fun b hb => ?_⟩
    obtain ⟨o, ho, _⟩ : ∃ o, s.heap.get? b = some o ∧ ∀ v, o.data ≠ .cell v := by
      simp only [List.mem_cons, List.not_mem_nil, or_false] at hb
      rcases hb with rfl | rfl | rfl | rfl | rfl
      · exact ⟨_, hz, fun v q => nomatch q⟩
      · exact ⟨_, hTI, fun v q => nomatch q⟩
      · obtain ⟨_, _, e2⟩ := hTO
        exact ⟨_, e2, fun v q => nomatch q⟩
      · exact S1.ob _ _ _ t1
      · exact S2.ob _ _ _ t2
    rw [upd_ne (Nat.ne_of_lt (Nat.lt_of_lt_of_le (Heap.lt_size ho) hnew))]
    exact (hf b hb).1
  done := by
    intro X hP hw hK hc i pins s σ H E I hf st hg
    subst hP hw hK
    obtain ⟨hz, hTI, hTO, t1, t2⟩ := st
    obtain ⟨c1, c2, hi⟩ := hg
    have hh := I.ok.hd hc
    obtain ⟨P1, Q1, p1, D1, m1⟩ := S1.drw X pins σ H s X.A.in1 i1 rfl I c1 (by simp [hh]) n1
    obtain ⟨P2, Q2, p2, D2, m2⟩ := S2.drw X pins σ H s X.A.in1 i2 rfl I c2 (by simp [hh]) n2
    subst hi
    refine (GoesN.zip2 (elts := elts) (x1 := kk) (pos := tpos) Z D1 D2).stops s _ E ⟨hz, hTI, hTO, ⟨t1, p1⟩, ⟨t2, p2⟩⟩ fun h' tk hk htk => ?_
    exact I.turnedL (ch := [z, TI, TO, i1, i2]) (fun b o hb q => hk b o (fun m => hb (by simp only [List.mem_cons, List.not_mem_nil, or_false] at m ⊢; rcases m with m | m | m | m <;> simp [m])) q) hf
  self := fun A i s Q E st h => wpAny_pyIter_zip st.1 h
/-- what zip walks: two sequences -/
def iZipS (K : PySem.W.Frag) (ta : TA) : TI := fun σ H R => ta σ H fun vs H1 => ∃ k l x y xs ys, vs = [x, y] ∧ SqK K k x xs H1 ∧ SqK K l y ys H1 ∧ R (ItZ (SqK K k x xs) (SqK K l y ys) xs ys) H1
theorem pi_zipS {X : Cx} {e e2 : Expr} {ta : TA} {p pos tpos : Pos} {elts : List Expr} {kk : Nat} (hg : Gl X "zip") (hm : X.mg "zip" = none) (ha : PA X [e, e2] ta)
    (hs : starEach [e, e2] X.env = (false, eval e X.env) :: starEach [e2] X.env) (hpl : (backTo pos (starEach [e2] X.env)).any (·.1) = false) :
    PI X (.Tuple elts kk tpos) (.Call (.Name "zip" p) [e, e2] [] pos) (iZipS X.K ta) := ⟨fun pins s σ H R I h => by
  refine Call_ (ld_blt I hg hm PyProof.Rows.boot_zip (PyProof.Rows.callWith_type1 (thn (ha.run pos pins s σ H _ I h) fun us s1 ⟨vs, H1, I1, r1, k, l, x, y, xs, ys, ex, hx, hy, q⟩ => ?_) hs hpl))
  subst ex
  obtain ⟨u1, u2, rfl, rx, ry⟩ := vals2 r1
  obtain ⟨own1, T1, S1⟩ := seq_of hx rx
  obtain ⟨own2, T2, S2⟩ := seq_of hy ry
  obtain ⟨o1, Pre1, B1, p1, st1, l1⟩ := S1.beg X pins σ H1 s1 rfl I1 hx
  obtain ⟨o2, Pre2, B2, p2, st2, l2⟩ := S2.beg X pins σ H1 s1 rfl I1 hy
  refine zip_begins2 B1 B2 p1 p2 fun h' hz hTI hTO h1 h2 hsz hk => wpAny_pyIter_zip hz ?_
  have I2 : Inv X pins σ H1 { s1 with heap := h' } := I1.kept (t' := s1.toks) hk
  have f1 : s1.heap.objs.size ∉ own1 := fun m => Nat.lt_irrefl _ (l1 _ m)
  have f2 : s1.heap.objs.size + 1 ∉ own2 := fun m => Nat.lt_irrefl _ (Nat.lt_of_succ_lt (l2 _ m))
  refine ⟨s1.heap.objs.size + 4, [s1.heap.objs.size + 4, s1.heap.objs.size + 2, s1.heap.objs.size + 3, s1.heap.objs.size, s1.heap.objs.size + 1], _, _, H1, rfl, I2, turn_zipS S1 S2 (zip_sep2 l1 l2) f1 f2, ⟨hz, hTI, ⟨_, _, hTO⟩, st1 _ _ h1, st2 _ _ h2⟩, fun c hc => ?_, q⟩
  have hle : s1.heap.objs.size ≤ c := by
    simp only [List.mem_cons, List.not_mem_nil, or_false] at hc
    rcases hc with rfl | rfl | rfl | rfl | rfl
    all_goals first | exact Nat.le_refl _ | exact Nat.le_add_right _ _
  exact I1.fpOk hle (I1.hok.fresh hle)⟩
/-- a list, a tuple or a text, walked -/
def iSeq (K : PySem.W.Frag) (te : TE) : TI := fun σ H R => te σ H fun x H1 => (∃ a xs, x = .ref a ∧ SqL K H1 a xs ∧ R (Itl K a) H1) ∨ (∃ a xs, x = .ref a ∧ SqT K H1 a xs ∧ R (Itt K a) H1) ∨ ∃ y, x = .str y ∧ R (Its y) H1
theorem pi_seq {X : Cx} {tg e : Expr} {te : TE} (he : PE X e te) : PI X tg e (iSeq X.K te) := ⟨fun pins s σ H R I h => by
  refine thn (he.run pins s σ H _ I h) fun v s1 ⟨x, H1, I1, r, q⟩ => ?_
  rcases q with ⟨a, xs, rfl, hq, q⟩ | ⟨a, xs, rfl, hq, q⟩ | ⟨y, rfl, q⟩
  · obtain rfl : v = .ref a := r
    obtain ⟨its, rv, p, _⟩ := I1.list hq
    exact wpAny_pyIter_list p.isList (pi_one (tk := s1.toks) I1 _ (turn_list a _) ⟨_, Heap.get?_push_size _ rfl, rfl, rfl⟩ q)
  · obtain rfl : v = .ref a := r
    obtain ⟨its, rv, p, _⟩ := I1.tuple hq
    exact wpAny_pyIter_tuple (show s1.heap.IsTuple a its.toArray from p) (pi_one (tk := s1.toks) I1 _ (turn_tuple a _) ⟨_, Heap.get?_push_size _ rfl, rfl, rfl⟩ q)
  · obtain ⟨t, rfl⟩ := r
    cases ha : y.cps.all (· < 128)
    · exact wpAny_pyIter_wide ha (pi_one (tk := s1.toks) I1 _ (turn_str _ y t "str_iterator" (.inr rfl)) ⟨_, Heap.get?_push_size _ rfl, rfl, rfl⟩ q)
    · exact wpAny_pyIter_ascii ha (pi_one (tk := s1.toks) I1 _ (turn_str _ y t "str_ascii_iterator" (.inl rfl)) ⟨_, Heap.get?_push_size _ rfl, rfl, rfl⟩ q)⟩
/-- the iterator J walks the items -/
def JR (K : PySem.W.Frag) (CI : CInf) (s : Sx) (items : List PyData) (J : It) : Prop := ∀ s', Le s s' → HR K CI s' → ∀ i,
  (i < items.length → J.go i s'.H) ∧ (i = items.length → J.stop i s'.H) ∧ ∀ x H', i < items.length → J.yld i s'.H x H' → ∃ d s'', items[i]? = some d ∧ s''.H = H' ∧ Le s' s'' ∧ s''.h = s'.h ∧ HR K CI s'' ∧ RF K s''.F H' d x
theorem JR.le {K : PySem.W.Frag} {CI : CInf} {s s1 : Sx} {items : List PyData} {J : It} (l : Le s s1) (h : JR K CI s items J) : JR K CI s1 items J := fun s' l' => h s' (l.trans l')
def DI (Γ : Gm) (N : List Str) (sc : Sco) (tg e : Expr) (src : Src) : Prop :=
  ∀ n I W X, GX Γ n I N sc W X → PI X tg e (tE X.K I W (fun env h => evalSrc (callF Γ.fns n) env src h) (JR X.K I.ci))
section
variable {K : PySem.W.Frag} {CI : CInf} {s : Sx}
theorem rf_seq {ts : List PyData} {d : PyData} {x : V} (e : itemsOf d = some ts) (r : RF K s.F s.H d x) : ∃ k xs, SqK K k x xs s.H ∧ RFs K s.F s.H ts xs ∧ ∀ s', Le s s' → SqK K k x xs s'.H := by
  cases d with
  | list us =>
    cases e
    obtain ⟨a, xs, rfl, h, q⟩ := r.lst_inv
    exact ⟨.l a, xs, ⟨rfl, h.sq⟩, q, fun s' l => ⟨rfl, (l.kf.lq h).sq⟩⟩
  | tuple us =>
    cases e
    obtain ⟨a, xs, rfl, h, q⟩ := r.tup_inv
    exact ⟨.t a, xs, ⟨rfl, h⟩, q, fun s' l => ⟨rfl, l.kf.sqT h⟩⟩
  | str y =>
    cases e
    obtain rfl := r.str_inv
    refine ⟨.s y, charsV y, ⟨rfl, rfl⟩, ?_, fun s' l => ⟨rfl, rfl⟩⟩
    unfold charsV
    generalize y.cps.toList = l
    induction l with
    | nil => exact .nil
    | cons c l ih => exact .cons (.str _) ih
  | _ => cases e
theorem same_step {H' : Hp} {s' : Sx} {d : PyData} {x : V} (hr : HR K CI s') (r : RF K s'.F s'.H d x) (e : H' = s'.H) {o : Option PyData} (eo : o = some d) : ∃ d s'', o = some d ∧ s''.H = H' ∧ Le s' s'' ∧ s''.h = s'.h ∧ HR K CI s'' ∧ RF K s''.F H' d x :=
  ⟨d, s', eo, e.symm, .refl _, rfl, hr, by rw [e]; exact r⟩
/-- a sequence's own walk -/
theorem jr_seq {X : Cx} {ts : List PyData} {d : PyData} {x : V} (hk : X.K = K) (e : itemsOf d = some ts) (r : RF K s.F s.H d x) {R : It → Hp → Prop} (q : ∀ J, JR K CI s ts J → R J s.H) :
    (∃ a xs, x = .ref a ∧ SqL X.K s.H a xs ∧ R (Itl X.K a) s.H) ∨ (∃ a xs, x = .ref a ∧ SqT X.K s.H a xs ∧ R (Itt X.K a) s.H) ∨ ∃ y, x = .str y ∧ R (Its y) s.H := by
  subst hk
  cases d with
  | list us =>
    cases e
    obtain ⟨a, xs, rfl, h, t⟩ := r.lst_inv
    refine .inl ⟨a, xs, rfl, h.sq, q _ fun s' l hr' i => ⟨fun hi => ?_, fun hi => ?_, fun y H' _ hy => ?_⟩⟩
    · have := t.length
      exact ⟨xs, xs[i]'(by omega), (l.kf.lq h).sq, List.getElem?_eq_getElem _⟩
    · exact ⟨xs, (l.kf.lq h).sq, by have := t.length; omega⟩
    · obtain ⟨rfl, hy⟩ := hy
      obtain ⟨d, e1, rd⟩ := (t.keep l.kf).get' (hy xs (l.kf.lq h).sq)
      exact same_step hr' rd rfl e1
  | tuple us =>
    cases e
    obtain ⟨a, xs, rfl, h, t⟩ := r.tup_inv
    refine .inr (.inl ⟨a, xs, rfl, h, q _ fun s' l hr' i => ⟨fun hi => ?_, fun hi => ?_, fun y H' _ hy => ?_⟩⟩)
    · have := t.length
      exact ⟨xs, xs[i]'(by omega), l.kf.sqT h, List.getElem?_eq_getElem _⟩
    · exact ⟨xs, l.kf.sqT h, by have := t.length; omega⟩
    · obtain ⟨rfl, hy⟩ := hy
      obtain ⟨d, e1, rd⟩ := (t.keep l.kf).get' (hy xs (l.kf.sqT h))
      exact same_step hr' rd rfl e1
  | str y =>
    cases e
    obtain rfl := r.str_inv
    refine .inr (.inr ⟨y, rfl, q _ fun s' l hr' i => ⟨fun hi => ?_, fun hi => ?_, fun z H' _ hz => ?_⟩⟩)
    · show i < y.cps.size
      simpa using hi
    · have : i = y.cps.size := by simpa using hi
      exact Nat.le_of_eq this.symm
    · obtain ⟨rfl, c, e1, rfl⟩ := hz
      exact same_step hr' (.str _) rfl (by rw [List.getElem?_map, Array.getElem?_toList, e1]; rfl)
  | _ => cases e
theorem rangeD_get {lo : Int} {n : Nat} {c : Int} {i : Nat} (h : i < n) : (rangeD lo n c)[i]? = some (.int (lo + (i : Int) * c)) := by
  unfold rangeD
  rw [List.getElem?_map, List.getElem?_range h]
  rfl
theorem rangeD_len {lo : Int} {n : Nat} {c : Int} : (rangeD lo n c).length = n := by simp [rangeD]
theorem jr_rng {lo : Int} {n : Nat} : JR K CI s (rangeD lo n 1) (Itr lo n) := fun s' l hr' i => by
  rw [rangeD_len]
  refine ⟨fun hi => hi, fun hi => Nat.le_of_eq hi.symm, fun x H' hi hy => ?_⟩
  obtain ⟨rfl, rfl⟩ := hy
  exact same_step hr' (.int _) rfl (by rw [rangeD_get hi, Int.mul_one])
theorem zipD_len : ∀ (ts us : List PyData), (zipD ts us).length = min ts.length us.length
  | [], us => by simp [zipD]
  | _ :: _, [] => by simp [zipD]
  | t :: ts, u :: us => by simp only [zipD, List.length_cons, zipD_len ts us]; omega
theorem zipD_get : ∀ {ts us : List PyData} {i : Nat} {a b : PyData}, ts[i]? = some a → us[i]? = some b → (zipD ts us)[i]? = some (.tuple [a, b])
  | [], _, _, _, _, e, _ => by simp at e
  | _ :: _, [], _, _, _, _, e => by simp at e
  | t :: ts, u :: us, 0, a, b, e, f => by simp at e f; subst e f; rfl
  | t :: ts, u :: us, i + 1, a, b, e, f => by
    have := zipD_get (ts := ts) (us := us) (i := i) (by simpa using e) (by simpa using f)
    simpa [zipD] using this
theorem jr_zip {ts us : List PyData} {xs ys : List V} {x y : V} {k l : Kd} (r1 : RFs K s.F s.H ts xs) (r2 : RFs K s.F s.H us ys) (k1 : ∀ s', Le s s' → SqK K k x xs s'.H) (k2 : ∀ s', Le s s' → SqK K l y ys s'.H) :
    JR K CI s (zipD ts us) (ItZ (SqK K k x xs) (SqK K l y ys) xs ys) := fun s' le hr' i => by
  rw [zipD_len, r1.length, r2.length]
  refine ⟨fun hi => ⟨k1 s' le, k2 s' le, hi⟩, fun hi => ⟨k1 s' le, k2 s' le, hi⟩, fun v H' hi hy => ?_⟩
  obtain ⟨T, o, a, b, rfl, hT, ho, rfl, ea, eb⟩ := hy
  obtain ⟨d, e1, rd⟩ := (r1.keep le.kf).get' ea
  obtain ⟨e, e2, re⟩ := (r2.keep le.kf).get' eb
  exact ⟨_, s'.put T (.frz o (.tup [a, b])) false, zipD_get e1 e2, rfl, hr'.put_le hT, rfl, hr'.put hT, tup_new (K := K) (s := s') hT ho (.cons rd (.cons re .nil))⟩
end
section
variable {Γ : Gm} {N : List Str} {sc : Sco} {e tg ea eb ec : Expr} {a b c : E} {o : O2} {pos p p2 : Pos} {es : List Expr} {as : List E} {i j : Nat} {x f : Str}
theorem di_e (ha : DV Γ N sc ea a) : DI Γ N sc tg ea (.e a) := fun n I W X g => (pi_seq (ha n I W X g)).imp fun σ H R q => by
  obtain ⟨env, s, eH, hr, er, _, pr⟩ := At.bind (Rel1 := PRl X.K) (ev2 := fun d env h1 => ofO (itemsOf d) h1) q
  refine ⟨env, s, eH, hr, er, trivial, ?_⟩
  refine PR.mono pr fun x H1 ⟨d, env, s, e, hr, er, ⟨_, rb⟩, pr⟩ => ?_
  replace pr : PR X.K I W s σ (ofO (itemsOf d) s.h) (JR X.K I.ci) R := pr
  cases e1 : itemsOf d with
  | none => rw [e1] at pr; exact False.elim pr
  | some ts =>
    rw [e1] at pr
    subst e
    exact jr_seq rfl e1 rb fun J j => pr s J (.refl s) rfl hr j
theorem rngOk_of {j : Int} (h : rngOk j = true) : -(2 ^ 62) ≤ j ∧ j < 2 ^ 62 := by
  unfold rngOk at h
  rw [decide_eq_true_eq] at h
  omega
theorem rng2K_inv (d e : PyData) (h : Hi) : (∃ i j, d = .int i ∧ e = .int j ∧ rngOk i = true ∧ rngOk j = true ∧ rng2K d e h = .ok (rangeD i (j - i).toNat 1) h) ∨ rng2K d e h = .stuck := by
  unfold rng2K
  split
  · split
    · rename_i q
      exact .inl ⟨_, _, rfl, rfl, q.1, q.2, rfl⟩
    · exact .inr rfl
  · exact .inr rfl
theorem di_rng1 (v : NB Γ sc "range") (ha : DV Γ N sc ea a) (se : ∀ env, starEach [ea] env = [(false, eval ea env)] := by intro _; rfl) : DI Γ N sc tg (.Call (.Name "range" p) [ea] [] pos) (.rng1 a) := fun n I W X g =>
  (pi_range1 (v.g.g g) (g.nob _ v.m) (pa_cons (ha n I W X g) pa_nil (se _)) (se _)).imp fun σ H R q => by
    obtain ⟨env, s, eH, hr, er, _, pr⟩ := At.bind (Rel1 := PRl X.K) (ev2 := fun d env h1 => rng1K d h1) q
    refine ⟨env, s, eH, hr, er, trivial, ?_⟩
    refine PR.mono pr fun x H1 ⟨d, env, s, e, hr, er, ⟨_, rb⟩, pr⟩ => ?_
    subst e
    replace pr : PR X.K I W s σ (rng1K d s.h) (JR X.K I.ci) R := pr
    unfold rng1K at pr
    cases d with
    | int k =>
      simp only at pr
      split at pr
      · rename_i h
        obtain rfl : x = .int k := RF.int_inv rb
        obtain ⟨h1, h2⟩ := rngOk_of h
        exact ⟨k, rfl, h1, h2, pr s _ (.refl s) rfl hr jr_rng⟩
      · exact False.elim pr
    | _ => exact False.elim pr
theorem di_rng2 (v : NB Γ sc "range") (ha : DV Γ N sc ea a) (hb : DV Γ N sc eb b) (se : ∀ env, starEach [ea, eb] env = [(false, eval ea env), (false, eval eb env)] := by intro _; rfl) (se2 : ∀ env, starEach [eb] env = [(false, eval eb env)] := by intro _; rfl) :
    DI Γ N sc tg (.Call (.Name "range" p) [ea, eb] [] pos) (.rng2 a b) := fun n I W X g =>
  (pi_range2 (v.g.g g) (g.nob _ v.m) (pa_cons (ha n I W X g) (pa_cons (hb n I W X g) pa_nil (se2 _)) (by rw [se, se2])) (se _) (se2 _)).imp fun σ H R q => by
    obtain ⟨env, s, eH, hr, er, _, pr⟩ := At.bind (Rel1 := PRl X.K) (ev2 := fun d env h1 => ((evalE (callF Γ.fns n) env b h1).bind unP).bind fun e h2 => rng2K d e h2) q
    refine ⟨env, s, eH, hr, er, trivial, ?_⟩
    refine PR.mono pr fun x H1 ⟨d, q⟩ => ?_
    obtain ⟨env, s, eH, hr, er, _, pr⟩ := At.bind (Rel1 := PRl X.K) (G' := fun s => PRl X.K s d x) (ev2 := fun e env h2 => rng2K d e h2) q (fun s s' l g => g.2.le l)
    refine ⟨env, s, eH, hr, er, trivial, ?_⟩
    refine PR.mono pr fun y H2 ⟨d2, env, s, e, hr, er, ⟨r1, r2⟩, pr2⟩ => ?_
    subst e
    replace pr2 : PR X.K I W s σ (rng2K d d2 s.h) (JR X.K I.ci) R := pr2
    rcases rng2K_inv d d2 s.h with ⟨i, j, rfl, rfl, g1, g2, e⟩ | e
    · rw [e] at pr2
      obtain rfl := RF.int_inv r1
      obtain rfl := RF.int_inv r2
      obtain ⟨h1, h2⟩ := rngOk_of g1
      obtain ⟨h3, h4⟩ := rngOk_of g2
      exact ⟨i, j, rfl, ⟨h1, h2, h3, h4⟩, pr2 s _ (.refl s) rfl hr jr_rng⟩
    · rw [e] at pr2
      exact False.elim pr2
theorem di_zip {elts : List Expr} {kk : Nat} {tpos : Pos} (v : NB Γ sc "zip") (ha : DV Γ N sc ea a) (hb : DV Γ N sc eb b) (se : Se2 ea eb := by intro _; rfl) (se2 : Se1 eb := by intro _; rfl) (hpl : ∀ env, (backTo pos (starEach [eb] env)).any (·.1) = false := by intro _; rfl) :
    DI Γ N sc (.Tuple elts kk tpos) (.Call (.Name "zip" p) [ea, eb] [] pos) (.zip a b) := fun n I W X g =>
  (pi_zipS (v.g.g g) (g.nob _ v.m) (pa_cons (ha n I W X g) (pa_cons (hb n I W X g) pa_nil (se2 _)) (se _)) (se _) (hpl _)).imp fun σ H R q => by
    obtain ⟨env, s, eH, hr, er, _, pr⟩ := At.bind (Rel1 := PRl X.K) (ev2 := fun d env h1 => ((evalE (callF Γ.fns n) env b h1).bind unP).bind fun e h2 => ofO ((itemsOf d).bind fun xs => (itemsOf e).map fun ys => zipD xs ys) h2) q
    refine ⟨env, s, eH, hr, er, trivial, ?_⟩
    refine PR.mono pr fun x H1 ⟨d, q⟩ => ?_
    obtain ⟨env, s, eH, hr, er, _, pr⟩ := At.bind (Rel1 := PRl X.K) (G' := fun s => PRl X.K s d x) (ev2 := fun e env h2 => ofO ((itemsOf d).bind fun xs => (itemsOf e).map fun ys => zipD xs ys) h2) q (fun s s' l g => g.2.le l)
    refine ⟨env, s, eH, hr, er, trivial, ?_⟩
    refine PR.mono pr fun y H2 ⟨d2, env, s, e, hr, er, ⟨r1, r2⟩, pr2⟩ => ?_
    subst e
    replace pr2 : PR X.K I W s σ (ofO ((itemsOf d).bind fun xs => (itemsOf d2).map fun ys => zipD xs ys) s.h) (JR X.K I.ci) R := pr2
    cases e1 : itemsOf d with
    | none => rw [e1] at pr2; exact False.elim pr2
    | some ts =>
      cases e2 : itemsOf d2 with
      | none => rw [e1, e2] at pr2; exact False.elim pr2
      | some us =>
        rw [e1, e2] at pr2
        obtain ⟨k, xs, h1, q1, k1⟩ := rf_seq e1 r1
        obtain ⟨l, ys, h2, q2, k2⟩ := rf_seq e2 r2
        exact ⟨k, l, x, y, xs, ys, rfl, h1, h2, pr2 s _ (.refl s) rfl hr (jr_zip q1 q2 k1 k2)⟩
end
end Cd
set_option Elab.async false
set_option linter.all false
set_option maxRecDepth 100000
set_option maxHeartbeats 4000000
namespace Cd
open PySem PySem.Spec PyProof.Rows L2
/-- the names within a comprehension -/
def blkS (sc : Sco) (scope : Scope) : Sco := ⟨relS scope sc.s, fun x => scope.names.lookup x == some .cell, false, sc.gd⟩
section
variable {Γ : Gm} {N : List Str} {sc : Sco} {n : Nat} {I : Inf} {W : WX} {X : Cx}
theorem GX.blk (g : GX Γ n I N sc W X) (scope : Scope) (s : Shared) (H : Hp) (C : Addr) (cl : List (Str × Addr)) (fp : List Addr) : GX Γ n I N (blkS sc scope) (fun _ _ _ _ => False) (X.blk s H scope (compEnvC scope cl C X.env) fp) where
  hN := g.hN
  nd := g.nd
  fnc := rfl
  sc := by
    show relabel scope X.env = relS scope sc.s
    rw [← g.sc]
    rfl
  calm := g.calm
  tk := takes0
  pass := PassesOwn.never
  room := g.room
  fn := g.fn
  nob := g.nob
  con := g.con
  cl := g.cl
  mt := g.mt
  fl := g.fl
  ci := g.ci
  xc := g.xc
  xm := g.xm
  tb := g.tb
  st := g.st
  stk := fun z => by cases z
  gd := g.gd
end
def DTs (Γ : Gm) (N : List Str) (sc : Sco) (es : List Expr) (ts : List Te) : Prop :=
  ∀ n I W X, GX Γ n I N sc W X → PTs X es (tE X.K I W (fun env h => evalTs (callF Γ.fns n) env ts h) (fun _ a x => x = a))
theorem _root_.L2.PTs.imp {X : Cx} {e : List Expr} {t t' : TT} (h : PTs X e t) (i : ∀ σ H Q, t' σ H Q → t σ H Q) : PTs X e t' := ⟨fun pins s σ H Q I q => h.run pins s σ H Q I (i σ H Q q)⟩
section
variable {Γ : Gm} {N : List Str} {sc : Sco} {e tg ea eb ec : Expr} {a b c : E} {ta : Te} {o : O2} {pos p p2 : Pos} {es : List Expr} {as : List E} {i j : Nat} {x f : Str} {t : Tg} {src : Src}
theorem dts_nil : DTs Γ N sc [] [] := fun n I W X g => pts_nil.imp fun σ H Q ⟨env, s, eH, hr, er, _, pr⟩ => by
  subst eH
  exact pr s true (.refl s) rfl hr rfl
theorem dts_one (h : DT Γ N sc ea ta) : DTs Γ N sc [ea] [ta] := fun n I W X g => (pts_one (h n I W X g)).imp fun σ H Q ⟨env, s, eH, hr, er, _, pr⟩ => by
  refine ⟨env, s, eH, hr, er, trivial, ?_⟩
  have pr' : PR X.K I W s σ ((evalT (callF Γ.fns n) env ta s.h).bind fun k h1 => ifK (fun h2 => R.ok true h2) (fun h2 => .ok false h2) k h1) (fun _ a x => x = a) Q := pr
  show PR X.K I W s σ (evalT (callF Γ.fns n) env ta s.h) (fun _ a x => x = a) Q
  generalize evalT (callF Γ.fns n) env ta s.h = r at pr' ⊢
  cases r with
  | ok k h1 => cases k <;> exact pr'
  | exc e h1 => exact pr'
  | stuck => exact pr'
theorem wipe_in {σ : L2.St} : ∀ {vs : List Nat} {k : Nat}, k ∈ vs → k < σ.length → (wipe σ vs)[k]? = some none
  | v :: vs, k, h, l => by
    show ((wipe σ vs).set v none)[k]? = some none
    by_cases e : k = v
    · subst e
      rw [List.getElem?_set_self (by rw [wipe_length]; exact l)]
    · rw [List.getElem?_set_ne (Ne.symm e)]
      exact wipe_in (by simpa [e] using h) l
theorem wipe_eq {σ σ' : L2.St} {vs : List Nat} (hl : σ'.length = σ.length) (h : ∀ k, k ∉ vs → σ'[k]? = σ[k]?) : wipe σ' vs = wipe σ vs := by
  apply List.ext_getElem?
  intro k
  by_cases hk : k ∈ vs
  · by_cases l : k < σ.length
    · rw [wipe_in hk l, wipe_in hk (by rw [hl]; exact l)]
    · rw [List.getElem?_eq_none (by rw [wipe_length]; omega), List.getElem?_eq_none (by rw [wipe_length]; omega)]
  · rw [wipe_out hk, wipe_out hk, h k hk]
/-- a list under construction gets its next content -/
def Sx.wr (s : Sx) (D : Addr) (xs : List V) : Sx := { s with H := upd s.H D (.lst xs) }
section
variable {K : PySem.W.Frag} {CI : CInf} {s s0 : Sx} {D : Addr} {ys xs : List V}
theorem wr_keep (hr : HR K CI s) (hb : s.B D) (hD : s.H D = some (.lst ys)) : KeepF s.F s.H (s.wr D xs).F (s.wr D xs).H where
  up := fun _ h => h
  fz := fun a o f h => by
    show upd s.H D _ a = some o
    rw [upd_ne (fun e => by subst e; exact (hr.bt a hb).2.1 f)]; exact h
  tp := fun a o h => by
    show upd s.H D _ a = some _
    rw [upd_ne (fun e => by rw [e, hD] at h; cases h)]; exact h
  zz := fun a o u h => by
    show upd s.H D _ a = some _
    rw [upd_ne (fun e => by rw [e, hD] at h; cases h)]; exact h
theorem HR.wr (hr : HR K CI s) (hb : s.B D) (hD : s.H D = some (.lst ys)) : HR K CI (s.wr D xs) where
  ob := fun n o e => (hr.ob n o e).move (wr_keep hr hb hD) e fun j l => ⟨rfl, fun u h => by
    show upd s.H D _ (s.φ n j) = some u
    rw [upd_ne ((hr.bt D hb).1 n j l)]; exact h⟩
  inj := hr.inj
  nf := hr.nf
  bt := fun b h => by
    obtain ⟨h1, h2, u, h3⟩ := hr.bt b h
    refine ⟨h1, h2, ?_⟩
    by_cases e : b = D
    · exact ⟨.lst xs, by show upd s.H D _ b = _; rw [e]; exact upd_same⟩
    · exact ⟨u, by show upd s.H D _ b = some u; rw [upd_ne e]; exact h3⟩
  ft := fun b h => by
    obtain ⟨u, h3⟩ := hr.ft b h
    exact ⟨u, by show upd s.H D _ b = some u; rw [upd_ne (fun e => by subst e; exact (hr.bt b hb).2.1 h)]; exact h3⟩
theorem wr_le (l : Le s0 s) (h0 : s0.H D = none) (hr0 : HR K CI s0) : Le s0 (s.wr D xs) where
  len := l.len
  ph := l.ph
  kf := ⟨l.kf.up, fun a o f h => by show upd s.H D _ a = some o; rw [upd_ne (ne_of_none h h0)]; exact l.kf.fz a o f h,
    fun a o h => by show upd s.H D _ a = some _; rw [upd_ne (ne_of_none h h0)]; exact l.kf.tp a o h,
    fun a o u h => by show upd s.H D _ a = some _; rw [upd_ne (ne_of_none h h0)]; exact l.kf.zz a o u h⟩
  fr := fun b h => by
    obtain ⟨h1, h2⟩ := l.fr b h
    obtain ⟨_, _, u, e⟩ := hr0.bt b h
    exact ⟨h1, by show upd s.H D _ b = s0.H b; rw [upd_ne (ne_of_none e h0)]; exact h2⟩
end
/-- with D kept apart -/
def Sx.guard (s : Sx) (D : Addr) : Sx := { s.put D (.lst []) false with B := fun b => s.B b ∨ b = D }
theorem HR.guard {K : PySem.W.Frag} {CI : CInf} {s : Sx} {D : Addr} (hr : HR K CI s) (h : s.H D = none) : HR K CI (s.guard D) := by
  have r := hr.put (o := .lst []) (fz := false) h
  refine ⟨r.ob, r.inj, r.nf, fun b hb => ?_, r.ft⟩
  rcases hb with hb | hb
  · exact r.bt b hb
  · subst hb
    refine ⟨(hr.fresh h).2.1, fun f => ?_, _, upd_same⟩
    rcases f with f | ⟨f, _⟩
    · exact (hr.fresh h).1 f
    · cases f
theorem guard_le {K : PySem.W.Frag} {CI : CInf} {s : Sx} {D : Addr} (hr : HR K CI s) (h : s.H D = none) : Le s (s.guard D) :=
  have l := hr.put_le (o := .lst []) (fz := false) h
  ⟨l.len, l.ph, l.kf, fun b hb => ⟨.inl hb, (l.fr b hb).2⟩⟩
def Sx.unguard (s : Sx) (B : Addr → Prop) : Sx := { s with B := B }
theorem compK_inv {r : R (List PyData)} : (∃ ys h, r = .ok ys h ∧ compK r = .ok (.p (.list ys)) h) ∨ compK r = .stuck := by
  cases r with
  | ok ys h => exact .inl ⟨ys, h, rfl, rfl⟩
  | _ => exact .inr rfl
abbrev snds (own : List (Str × Nat)) : List Nat := own.map fun p => p.2
/-- what a comprehension's row asks, from what its small program does -/
theorem lc_imp {n : Nat} {I : Inf} {W : WX} {X : Cx} {conds : List Te} {own : List (Str × Nat)} (hsub : ∀ k, k ∈ tgSlots t → k ∈ snds own) {σ : L2.St} {H : Hp} {Q : VK}
    (q : tE X.K I W (fun env h => (evalE (callF Γ.fns n) env (.comp (snds own) t src conds a) h).bind unP) (RN X.K) σ H Q) :
    tLc (tE X.K I W (fun env h => evalSrc (callF Γ.fns n) env src h) (JR X.K I.ci)) (tG X.K I.ci t) (tE X.K I (fun _ _ _ _ => False) (fun env h => evalTs (callF Γ.fns n) env conds h) (fun _ a x => x = a))
      (tE X.K I (fun _ _ _ _ => False) (fun env h => (evalE (callF Γ.fns n) env a h).bind unP) (PRl X.K)) (own.map (·.2)) σ H Q := by
  have q' : tE X.K I W (fun env h => (evalSrc (callF Γ.fns n) env src h).bind fun items h1 => (compK2 (compL (fun e h => (evalE (callF Γ.fns n) e a h).bind unP) (fun e h => evalTs (callF Γ.fns n) e conds h) (fun x e => bindT t x e) (wipeE env (snds own))) items h1).bind unP) (RN X.K) σ H Q := by
    obtain ⟨env, s, eH, hr, er, _, pr⟩ := q
    refine ⟨env, s, eH, hr, er, trivial, ?_⟩
    have pr' : PR X.K I W s σ (((evalSrc (callF Γ.fns n) env src s.h).bind fun items h1 => compK2 (compL (fun e h => (evalE (callF Γ.fns n) e a h).bind unP) (fun e h => evalTs (callF Γ.fns n) e conds h) (fun x e => bindT t x e) (wipeE env (snds own))) items h1).bind unP) (RN X.K) Q := pr
    show PR X.K I W s σ ((evalSrc (callF Γ.fns n) env src s.h).bind fun items h1 => (compK2 (compL (fun e h => (evalE (callF Γ.fns n) e a h).bind unP) (fun e h => evalTs (callF Γ.fns n) e conds h) (fun x e => bindT t x e) (wipeE env (snds own))) items h1).bind unP) (RN X.K) Q
    generalize evalSrc (callF Γ.fns n) env src s.h = r at pr' ⊢
    cases r with
    | ok items h1 => exact pr'
    | exc e h1 => exact pr'
    | stuck => exact pr'
  obtain ⟨env, s, eH, hr, er, _, pr⟩ := At.bind (Rel1 := JR X.K I.ci) (ev2 := fun items env h1 => (compK2 (compL (fun e h => (evalE (callF Γ.fns n) e a h).bind unP) (fun e h => evalTs (callF Γ.fns n) e conds h) (fun x e => bindT t x e) (wipeE env (snds own))) items h1).bind unP) q'
  refine ⟨env, s, eH, hr, er, trivial, ?_⟩
  refine PR.mono pr fun J H1 ⟨items, env, s, e, hr, er, ⟨_, jr⟩, pr⟩ => ?_
  clear q' q
  intro D hD
  subst e
  replace pr : PR X.K I W s σ ((compK2 (compL (fun e h => (evalE (callF Γ.fns n) e a h).bind unP) (fun e h => evalTs (callF Γ.fns n) e conds h) (fun x e => bindT t x e) (wipeE env (snds own))) items s.h).bind unP) (RN X.K) Q := pr
  unfold compK2 at pr
  by_cases hz : items.length < sizeLine
  · rw [if_pos hz] at pr
    rcases compK_inv (r := compL (fun e h => (evalE (callF Γ.fns n) e a h).bind unP) (fun e h => evalTs (callF Γ.fns n) e conds h) (fun x e => bindT t x e) (wipeE env (snds own)) items s.h) with ⟨ys, h2, e1, e2⟩ | e2
    · rw [e2] at pr
      replace pr : PR X.K I W s σ (R.ok (PyData.list ys) h2) (RN X.K) Q := pr
      have hD0 : s.H D = none := hD
      refine ⟨fun i m H' => i ≤ items.length ∧ m = items.length - i ∧ ∃ s' acc accT rest, s'.H = H' ∧ HR X.K I.ci s' ∧ Le s s' ∧ s'.B D ∧ s'.H D = some (.lst acc) ∧ RFs X.K s'.F s'.H accT acc ∧ accT.length ≤ i ∧
        compL (fun e h => (evalE (callF Γ.fns n) e a h).bind unP) (fun e h => evalTs (callF Γ.fns n) e conds h) (fun x e => bindT t x e) (wipeE env (snds own)) (items.drop i) s'.h = .ok rest h2 ∧ accT ++ rest = ys,
        ⟨_, Nat.zero_le _, rfl, s.guard D, [], [], ys, rfl, hr.guard hD0, guard_le hr hD0, .inr rfl, upd_same, .nil, Nat.le_refl _, by rw [List.drop_zero]; exact e1, rfl⟩, ?_⟩
      rintro i m H' ⟨hi, rfl, s', acc, accT, rest, rfl, hr', l', hB, hDa, ra, hla, er1, er2⟩
      have hlen := ra.length
      by_cases hin : i = items.length
      · left
        refine ⟨(jr s' l' hr' i).2.1 hin, ?_⟩
        subst hin
        rw [List.drop_length] at er1
        cases er1
        rw [List.append_nil] at er2
        subst er2
        refine pr (s'.unguard s.B) (.ref D) ⟨l'.len, l'.ph, l'.kf, fun b hb => ⟨hb, (l'.fr b hb).2⟩⟩ rfl ⟨hr'.ob, hr'.inj, hr'.nf, fun b hb => hr'.bt b (l'.fr b hb).1, hr'.ft⟩ ?_
        exact ⟨accT, D, acc, rfl, rfl, hDa, ra, (hr'.bt D hB).2.1, (hr'.bt D hB).1, (hr.fresh hD0).2.2⟩
      · right
        have hlt : i < items.length := by omega
        refine ⟨(jr s' l' hr' i).1 hlt, fun H'' => i + 1 ≤ items.length ∧ ∃ s' acc accT rest, s'.H = H'' ∧ HR X.K I.ci s' ∧ Le s s' ∧ s'.B D ∧ s'.H D = some (.lst acc) ∧ RFs X.K s'.F s'.H accT acc ∧ accT.length ≤ i + 1 ∧
          compL (fun e h => (evalE (callF Γ.fns n) e a h).bind unP) (fun e h => evalTs (callF Γ.fns n) e conds h) (fun x e => bindT t x e) (wipeE env (snds own)) (items.drop (i + 1)) s'.h = .ok rest h2 ∧ accT ++ rest = ys,
          fun H'' ⟨h1, h3⟩ => ⟨items.length - (i + 1), by omega, h1, rfl, h3⟩, fun x H2 hy => ?_⟩
        obtain ⟨d, s2, ed, e2, l2, eh2, hr2, rd⟩ := (jr s' l' hr' i).2.2 x H2 hlt hy
        subst e2
        have edr : items.drop i = d :: items.drop (i + 1) := by
          obtain ⟨h, e⟩ := List.getElem?_eq_some_iff.mp ed
          rw [List.drop_eq_getElem_cons h, e]
        rw [edr] at er1
        unfold compL at er1
        cases eb : bindT t d (wipeE env (snds own)) with
        | none => simp only [eb] at er1; cases er1
        | some env1 =>
          simp only [eb] at er1
          refine ⟨wipeE env (snds own), s2, d, env1, rfl, hr2, ((er.le l').le l2).wipe _, rd, eb, fun σ1 er' ⟨k1, k2⟩ => ⟨?_, ?_⟩⟩
          · exact (wipe_eq (k1.trans (wipe_length _ _)) fun k hk => by rw [k2 k (fun z => hk (hsub k z)), wipe_out hk])
          · refine ⟨env1, s2, rfl, hr2, er', trivial, ?_⟩
            rw [← eh2] at er1
            show PR X.K I (fun _ _ _ _ => False) s2 σ1 (evalTs (callF Γ.fns n) env1 conds s2.h) _ _
            cases ec : evalTs (callF Γ.fns n) env1 conds s2.h with
            | exc e h => rw [ec] at er1; cases er1
            | stuck => rw [ec] at er1; cases er1
            | ok k h3 =>
              rw [ec] at er1
              rintro s3 k' l3 eh3 hr3 rfl
              subst eh3
              have l23 := l2.trans l3
              have hB3 : s3.B D ∧ s3.H D = some (.lst acc) := by
                obtain ⟨b1, b2⟩ := l23.fr D hB
                exact ⟨b1, b2.trans hDa⟩
              cases k' with
              | false =>
                simp only [R.bind_ok, Bool.false_eq_true, if_false] at er1 ⊢
                exact ⟨by omega, s3, acc, accT, rest, rfl, hr3, l'.trans l23, hB3.1, hB3.2, ra.keep l23.kf, by omega, er1, er2⟩
              | true =>
                simp only [R.bind_ok, if_true] at er1 ⊢
                refine ⟨env1, s3, rfl, hr3, er'.le l3, trivial, ?_⟩
                show PR X.K I (fun _ _ _ _ => False) s3 σ1 ((evalE (callF Γ.fns n) env1 a s3.h).bind unP) _ _
                cases ev : (evalE (callF Γ.fns n) env1 a s3.h).bind unP with
                | exc e h => rw [ev] at er1; cases er1
                | stuck => rw [ev] at er1; cases er1
                | ok y h4 =>
                  rw [ev] at er1
                  simp only [R.bind_ok] at er1
                  intro s4 z l4 eh4 hr4 rz
                  subst eh4
                  have hB4 : s4.B D ∧ s4.H D = some (.lst acc) := by
                    obtain ⟨b1, b2⟩ := l4.fr D hB3.1
                    exact ⟨b1, b2.trans hB3.2⟩
                  have l24 := l23.trans l4
                  cases er3 : compL (fun e h => (evalE (callF Γ.fns n) e a h).bind unP) (fun e h => evalTs (callF Γ.fns n) e conds h) (fun x e => bindT t x e) (wipeE env (snds own)) (items.drop (i + 1)) s4.h with
                  | exc e h => rw [er3] at er1; cases er1
                  | stuck => rw [er3] at er1; cases er1
                  | ok rest2 h5 =>
                    rw [er3] at er1
                    cases er1
                    refine ⟨acc, hB4.2, by omega, by omega, s4.wr D (acc ++ [z]), acc ++ [z], accT ++ [y], rest2, rfl, hr4.wr hB4.1 hB4.2, wr_le (l'.trans l24) hD0 hr, hB4.1, upd_same, ?_, by simp; omega, er3, by rw [List.append_assoc]; exact er2⟩
                    exact ((ra.keep l24.kf).append (.cons rz .nil)).keep (wr_keep hr4 hB4.1 hB4.2)
    · rw [e2] at pr
      exact False.elim pr
  · rw [if_neg hz] at pr
    exact False.elim pr
theorem dn_comp {iter elt : Expr} {ifs : List Expr} {scope : Scope} {own : List (Str × Nat)} {conds : List Te} (hi : DI Γ N sc tg iter src) (ok : BlkOk N sc.s scope own) (ht : DG Γ N (blkS sc scope) tg t) (hc : DTs Γ N (blkS sc scope) ifs conds) (he : DV Γ N (blkS sc scope) elt a)
    (hsub : ∀ k, k ∈ tgSlots t → k ∈ snds own) (hs : ∀ env x, foldedSetIterable iter env x = pure x := by intro _ _; rfl) : DN Γ N sc (.ListComp elt [⟨tg, iter, ifs, 0⟩] scope pos) (.comp (snds own) t src conds a) := fun n I W X g =>
  (pe_lc (own := own) (wi := tE X.K I W (fun env h => evalSrc (callF Γ.fns n) env src h) (JR X.K I.ci)) (g := tG X.K I.ci t) (tt := tE X.K I (fun _ _ _ _ => False) (fun env h => evalTs (callF Γ.fns n) env conds h) (fun _ a x => x = a))
    (te := tE X.K I (fun _ _ _ _ => False) (fun env h => (evalE (callF Γ.fns n) env a h).bind unP) (PRl X.K)) g.calm (by rw [g.hN]; exact g.nd) (hi n I W X g) (by rw [g.hN, g.sc]; exact ok)
    (fun s H C cl fp => ht n I _ _ (g.blk scope s H C cl fp)) (fun s H C cl fp => hc n I _ _ (g.blk scope s H C cl fp)) (fun s H C cl fp => he n I _ _ (g.blk scope s H C cl fp)) (hs _)).imp fun σ H Q q => lc_imp hsub q
end
end Cd
set_option Elab.async false
set_option linter.all false
set_option maxRecDepth 100000
set_option maxHeartbeats 4000000
namespace Cd
open PySem PySem.Spec PyProof.Rows L2
def PSt (K : PySem.W.Frag) (I : Inf) (W : WX) (D : Ends) (s : Sx) (r : RS) : Prop := match r with
  | .ok .nx env' h' => ∀ s' σ', Le s s' → s'.h = h' → HR K I.ci s' → ER K s' env' σ' → D.nx σ' s'.H
  | .ok .bk env' h' => ∀ s' σ', Le s s' → s'.h = h' → HR K I.ci s' → ER K s' env' σ' → D.bk σ' s'.H
  | .ok .ct env' h' => ∀ s' σ', Le s s' → s'.h = h' → HR K I.ci s' → ER K s' env' σ' → D.ct σ' s'.H
  | .ok (.rt v) _ h' => ∀ s' x, Le s s' → s'.h = h' → HR K I.ci s' → VR K s' v x → D.rt x s'.H
  | .exc e env' h' => ∀ s' σ' cls d, Le s s' → s'.h = h' → HR K I.ci s' → ER K s' env' σ' → XR K I s' e cls d → W cls d σ' s'.H
  | .stuck => False
theorem PSt.le {K : PySem.W.Frag} {I : Inf} {W : WX} {D : Ends} {s s1 : Sx} {r : RS} (h : PSt K I W D s r) (l : Le s s1) : PSt K I W D s1 r := by
  cases r with
  | ok f env h' => cases f <;> exact fun s' x l' => h s' x (l.trans l')
  | exc e env h' => exact fun s' σ' c d l' => h s' σ' c d (l.trans l')
  | stuck => exact h
def AtS (K : PySem.W.Frag) (I : Inf) (W : WX) (D : Ends) (σ : L2.St) (H : Hp) (G : Sx → Prop) (r : Ev → Hi → RS) : Prop :=
  ∃ env s, s.H = H ∧ HR K I.ci s ∧ ER K s env σ ∧ G s ∧ PSt K I W D s (r env s.h)
def tS (K : PySem.W.Frag) (I : Inf) (W : WX) (r : Ev → Hi → RS) : TS := fun D σ H => AtS K I W D σ H (fun _ => True) r
theorem AtS.bind {α β : Type} {K : PySem.W.Frag} {I : Inf} {W : WX} {D : Ends} {σ : L2.St} {H : Hp} {G G' : Sx → Prop} {ev1 : Ev → Hi → R α} {k : α → Ev → Hi → RS} {Rel1 : Sx → α → β → Prop}
    (h : AtS K I W D σ H G (fun env h => (ev1 env h).toS env fun a h1 => k a env h1)) (mono : ∀ s s', Le s s' → G s → G' s' := by intro _ _ _ g; exact g) :
    tE K I W ev1 Rel1 σ H (fun x H1 => ∃ a, AtS K I W D σ H1 (fun s => G' s ∧ Rel1 s a x) (k a)) := by
  obtain ⟨env, s, eH, hr, er, g, pr⟩ := h
  refine ⟨env, s, eH, hr, er, trivial, ?_⟩
  replace pr : PSt K I W D s ((ev1 env s.h).toS env fun a h1 => k a env h1) := pr
  generalize ev1 env s.h = r at pr ⊢
  cases r with
  | ok a h1 =>
    intro s' x l eh hr' rel
    subst eh
    exact ⟨a, env, s', rfl, hr', er.le l, ⟨mono s s' l g, rel⟩, PSt.le (r := k a env s'.h) pr l⟩
  | exc e h1 => exact fun s' cls d l eh hr' xr => pr s' σ cls d l eh hr' (er.le l) xr
  | stuck => exact pr
def DS (Γ : Gm) (N : List Str) (sc : Sco) (e : Stmt) (a : S) : Prop :=
  ∀ n I W X, GX Γ n I N sc W X → PS X e (tS X.K I W (fun env h => evalS (callF Γ.fns n) a env h))
def DSs (Γ : Gm) (N : List Str) (sc : Sco) (e : List Stmt) (a : List S) : Prop :=
  ∀ n I W X, GX Γ n I N sc W X → PSs X e (tS X.K I W (fun env h => evalSs (callF Γ.fns n) a env h))
section
variable {Γ : Gm} {N : List Str} {sc : Sco} {e tg ea eb ec : Expr} {a b c : E} {ta : Te} {o : O2} {pos p p2 : Pos} {es : List Expr} {as : List E} {i j : Nat} {x y f : Str} {t : Tg} {src : Src} {st : Stmt} {sts sus : List Stmt} {sa : S} {ss us : List S}
theorem dss_nil : DSs Γ N sc [] [] := fun n I W X g => pss_nil.imp fun D σ H ⟨env, s, eH, hr, er, _, pr⟩ => by
  subst eH
  exact pr s σ (.refl s) rfl hr er
theorem dss_cons (h : DS Γ N sc st sa) (hs : DSs Γ N sc sts ss) : DSs Γ N sc (st :: sts) (sa :: ss) := fun n I W X g => (pss_cons (h n I W X g) (hs n I W X g)).imp fun D σ H ⟨env, s, eH, hr, er, _, pr⟩ => by
  refine ⟨env, s, eH, hr, er, trivial, ?_⟩
  replace pr : PSt X.K I W D s ((evalS (callF Γ.fns n) sa env s.h).bind (evalSs (callF Γ.fns n) ss)) := pr
  show PSt X.K I W _ s (evalS (callF Γ.fns n) sa env s.h)
  generalize evalS (callF Γ.fns n) sa env s.h = r at pr ⊢
  cases r with
  | ok fl env1 h1 =>
    cases fl with
    | nx =>
      intro s' σ' l eh hr' er'
      subst eh
      exact ⟨env1, s', rfl, hr', er', trivial, PSt.le (r := evalSs (callF Γ.fns n) ss env1 s'.h) pr l⟩
    | bk => exact pr
    | ct => exact pr
    | rt v => exact pr
  | exc e env1 h1 => exact pr
  | stuck => exact pr
theorem ds_ret (ha : DE Γ N sc ea a) : DS Γ N sc (.Return (some ea) pos) (.ret a) := fun n I W X g => (ps_ret (ha n I W X g)).imp fun D σ H q => by
  obtain ⟨env, s, eH, hr, er, _, pr⟩ := AtS.bind (Rel1 := VR X.K) (k := fun v env h1 => .ok (.rt v) env h1) q
  refine ⟨env, s, eH, hr, er, trivial, PR.mono pr fun x H1 ⟨v, env, s, e, hr, er, ⟨_, r⟩, pr⟩ => ?_⟩
  subst e
  exact pr s x (.refl s) rfl hr r
theorem ds_set (v : TOk N sc i x) (ha : DE Γ N sc ea a) (hs : ∀ env, swapsWith ea (some (.Name x p)) pos.line env = pure false := by intro _; rfl) : DS Γ N sc (.Assign [.Name x p] ea pos) (.set i a) := fun n I W X g =>
  (ps_set (i := i) (by rw [g.hN]; exact g.nd) (by rw [g.hN]; exact v.hN) (by rw [g.sc]; exact v.loc) (ha n I W X g) (hs _) (by rw [g.fnc, g.sc]; exact v.fn)).imp fun D σ H q => by
    obtain ⟨env, s, eH, hr, er, _, pr⟩ := AtS.bind (Rel1 := VR X.K) (k := fun v env h1 => .ok .nx (setSlot env i (some v)) h1) q
    refine ⟨env, s, eH, hr, er, trivial, PR.mono pr fun x H1 ⟨v, env, s, e, hr, er, ⟨_, r⟩, pr⟩ => ?_⟩
    subst e
    exact pr s _ (.refl s) rfl hr (er.set r)
/-- a list of the heap that is new -/
def Sx.mkL (s : Sx) (a : Addr) (ts : List PyData) : Sx := { s with h := s.h ++ [.lst ts], φ := fun m k => if m = s.h.length then a else s.φ m k }
theorem get_app {h : Hi} {o : Ob} {m : Nat} {u : Ob} (e : (h ++ [o])[m]? = some u) : (m < h.length ∧ h[m]? = some u) ∨ (m = h.length ∧ u = o) := by
  by_cases l : m < h.length
  · rw [List.getElem?_append_left l] at e
    exact .inl ⟨l, e⟩
  · rw [List.getElem?_append_right (by omega)] at e
    have e0 : m - h.length = 0 := by
      by_cases z : m - h.length = 0
      · exact z
      · rw [List.getElem?_eq_none (by simp; omega)] at e; cases e
    rw [e0] at e
    simp at e
    exact .inr ⟨by omega, e.symm⟩
theorem live_app {h : Hi} {ts : List PyData} {m k : Nat} (l : Live (h ++ [.lst ts]) m k) : (m < h.length ∧ Live h m k) ∨ (m = h.length ∧ k = 0) := by
  cases k with
  | zero =>
    obtain ⟨o, e, nd⟩ := l
    rcases get_app e with ⟨h1, h2⟩ | ⟨h1, h2⟩
    · exact .inl ⟨h1, o, h2, nd⟩
    · exact .inr ⟨h1, rfl⟩
  | succ k =>
    rcases l with ⟨c, fs, us, e, ef⟩ | ⟨kvs, q, us, e, ef⟩
    · rcases get_app e with ⟨h1, h2⟩ | ⟨h1, h2⟩
      · exact .inl ⟨h1, .inl ⟨c, fs, us, h2, ef⟩⟩
      · cases h2
    · rcases get_app e with ⟨h1, h2⟩ | ⟨h1, h2⟩
      · exact .inl ⟨h1, .inr ⟨kvs, q, us, h2, ef⟩⟩
      · cases h2
theorem live_lt {h : Hi} {m k : Nat} (l : Live h m k) : m < h.length := by
  cases k with
  | zero => obtain ⟨o, e, _⟩ := l; exact (List.getElem?_eq_some_iff.mp e).1
  | succ k =>
    rcases l with ⟨c, fs, us, e, ef⟩ | ⟨kvs, q, us, e, ef⟩
    all_goals exact (List.getElem?_eq_some_iff.mp e).1
theorem HR.mkL {K : PySem.W.Frag} {CI : CInf} {s : Sx} {a : Addr} {ts : List PyData} {xs : List V} (hr : HR K CI s) (ha : s.H a = some (.lst xs)) (r : RFs K s.F s.H ts xs) (nf : ¬ s.F a) (nl : NotLive s a) (nb : ¬ s.B a) : HR K CI (s.mkL a ts) where
  ob := fun m u e => by
    rcases get_app e with ⟨h1, h2⟩ | ⟨h1, h2⟩
    · exact (hr.ob m u h2).move (s' := s.mkL a ts) .refl h2 fun j l => ⟨if_neg (Nat.ne_of_lt h1), fun w e => e⟩
    · subst h1; subst h2
      refine ⟨xs, ?_, r⟩
      show s.H (if s.h.length = s.h.length then a else s.φ s.h.length 0) = some (.lst xs)
      rw [if_pos rfl]; exact ha
  inj := fun m j q k l1 l2 e => by
    have e' : (if m = s.h.length then a else s.φ m j) = (if q = s.h.length then a else s.φ q k) := e
    rcases live_app l1 with ⟨h1, h2⟩ | ⟨h1, h2⟩ <;> rcases live_app l2 with ⟨h3, h4⟩ | ⟨h3, h4⟩
    · rw [if_neg (Nat.ne_of_lt h1), if_neg (Nat.ne_of_lt h3)] at e'
      exact hr.inj _ _ _ _ h2 h4 e'
    · rw [if_neg (Nat.ne_of_lt h1), if_pos h3] at e'
      exact absurd e' (nl _ _ h2)
    · rw [if_pos h1, if_neg (Nat.ne_of_lt h3)] at e'
      exact absurd e'.symm (nl _ _ h4)
    · exact ⟨h1.trans h3.symm, h2.trans h4.symm⟩
  nf := fun m j l => by
    show ¬ s.F (if m = s.h.length then a else s.φ m j)
    rcases live_app l with ⟨h1, h2⟩ | ⟨h1, h2⟩
    · rw [if_neg (Nat.ne_of_lt h1)]; exact hr.nf _ _ h2
    · rw [if_pos h1]; exact nf
  bt := fun b hb => by
    obtain ⟨h1, h2, h3⟩ := hr.bt b hb
    refine ⟨fun m j l => ?_, h2, h3⟩
    show (if m = s.h.length then a else s.φ m j) ≠ b
    rcases live_app l with ⟨k1, k2⟩ | ⟨k1, k2⟩
    · rw [if_neg (Nat.ne_of_lt k1)]; exact h1 _ _ k2
    · rw [if_pos k1]; rintro rfl; exact nb hb
  ft := hr.ft
theorem mkL_le {s : Sx} {a : Addr} {ts : List PyData} : Le s (s.mkL a ts) := ⟨by show s.h.length ≤ (s.h ++ [_]).length; simp, fun n h => if_neg (Nat.ne_of_lt h), .refl, fun _ h => ⟨h, rfl⟩⟩
/-- a new list gets a place of its own -/
theorem mk_imp {K : PySem.W.Frag} {I : Inf} {W : WX} {ev : Ev → Hi → R PyData} {σ : L2.St} {H : Hp} {Q : VK} (q : tE K I W (fun env h => (ev env h).bind mkK) (VR K) σ H Q) : tE K I W ev (RN K) σ H Q := by
  obtain ⟨env, s, eH, hr, er, _, pr⟩ := q
  refine ⟨env, s, eH, hr, er, trivial, ?_⟩
  replace pr : PR K I W s σ ((ev env s.h).bind mkK) (VR K) Q := pr
  generalize ev env s.h = r at pr ⊢
  cases r with
  | ok d h1 =>
    rintro s' x l eh hr' ⟨ts, p, xs, rfl, rfl, hp, q, nf, nl, nb⟩
    subst eh
    exact pr (s'.mkL p ts) _ (l.trans mkL_le) rfl (hr'.mkL hp q nf nl nb) ⟨by show s'.h.length < (s'.h ++ [_]).length; simp, by show _ = V.ref (if s'.h.length = s'.h.length then p else _); rw [if_pos rfl]⟩
  | exc e h1 => exact pr
  | stuck => exact pr
theorem de_mk (ha : DN Γ N sc ea a) : DE Γ N sc ea (.mk a) := fun n I W X g => (ha n I W X g).imp fun σ H Q q => mk_imp (ev := fun env h => (evalE (callF Γ.fns n) env a h).bind unP) q
/-- a name gets a comprehension's list, in one line -/
structure SwOk (N : List Str) (sc : Sco) (i : Nat) (y : Str) (scope : Scope) (pos py : Pos) (l : Nat) : Prop where
  hN : N[i]? = some y
  kind : sc.s.kind = .function
  loc : sc.s.names.lookup y = some .local
  line : (py.line == pos.line) = true
  same : l = py.line
  own : (scope.names.any fun (n, k) => n == y && (k == .local || k == .cell)) = false
section
variable {iter elt : Expr} {ifs : List Expr} {scope : Scope} {own : List (Str × Nat)} {conds : List Te} {py : Pos}
end
theorem ds_unpack (ht : DG Γ N sc tg t) (ha : DV Γ N sc ea a) (hs : ∀ env, swapsWithSole [tg] ea pos.line env = pure false := by intro _; rfl) (hw : ∀ n I W X, GX Γ n I N sc W X → swappedStores [tg] ea X.env = pure none := by intro _ _ _ _ _; rfl)
    (h1 : ∀ env, (assignEach [tg] env).map (·.2) = [assign tg env] := by intro _; rfl) : DS Γ N sc (.Assign [tg] ea pos) (.unpack t a) := fun n I W X g => (ps_asg (ha n I W X g) (ht n I W X g) (hs _) (hw n I W X g) (h1 _)).imp fun D σ H q => by
  obtain ⟨env, s, eH, hr, er, _, pr⟩ := AtS.bind (Rel1 := PRl X.K) (k := fun d env h1 => match bindT t d env with
    | some env1 => .ok .nx env1 h1
    | none => .stuck) q
  refine ⟨env, s, eH, hr, er, trivial, PR.mono pr fun x H1 ⟨d, env, s, e, hr, er, ⟨_, r⟩, pr⟩ => ?_⟩
  subst e
  replace pr : PSt X.K I W D s (match bindT t d env with
    | some env1 => .ok .nx env1 s.h
    | none => .stuck) := pr
  cases eb : bindT t d env with
  | none => rw [eb] at pr; exact False.elim pr
  | some env1 =>
    rw [eb] at pr
    exact ⟨env, s, d, env1, rfl, hr, er, r, eb, fun σ1 er1 _ => pr s σ1 (.refl s) rfl hr er1⟩
theorem ds_if (hc : DT Γ N sc ec ta) (ha : DSs Γ N sc sts ss) (hb : DSs Γ N sc sus us) : DS Γ N sc (.If ec sts sus pos) (.if_ ta ss us) := fun n I W X g => (ps_if (hc n I W X g) (ha n I W X g) (hb n I W X g)).imp fun D σ H q => by
  obtain ⟨env, s, eH, hr, er, _, pr⟩ := AtS.bind (Rel1 := fun _ (a x : Bool) => x = a) (ev1 := fun env h => evalT (callF Γ.fns n) env ta h) (k := fun (k : Bool) env h1 => if k = true then evalSs (callF Γ.fns n) ss env h1 else evalSs (callF Γ.fns n) us env h1) q
  refine ⟨env, s, eH, hr, er, trivial, PR.mono pr fun k H1 ⟨k', env, s, e, hr, er, ⟨_, r⟩, pr⟩ => ?_⟩
  subst e
  subst r
  cases k with
  | true => exact ⟨env, s, rfl, hr, er, trivial, pr⟩
  | false => exact ⟨env, s, rfl, hr, er, trivial, pr⟩
theorem ds_for (hi : DI Γ N sc tg ea src) (ht : DG Γ N sc tg t) (hb : DSs Γ N sc sts ss) (hs : ∀ env x, foldedSetIterable ea env x = pure x := by intro _ _; rfl) : DS Γ N sc (.For tg ea sts [] pos) (.for_ t src ss) := fun n I W X g =>
  (ps_for g.pass g.calm (hi n I W X g) (ht n I W X g) (hb n I W X g) (hs _)).imp fun D σ H q => by
    obtain ⟨env, s, eH, hr, er, _, pr⟩ := AtS.bind (Rel1 := JR X.K I.ci) (k := fun items env h1 => forL (evalSs (callF Γ.fns n) ss) (bindT t) items env h1) q
    refine ⟨env, s, eH, hr, er, trivial, PR.mono pr fun J H1 ⟨items, env, s, e, hr, er, ⟨_, jr⟩, pr⟩ => ?_⟩
    subst e
    refine ⟨fun i m σ' H' => i ≤ items.length ∧ m = items.length - i ∧ ∃ env' s', s'.H = H' ∧ HR X.K I.ci s' ∧ ER X.K s' env' σ' ∧ Le s s' ∧ PSt X.K I W D s' (forL (evalSs (callF Γ.fns n) ss) (bindT t) (items.drop i) env' s'.h),
      ⟨_, Nat.zero_le _, rfl, env, s, rfl, hr, er, .refl s, by rw [List.drop_zero]; exact pr⟩, ?_⟩
    rintro i m σ' H' ⟨hi, rfl, env', s', rfl, hr', er', l', pr'⟩
    by_cases hin : i = items.length
    · left
      refine ⟨(jr s' l' hr' i).2.1 hin, ?_⟩
      rw [hin, List.drop_length] at pr'
      exact pr' s' _ (.refl _) rfl hr' er'
    · right
      have hlt : i < items.length := by omega
      refine ⟨(jr s' l' hr' i).1 hlt, fun σ2 H2 => i + 1 ≤ items.length ∧ ∃ env2 s2, s2.H = H2 ∧ HR X.K I.ci s2 ∧ ER X.K s2 env2 σ2 ∧ Le s s2 ∧ PSt X.K I W D s2 (forL (evalSs (callF Γ.fns n) ss) (bindT t) (items.drop (i + 1)) env2 s2.h),
        fun σ2 H2 ⟨h1, h2⟩ => ⟨items.length - (i + 1), by omega, h1, rfl, h2⟩, fun x H2 hy => ?_⟩
      obtain ⟨d, s2, ed, e2, l2, eh2, hr2, rd⟩ := (jr s' l' hr' i).2.2 x H2 hlt hy
      subst e2
      have edr : items.drop i = d :: items.drop (i + 1) := by
        obtain ⟨h, e⟩ := List.getElem?_eq_some_iff.mp ed
        rw [List.drop_eq_getElem_cons h, e]
      rw [edr] at pr'
      unfold forL at pr'
      cases eb : bindT t d env' with
      | none => simp only [eb] at pr'; exact False.elim pr'
      | some env1 =>
        simp only [eb] at pr'
        refine ⟨env', s2, d, env1, rfl, hr2, er'.le l2, rd, eb, fun σ1 er1 _ => ⟨env1, s2, rfl, hr2, er1, trivial, ?_⟩⟩
        show PSt X.K I W _ s2 (evalSs (callF Γ.fns n) ss env1 s2.h)
        rw [← eh2] at pr'
        generalize evalSs (callF Γ.fns n) ss env1 s2.h = r at pr' ⊢
        cases r with
        | ok fl env2 h2 =>
          cases fl with
          | nx =>
            intro s3 σ3 l3 eh3 hr3 er3
            subst eh3
            exact ⟨by omega, env2, s3, rfl, hr3, er3, l'.trans (l2.trans l3), PSt.le pr' (l2.trans l3)⟩
          | ct =>
            intro s3 σ3 l3 eh3 hr3 er3
            subst eh3
            exact ⟨by omega, env2, s3, rfl, hr3, er3, l'.trans (l2.trans l3), PSt.le pr' (l2.trans l3)⟩
          | bk => exact PSt.le (r := .ok .nx env2 h2) pr' l2
          | rt v => exact PSt.le (r := .ok (.rt v) env2 h2) pr' l2
        | exc e env2 h2 => exact PSt.le (r := .exc e env2 h2) pr' l2
        | stuck => exact pr'
end
end Cd
set_option Elab.async false
set_option linter.all false
set_option maxRecDepth 100000
set_option maxHeartbeats 4000000
namespace Cd
open PySem PySem.Spec PyProof.Rows L2
section
variable {K : PySem.W.Frag} {CI : CInf} {s : Sx} {n j : Nat} {xs xs' : List V} {h' : Hi} {ob' : Ob}
theorem own_keep {H' : Hp} {a : Addr} {u : HO} (hr : HR K CI s) (hl : Live s.h n j) (ha : a = s.φ n j) (hx : s.H a = some u) (nt : ∀ ys, u ≠ .tup ys) (nz : ∀ o v, u ≠ .frz o v) (e : H' = upd s.H a ob) : KeepF s.F s.H s.F H' := by
  subst e
  refine ⟨fun _ h => h, fun b o f e => ?_, fun b ys e => ?_, fun b o v e => ?_⟩
  · rw [upd_ne]; exact e
    rintro rfl
    exact hr.nf n j hl (ha ▸ f)
  · rw [upd_ne]; exact e
    rintro rfl
    rw [hx] at e; cases e
    exact nt _ rfl
  · rw [upd_ne]; exact e
    rintro rfl
    rw [hx] at e; cases e
    exact nz _ _ rfl
/-- the same places, one of them written: the object n gets the form ob' -/
theorem HR.wrO {o : HO} {u : HO} (hr : HR K CI s) (hl : Live s.h n j) (hx : s.H (s.φ n j) = some u) (nt : ∀ ys, u ≠ .tup ys) (nz : ∀ o v, u ≠ .frz o v)
    (hlive : ∀ m k, Live h' m k → Live s.h m k) (hoth : ∀ m, m ≠ n → h'[m]? = s.h[m]?) (hn : ∀ w, h'[n]? = some w → w = ob') (hob : ObR K CI { s with h := h', H := upd s.H (s.φ n j) o } n ob') : HR K CI { s with h := h', H := upd s.H (s.φ n j) o } where
  ob := fun m w e => by
    by_cases hm : m = n
    · subst hm
      rw [hn w e]; exact hob
    · have e' : s.h[m]? = some w := by rw [← hoth m hm]; exact e
      refine (hr.ob m w e').move (s' := { s with h := h', H := upd s.H (s.φ n j) o }) (own_keep hr hl rfl hx nt nz rfl) e' fun k l => ⟨rfl, fun v q => ?_⟩
      show upd s.H (s.φ n j) o (s.φ m k) = some v
      rw [upd_ne]; exact q
      intro z
      exact hm (hr.inj _ _ _ _ l hl z).1
  inj := fun m a q b l1 l2 e => hr.inj m a q b (hlive _ _ l1) (hlive _ _ l2) e
  nf := fun m a l => hr.nf m a (hlive _ _ l)
  bt := fun b hb => by
    obtain ⟨h1, h2, w, h3⟩ := hr.bt b hb
    exact ⟨fun m a l => h1 m a (hlive _ _ l), h2, w, by show upd s.H (s.φ n j) o b = _; rw [upd_ne (fun e => h1 n j hl e.symm)]; exact h3⟩
  ft := fun b hb => by
    obtain ⟨w, h3⟩ := hr.ft b hb
    exact ⟨w, by show upd s.H (s.φ n j) o b = _; rw [upd_ne (fun e => by subst e; exact hr.nf n j hl hb)]; exact h3⟩
theorem wrO_le {o : HO} {u : HO} (hr : HR K CI s) (hl : Live s.h n j) (hx : s.H (s.φ n j) = some u) (nt : ∀ ys, u ≠ .tup ys) (nz : ∀ o v, u ≠ .frz o v) (hlen : h'.length = s.h.length) : Le s { s with h := h', H := upd s.H (s.φ n j) o } :=
  ⟨by show s.h.length ≤ h'.length; omega, fun _ _ => rfl, own_keep hr hl rfl hx nt nz rfl, fun b hb => ⟨hb, by show upd s.H (s.φ n j) o b = _; rw [upd_ne (fun e => (hr.bt b hb).1 n j hl e.symm)]⟩⟩
theorem get_set {h : Hi} {n m : Nat} {o w : Ob} (e : (h.set n o)[m]? = some w) : (m = n ∧ w = o) ∨ (m ≠ n ∧ h[m]? = some w) := by
  by_cases hm : m = n
  · subst hm
    have hl : m < h.length := by simpa using (List.getElem?_eq_some_iff.mp e).1
    rw [List.getElem?_set_self hl] at e
    exact .inl ⟨rfl, by cases e; rfl⟩
  · rw [List.getElem?_set_ne (Ne.symm hm)] at e
    exact .inr ⟨hm, e⟩
theorem live_set {h : Hi} {n m k : Nat} {o : Ob} (l : Live (h.set n o) m k) : (m ≠ n ∧ Live h m k) ∨ (m = n ∧ Live (List.replicate n .dead ++ [o]) n k) := by
  have rep : (List.replicate n Ob.dead ++ [o])[n]? = some o := by
    rw [List.getElem?_append_right (by simp)]; simp
  cases k with
  | zero =>
    obtain ⟨w, e, nd⟩ := l
    rcases get_set e with ⟨h1, h2⟩ | ⟨h1, h2⟩
    · subst h2; exact .inr ⟨h1, _, rep, nd⟩
    · exact .inl ⟨h1, w, h2, nd⟩
  | succ k =>
    rcases l with ⟨c, fs, us, e, ef⟩ | ⟨kvs, q, us, e, ef⟩
    · rcases get_set e with ⟨h1, h2⟩ | ⟨h1, h2⟩
      · subst h2; exact .inr ⟨h1, .inl ⟨c, fs, us, rep, ef⟩⟩
      · exact .inl ⟨h1, .inl ⟨c, fs, us, h2, ef⟩⟩
    · rcases get_set e with ⟨h1, h2⟩ | ⟨h1, h2⟩
      · subst h2; exact .inr ⟨h1, .inr ⟨kvs, q, us, rep, ef⟩⟩
      · exact .inl ⟨h1, .inr ⟨kvs, q, us, h2, ef⟩⟩
theorem rep_get {n : Nat} {o w : Ob} (e : (List.replicate n Ob.dead ++ [o])[n]? = some w) : w = o := by
  rw [List.getElem?_append_right (by simp)] at e
  simpa using e.symm
/-- where the list of p is, and that it may be written -/
structure OwnL (K : PySem.W.Frag) (CI : CInf) (s : Sx) (env : Ev) (p : E) (a : Addr) (ts : List PyData) : Prop where
  ex : ∃ xs, s.H a = some (.lst xs) ∧ RFs K s.F s.H ts xs
  wr : ∀ ts' xs' h', storeL env s.h p ts' = some h' → RFs K s.F s.H ts' xs' → ∃ s', s'.H = upd s.H a (.lst xs') ∧ s'.h = h' ∧ HR K CI s' ∧ Le s s'
theorem own_var {env : Ev} {i : Nat} {ts : List PyData} (hr : HR K CI s) (e : getL env s.h (.var i) = some ts) : ∃ n, slot env i = some (.ref n) ∧ s.h[n]? = some (.lst ts) ∧ OwnL K CI s env (.var i) (s.φ n 0) ts := by
  simp only [getL, peek] at e
  cases e1 : lstOf env s.h i with
  | none => rw [e1] at e; cases e
  | some q =>
    rw [e1] at e
    simp only [Option.map_some, Option.some.injEq] at e
    obtain ⟨h1, h2⟩ := lstOf_of e1
    rw [e] at h2
    refine ⟨q.1, h1, h2, ?_, fun ts' xs' h' es r => ?_⟩
    · obtain ⟨xs, h3, h4⟩ := hr.ob _ _ h2
      exact ⟨xs, h3, h4⟩
    · obtain ⟨xs, h3, h4⟩ := hr.ob _ _ h2
      have hl : Live s.h q.1 0 := ⟨_, h2, by intro z; cases z⟩
      have es' : (slotRef env i).map (fun n => s.h.set n (.lst ts')) = some h' := es
      have e3 : slotRef env i = some q.1 := by unfold slotRef; rw [h1]
      rw [e3] at es'
      cases es'
      have kp := own_keep (ob := .lst xs') hr hl rfl h3 (by intro _ z; cases z) (by intro _ _ z; cases z) rfl
      refine ⟨{ s with h := s.h.set q.1 (.lst ts'), H := upd s.H (s.φ q.1 0) (.lst xs') }, rfl, rfl, hr.wrO hl h3 (by intro _ z; cases z) (by intro _ _ z; cases z) (fun m k l => ?_) (fun m hm => ?_) (fun w e => ?_) (ob' := .lst ts') ⟨xs', upd_same, r.keep kp⟩, wrO_le hr hl h3 (by intro _ z; cases z) (by intro _ _ z; cases z) (by simp)⟩
      · rcases live_set l with ⟨_, z⟩ | ⟨rfl, z⟩
        · exact z
        · cases k with
          | zero => exact hl
          | succ k =>
            rcases z with ⟨c, fs, us, e, ef⟩ | ⟨kvs, q, us, e, ef⟩
            all_goals cases rep_get e
      · rw [List.getElem?_set_ne (Ne.symm hm)]
      · rcases get_set e with ⟨_, z⟩ | ⟨z, _⟩
        · exact z
        · exact absurd rfl z
end
section
variable {Γ : Gm} {N : List Str} {sc : Sco} {e tg ea eb ec : Expr} {a b c : E} {ta : Te} {o : O2} {pos p p2 apos : Pos} {es : List Expr} {as : List E} {i j : Nat} {x y f : Str} {t : Tg} {src : Src} {cl : Nat} {names : List Str}
theorem ref_addr {K : PySem.W.Frag} {s : Sx} {env : Ev} {σ : L2.St} (er : ER K s env σ) {n : Nat} (e : slot env i = some (.ref n)) : σ[i]? = some (some (.ref (s.φ n 0))) ∧ n < s.h.length := by
  obtain ⟨x, h1, h2, rfl⟩ := er.at_ i _ e
  exact ⟨h1, h2⟩
/-- the form of a call of a list's method, in one line -/
structure MOk (pos apos : Pos) : Prop where
  line : (apos.endLine == pos.line) = true
abbrev Few (e : Expr) (pos : Pos) : Prop := ∀ env, ((backTo pos (starEach [e] env)).all (fun x => !x.1) && (backToKw pos (keywordEach [] env)).all (fun x => x.1.isSome)
      && decide ([e].length + ([] : List Keyword).length + (if ([] : List Keyword).isEmpty then 0 else 1) < 30)) = true
theorem ds_app {q : Pos} (v : VOk N sc i x) (ha : DV Γ N sc ea a) (m : MOk p apos) (hs : ∀ env, swapsWith (.Call (.Attribute (.Name x q) "append" apos) [ea] [] p) none pos.line env = pure false := by intro _; rfl)
    (hb : Ab x q "append" := by intro _; rfl) (hf : Few ea p := by intro _; rfl) (se : Se1 ea := by intro _; rfl) : DS Γ N sc (.Expr (.Call (.Attribute (.Name x q) "append" apos) [ea] [] p) pos) (.app (.var i) a) := fun n I W X g =>
  (ps_expr (pe_bm PySem.F.plainAttrs_list PySem.F.slot_list_append PySem.F.type_list_append mt_append (v.pe g) (pa_cons (ha n I W X g) pa_nil (se _)) (hb _) (hf _) m.line (se _) rfl) (hs _)).imp fun D σ H q => by
    obtain ⟨env, s, eH, hr, er, _, pr⟩ := q
    replace pr : PSt X.K I W D s (match getL env s.h (.var i) with
      | none => .stuck
      | some _ => ((evalE (callF Γ.fns n) env a s.h).bind unP).toS env fun d h1 => ofH env (appH env (.var i) d h1)) := pr
    cases e0 : getL env s.h (.var i) with
    | none => rw [e0] at pr; exact False.elim pr
    | some ts0 =>
      rw [e0] at pr
      obtain ⟨m0, k1, k2, k3⟩ := own_var hr e0
      obtain ⟨xs0, k4, k5⟩ := k3.ex
      obtain ⟨k6, k7⟩ := ref_addr er k1
      refine ⟨_, k6, .inl ⟨rfl, xs0, .inl (by rw [← eH]; exact Rd.of k4)⟩, ?_⟩
      have q' : AtS X.K I W D σ H (fun s' => s'.φ m0 0 = s.φ m0 0) (fun env' h => ((evalE (callF Γ.fns n) env' a h).bind unP).toS env' fun d h1 => ofH env' (appH env' (.var i) d h1)) := ⟨env, s, eH, hr, er, rfl, pr⟩
      obtain ⟨env1, s1, eH1, hr1, er1, _, pr1⟩ := AtS.bind (Rel1 := PRl X.K) (ev1 := fun env h => (evalE (callF Γ.fns n) env a h).bind unP) (G := fun s' => s'.φ m0 0 = s.φ m0 0 ∧ σ[i]? = some (some (.ref (s'.φ m0 0))) ∧ m0 < s'.h.length) (G' := fun s' => s'.φ m0 0 = s.φ m0 0 ∧ σ[i]? = some (some (.ref (s'.φ m0 0)))) (k := fun d env h1 => ofH env (appH env (.var i) d h1))
        ⟨env, s, eH, hr, er, (⟨rfl, k6, k7⟩ : s.φ m0 0 = s.φ m0 0 ∧ σ[i]? = some (some (.ref (s.φ m0 0))) ∧ m0 < s.h.length), pr⟩ (fun s' s2 l g => by
          obtain ⟨g1, g2, g3⟩ := g
          rw [l.ph m0 g3]; exact ⟨g1, g2⟩)
      refine ⟨env1, s1, eH1, hr1, er1, trivial, PR.mono pr1 fun y H1 ⟨d, env2, s2, e2, hr2, er2, ⟨⟨g1, g2⟩, r⟩, pr2⟩ => ?_⟩
      subst e2
      replace pr2 : PSt X.K I W D s2 (ofH env2 ((getL env2 s2.h (.var i)).bind fun ts => if ts.length < sizeLine then storeL env2 s2.h (.var i) (ts ++ [d]) else none)) := pr2
      cases e3 : getL env2 s2.h (.var i) with
      | none => rw [e3] at pr2; exact False.elim pr2
      | some ts =>
        rw [e3, Option.bind_some] at pr2
        split at pr2
        · rename_i hz
          cases e4 : storeL env2 s2.h (.var i) (ts ++ [d]) with
          | none => rw [e4] at pr2; exact False.elim pr2
          | some h' =>
            rw [e4] at pr2
            obtain ⟨m2, j1, j2, j3⟩ := own_var hr2 e3
            obtain ⟨xs, j4, j5⟩ := j3.ex
            obtain ⟨j6, j7⟩ := ref_addr er2 j1
            rw [g2] at j6
            have j8 : s2.φ m0 0 = s2.φ m2 0 := by simpa using j6
            obtain ⟨s3, eH3, eh3, hr3, l3⟩ := j3.wr _ (xs ++ [y]) _ e4 (j5.append (.cons r .nil))
            refine ⟨_, xs, y, by rw [← g1, j8], rfl, j4, by rw [← j5.length]; exact hz, ?_⟩
            rw [← eH3]
            exact pr2 s3 σ l3 eh3 hr3 (er2.le l3)
        · exact False.elim pr2
theorem ds_ext {q : Pos} (v : VOk N sc i x) (ha : DN Γ N sc ea a) (m : MOk p apos) (hs : ∀ env, swapsWith (.Call (.Attribute (.Name x q) "extend" apos) [ea] [] p) none pos.line env = pure false := by intro _; rfl)
    (hb : Ab x q "extend" := by intro _; rfl) (hf : Few ea p := by intro _; rfl) (se : Se1 ea := by intro _; rfl) : DS Γ N sc (.Expr (.Call (.Attribute (.Name x q) "extend" apos) [ea] [] p) pos) (.ext (.var i) a) := fun n I W X g =>
  (ps_expr (pe_bm PySem.F.plainAttrs_list PySem.F.slot_list_extend PySem.F.type_list_extend mt_extend (v.pe g) (pa_cons (ha n I W X g) pa_nil (se _)) (hb _) (hf _) m.line (se _) rfl) (hs _)).imp fun D σ H q => by
    obtain ⟨env, s, eH, hr, er, _, pr⟩ := q
    replace pr : PSt X.K I W D s (match getL env s.h (.var i) with
      | none => .stuck
      | some _ => ((evalE (callF Γ.fns n) env a s.h).bind unP).toS env fun d h1 => ofH env (extH env (.var i) d h1)) := pr
    cases e0 : getL env s.h (.var i) with
    | none => rw [e0] at pr; exact False.elim pr
    | some ts0 =>
      rw [e0] at pr
      obtain ⟨m0, k1, k2, k3⟩ := own_var hr e0
      obtain ⟨xs0, k4, k5⟩ := k3.ex
      obtain ⟨k6, k7⟩ := ref_addr er k1
      refine ⟨_, k6, .inl ⟨rfl, xs0, .inl (by rw [← eH]; exact Rd.of k4)⟩, ?_⟩
      obtain ⟨env1, s1, eH1, hr1, er1, _, pr1⟩ := AtS.bind (Rel1 := RN X.K) (ev1 := fun env h => (evalE (callF Γ.fns n) env a h).bind unP) (G := fun s' => s'.φ m0 0 = s.φ m0 0 ∧ σ[i]? = some (some (.ref (s'.φ m0 0))) ∧ m0 < s'.h.length) (G' := fun s' => s'.φ m0 0 = s.φ m0 0 ∧ σ[i]? = some (some (.ref (s'.φ m0 0)))) (k := fun d env h1 => ofH env (extH env (.var i) d h1))
        ⟨env, s, eH, hr, er, (⟨rfl, k6, k7⟩ : s.φ m0 0 = s.φ m0 0 ∧ σ[i]? = some (some (.ref (s.φ m0 0))) ∧ m0 < s.h.length), pr⟩ (fun s' s2 l g => by
          obtain ⟨g1, g2, g3⟩ := g
          rw [l.ph m0 g3]; exact ⟨g1, g2⟩)
      refine ⟨env1, s1, eH1, hr1, er1, trivial, PR.mono pr1 fun y H1 ⟨d, env2, s2, e2, hr2, er2, ⟨⟨g1, g2⟩, r⟩, pr2⟩ => ?_⟩
      subst e2
      obtain ⟨ds, p0, ys, rfl, rfl, hp0, q0, nf, nl, nb⟩ := r
      replace pr2 : PSt X.K I W D s2 (ofH env2 ((getL env2 s2.h (.var i)).bind fun ts => if ts.length + ds.length ≤ sizeLine then storeL env2 s2.h (.var i) (ts ++ ds) else none)) := pr2
      cases e3 : getL env2 s2.h (.var i) with
      | none => rw [e3] at pr2; exact False.elim pr2
      | some ts =>
        rw [e3, Option.bind_some] at pr2
        split at pr2
        · rename_i hz
          cases e4 : storeL env2 s2.h (.var i) (ts ++ ds) with
          | none => rw [e4] at pr2; exact False.elim pr2
          | some h' =>
            rw [e4] at pr2
            obtain ⟨m2, j1, j2, j3⟩ := own_var hr2 e3
            obtain ⟨xs, j4, j5⟩ := j3.ex
            obtain ⟨j6, j7⟩ := ref_addr er2 j1
            rw [g2] at j6
            have j8 : s2.φ m0 0 = s2.φ m2 0 := by simpa using j6
            obtain ⟨s3, eH3, eh3, hr3, l3⟩ := j3.wr _ (xs ++ ys) _ e4 (j5.append q0)
            refine ⟨_, p0, xs, ys, by rw [← g1, j8], rfl, j4, hp0, by rw [← j5.length, ← q0.length]; exact hz, ?_⟩
            rw [← eH3]
            exact pr2 s3 σ l3 eh3 hr3 (er2.le l3)
        · exact False.elim pr2
/-- xs.pop(k) of a list of the heap -/
theorem ixN_eq {n : Nat} {k : Int} {j : Nat} (h : ixN n k = some j) : seqIndex? k n = some j := (ixN_seq h).1
theorem pop_inv {env : Ev} {i : Nat} {d : PyData} {h : Hi} : popK env i d h = .stuck ∨ ∃ p k j x, lstOf env h i = some p ∧ d = .int k ∧ ixN p.2.length k = some j ∧ p.2[j]? = some x ∧ (-(2 ^ 63) ≤ k ∧ k < 2 ^ 63) ∧ popK env i d h = .ok (.p x) (h.set p.1 (.lst (p.2.eraseIdx j))) := by
  unfold popK
  cases e1 : lstOf env h i with
  | none => exact .inl rfl
  | some p =>
    cases d with
    | int k =>
      simp only
      cases e2 : ixN p.2.length k with
      | none => exact .inl rfl
      | some j =>
        simp only
        cases e3 : p.2[j]? with
        | none => exact .inl rfl
        | some x =>
          simp only
          split
          · rename_i hz
            exact .inr ⟨p, k, j, x, rfl, rfl, e2, e3, by omega, rfl⟩
          · exact .inl rfl
    | _ => exact .inl rfl
theorem de_pop {q : Pos} (v : VOk N sc i x) (ha : DV Γ N sc ea a) (m : MOk p apos) (hb : Ab x q "pop" := by intro _; rfl) (hf : Few ea p := by intro _; rfl) (se : Se1 ea := by intro _; rfl) : DE Γ N sc (.Call (.Attribute (.Name x q) "pop" apos) [ea] [] p) (.pop i a) := fun n I W X g =>
  (pe_bm PySem.F.plainAttrs_list PySem.F.slot_list_pop PySem.F.type_list_pop mt_popAt (v.pe g) (pa_cons (ha n I W X g) pa_nil (se _)) (hb _) (hf _) m.line (se _) rfl).imp fun σ H Q q => by
    obtain ⟨env, s, eH, hr, er, _, pr⟩ := q
    replace pr : PR X.K I W s σ (match lstOf env s.h i with
      | none => .stuck
      | some _ => ((evalE (callF Γ.fns n) env a s.h).bind unP).bind fun d h1 => popK env i d h1) (VR X.K) Q := pr
    cases e0 : lstOf env s.h i with
    | none => rw [e0] at pr; exact False.elim pr
    | some p0 =>
      rw [e0] at pr
      have e0' : getL env s.h (.var i) = some p0.2 := by simp only [getL, peek, e0, Option.map_some]
      obtain ⟨m0, k1, k2, k3⟩ := own_var hr e0'
      obtain ⟨xs0, k4, k5⟩ := k3.ex
      obtain ⟨k6, k7⟩ := ref_addr er k1
      refine ⟨_, k6, .inl ⟨rfl, xs0, .inl (by rw [← eH]; exact Rd.of k4)⟩, ?_⟩
      obtain ⟨env1, s1, eH1, hr1, er1, _, pr1⟩ := At.bind (Rel1 := PRl X.K) (ev1 := fun env h => (evalE (callF Γ.fns n) env a h).bind unP) (G := fun s' => s'.φ m0 0 = s.φ m0 0 ∧ σ[i]? = some (some (.ref (s'.φ m0 0))) ∧ m0 < s'.h.length) (G' := fun s' => s'.φ m0 0 = s.φ m0 0 ∧ σ[i]? = some (some (.ref (s'.φ m0 0)))) (ev2 := fun d env h1 => popK env i d h1)
        ⟨env, s, eH, hr, er, (⟨rfl, k6, k7⟩ : s.φ m0 0 = s.φ m0 0 ∧ σ[i]? = some (some (.ref (s.φ m0 0))) ∧ m0 < s.h.length), pr⟩ (fun s' s2 l g => by
          obtain ⟨g1, g2, g3⟩ := g
          rw [l.ph m0 g3]; exact ⟨g1, g2⟩)
      refine ⟨env1, s1, eH1, hr1, er1, trivial, PR.mono pr1 fun y H1 ⟨d, env2, s2, e2, hr2, er2, ⟨⟨g1, g2⟩, r⟩, pr2⟩ => ?_⟩
      subst e2
      replace pr2 : PR X.K I W s2 σ (popK env2 i d s2.h) (VR X.K) Q := pr2
      rcases pop_inv (env := env2) (i := i) (d := d) (h := s2.h) with e3 | ⟨p, k, j, z, e3, rfl, e4, e5, e6, e7⟩
      · rw [e3] at pr2; exact False.elim pr2
      · rw [e7] at pr2
        obtain rfl := RF.int_inv r
        have e8 : getL env2 s2.h (.var i) = some p.2 := by simp only [getL, peek, e3, Option.map_some]
        obtain ⟨m2, j1, j2, j3⟩ := own_var hr2 e8
        obtain ⟨xs, j4, j5⟩ := j3.ex
        obtain ⟨j6, j7⟩ := ref_addr er2 j1
        rw [g2] at j6
        have j8 : s2.φ m0 0 = s2.φ m2 0 := by simpa using j6
        obtain ⟨w, hw, rw'⟩ := j5.get e5
        have e9 : storeL env2 s2.h (.var i) (p.2.eraseIdx j) = some (s2.h.set p.1 (.lst (p.2.eraseIdx j))) := by
          have : slotRef env2 i = some p.1 := by unfold slotRef; rw [(lstOf_of e3).1]
          simp only [storeL, this, Option.map_some]
        obtain ⟨s3, eH3, eh3, hr3, l3⟩ := j3.wr _ (xs.eraseIdx j) _ e9 (j5.eraseIdx j)
        refine ⟨_, xs, k, j, w, by rw [← g1, j8], rfl, j4, e6.1, e6.2, by rw [← j5.length]; exact ixN_eq e4, hw, ?_⟩
        rw [← eH3]
        exact pr2 s3 w l3 eh3 hr3 (RF.keep l3.kf rw')
end
end Cd
set_option Elab.async false
set_option linter.all false
set_option maxRecDepth 100000
set_option maxHeartbeats 4000000
namespace Cd
open PySem PySem.Spec PyProof.Rows L2
theorem callF_np {fns : Nat → Option FnD} {n f : Nat} {d : FnD} {args : List Val} {h : Hi} (e : fns f = some d) : args.length = d.np ∨ callF fns n f args h = .stuck := by
  cases n with
  | zero => exact .inr rfl
  | succ n =>
    unfold callF
    rw [e]
    by_cases z : args.length = d.np
    · exact .inl z
    · refine .inr ?_
      show (if args.length = d.np then _ else R.stuck) = R.stuck
      exact if_neg z
section
variable {Γ : Gm} {N : List Str} {sc : Sco} {e tg ea eb ec : Expr} {a b c : E} {ta : Te} {o : O2} {pos p p2 apos : Pos} {es : List Expr} {as : List E} {i j fi : Nat} {x y f m : Str} {t : Tg} {src : Src} {cl : Nat} {names : List Str}
/-- what a callee is asked -/
theorem sp_of {K : PySem.W.Frag} {I : Inf} {W : WX} {s : Sx} {σ : L2.St} {fns : Nat → Option FnD} {n : Nat} {d : FnD} {args : List Val} {vs : List V} {Q : V → Hp → Prop} (e : fns fi = some d) (hr : HR K I.ci s) (rel : Paired (VR K s) args vs) (pr : PR K I W s σ (callF fns n fi args s.h) (VR K) Q) :
    spF K I fns n fi d.np vs s.H Q (WE W σ) := by
  rcases callF_np (fns := fns) (n := n) (f := fi) (args := args) (h := s.h) e with h | h
  · refine ⟨s, args, rfl, hr, rel, h, ?_⟩
    generalize callF fns n fi args s.h = r at pr ⊢
    cases r with
    | ok v h1 => exact pr
    | exc e h1 => exact pr
    | stuck => exact pr
  · rw [h] at pr; exact False.elim pr
abbrev Pl (es : List Expr) (pos : Pos) : Prop := ∀ env, (backTo pos (starEach es env)).any (·.1) = false
theorem de_call (v : GOk sc x) (hf : (x, fi) ∈ Γ.defs) (ha : DAs Γ N sc (ea :: es) as) (he : Sec ea es := by intro _; rfl) (hpl : Pl es pos := by intro _; rfl) : DE Γ N sc (.Call (.Name x p) (ea :: es) [] pos) (.call fi as) := fun n I W X g => by
  obtain ⟨a, hm, hk, hfn, fd, ps, d, e1, e2, hb, F⟩ := g.fn _ hf
  refine (pe_callS (E := WE W) F (g.room.mono (by omega)) (v.g g) hm hk hb (fun σ => passAt g.tk σ) (ha n I W X g) v.db (he _) (hpl _)).imp fun σ H Q q => ?_
  obtain ⟨env, s, eH, hr, er, _, pr⟩ := At.bind (Rel1 := fun s ds vs => Paired (VR X.K s) ds vs ∧ ds.length = as.length) (ev2 := fun vs env h1 => callF Γ.fns n fi vs h1) q
  refine ⟨env, s, eH, hr, er, trivial, PR.mono pr fun vs H1 ⟨args, env, s, eH, hr, er, ⟨_, rel⟩, pr⟩ => ?_⟩
  subst eH
  exact sp_of e1 hr rel.1 pr
end
section
variable {K : PySem.W.Frag} {CI : CInf} {s : Sx} {x dx C : Addr} {c : Nat} {names : List Str}
end
section
variable {Γ : Gm} {N : List Str} {sc : Sco} {ea : Expr} {pos p : Pos} {es : List Expr} {as : List E} {fi : Nat} {x : Str} {cl : Nat}
end
end Cd
set_option Elab.async false
set_option linter.all false
set_option maxRecDepth 100000
set_option maxHeartbeats 4000000
namespace Cd
open PySem PySem.Spec PyProof.Rows L2
section
variable {Γ : Gm} {N : List Str} {sc : Sco} {e tg ea eb ec : Expr} {a b c : E} {ta : Te} {o : O2} {pos p p2 apos : Pos} {es : List Expr} {as : List E} {i j fi : Nat} {x y f m : Str} {t : Tg} {src : Src} {cl : Nat} {names : List Str}
theorem dp_neg (ha : DP Γ N sc ea a) (np : ∀ env h, peek env h a = none := by intros; rfl) : DP Γ N sc (.UnaryOp .USub ea pos) (.op1 .neg a) where
  run := fun n I W X g => (pe_un un_neg (ha.run n I W X g)).imp fun σ H Q ⟨env, s, eH, hr, er, pr⟩ => by
    refine ⟨env, s, eH, hr, er, ?_⟩
    replace pr : (match (bor env s.h a (evalE (callF Γ.fns n) env a s.h)).bind (fun x h1 => Cd.ofO ((negS x).map Val.p) h1) with
      | .ok (.p d) h' => h' = s.h ∧ ∀ x, RF X.K s.F s.H d x → Q x H
      | _ => False) := pr
    simp only [bor, np] at pr
    show (match evalE (callF Γ.fns n) env a s.h with
    | .ok (.p d2) h' => h' = s.h ∧ ∀ y, RF X.K s.F s.H d2 y → rU (fun i => .int (-i)) y H Q
    | _ => False)
    rcases ha.pure (callF Γ.fns n) env s.h with ⟨v, e⟩ | e
    · rw [e] at pr ⊢
      cases v with
      | p d =>
        simp only [R.bind_ok, unP] at pr
        refine ⟨rfl, fun y ry => ?_⟩
        cases d with
        | int k =>
          obtain rfl := ry.int_inv
          exact ⟨k, rfl, pr.2 _ (.int _)⟩
        | _ => exact False.elim pr
      | ref m => exact False.elim pr
    · rw [e] at pr
      exact False.elim pr
  pure := fun cf env h => by
    show (∃ v, (bor env h a (evalE cf env a h)).bind (fun x h1 => Cd.ofO ((negS x).map Val.p) h1) = .ok v h) ∨ (bor env h a (evalE cf env a h)).bind (fun x h1 => Cd.ofO ((negS x).map Val.p) h1) = .stuck
    simp only [bor, np]
    rcases ha.pure cf env h with ⟨v, e⟩ | e
    · rw [e]
      cases v with
      | p d =>
        simp only [R.bind_ok, unP]
        cases negS d with
        | none => exact .inr rfl
        | some z => exact .inl ⟨_, rfl⟩
      | ref m => exact .inr rfl
    · rw [e]; exact .inr rfl
def tO (K : PySem.W.Frag) (I : Inf) (l : Bool) (r : Ev → Hi → R Val) : TO := fun σ H Q => ∃ env s, s.H = H ∧ HR K I.ci s ∧ ER K s env σ ∧ match r env s.h with
  | .ok (.p d) h' => h' = s.h ∧ ∃ o, partD l d = some o ∧ Q o H
  | _ => False
structure DO (Γ : Gm) (N : List Str) (sc : Sco) (l : Bool) (e : Option Expr) (a : E) : Prop where
  run : ∀ n I W X, GX Γ n I N sc W X → PO X e (tO X.K I l (fun env h => evalE (callF Γ.fns n) env a h))
  pure : ∀ cf env h, (∃ v, evalE cf env a h = .ok v h) ∨ evalE cf env a h = .stuck
theorem _root_.L2.PO.imp {X : Cx} {e : Option Expr} {t t' : TO} (h : PO X e t) (i : ∀ σ H Q, t' σ H Q → t σ H Q) : PO X e t' := ⟨fun pins s σ H Q I q => h.run pins s σ H Q I (i σ H Q q)⟩
theorem do_none : DO Γ N sc false none (.lit .none) where
  run := fun n I W X g => po_none.imp fun σ H Q ⟨env, s, eH, hr, er, _, o, e, q⟩ => by
    cases e
    exact q
  pure := fun cf env h => .inl ⟨_, rfl⟩
theorem do_some (ha : DP Γ N sc ea a) : DO Γ N sc true (some ea) a where
  run := fun n I W X g => (po_some (ha.run n I W X g)).imp fun σ H Q ⟨env, s, eH, hr, er, pr⟩ => by
    refine ⟨env, s, eH, hr, er, ?_⟩
    replace pr : (match evalE (callF Γ.fns n) env a s.h with
      | .ok (.p d) h' => h' = s.h ∧ ∃ o, partD true d = some o ∧ Q o H
      | _ => False) := pr
    show (match evalE (callF Γ.fns n) env a s.h with
    | .ok (.p d2) h' => h' = s.h ∧ ∀ y, RF X.K s.F s.H d2 y → ∃ i, y = .int i ∧ Q (some i) H
    | _ => False)
    generalize evalE (callF Γ.fns n) env a s.h = r at pr ⊢
    cases r with
    | ok v h1 =>
      cases v with
      | p d =>
        obtain ⟨e0, o, e1, q⟩ := pr
        refine ⟨e0, fun y ry => ?_⟩
        cases d with
        | int k =>
          obtain rfl := ry.int_inv
          cases e1
          exact ⟨k, rfl, q⟩
        | _ => cases e1
      | ref m => exact pr
    | exc e h1 => exact pr
    | stuck => exact pr
  pure := ha.pure
theorem opf3_inv {l u : Bool} {d x y z : PyData} (e : opf3 (.slice l u) d x y = some z) : ∃ ts lo hi, partD l x = some lo ∧ partD u y = some hi ∧ ((d = .list ts ∧ z = .list (cutD ts lo hi)) ∨ (d = .tuple ts ∧ z = .tuple (cutD ts lo hi))) := by
  cases d with
  | list ts =>
    have e' : ((partD l x).bind fun lo => (partD u y).map fun hi => PyData.list (cutD ts lo hi)) = some z := e
    rw [Option.bind_eq_some_iff] at e'
    obtain ⟨lo, e1, e2⟩ := e'
    rw [Option.map_eq_some_iff] at e2
    obtain ⟨hi, e2, rfl⟩ := e2
    exact ⟨ts, lo, hi, e1, e2, .inl ⟨rfl, rfl⟩⟩
  | tuple ts =>
    have e' : ((partD l x).bind fun lo => (partD u y).map fun hi => PyData.tuple (cutD ts lo hi)) = some z := e
    rw [Option.bind_eq_some_iff] at e'
    obtain ⟨lo, e1, e2⟩ := e'
    rw [Option.map_eq_some_iff] at e2
    obtain ⟨hi, e2, rfl⟩ := e2
    exact ⟨ts, lo, hi, e1, e2, .inr ⟨rfl, rfl⟩⟩
  | _ => cases e
theorem RFs.cut {K : PySem.W.Frag} {F : Addr → Prop} {H : Hp} {ts : List PyData} {xs : List V} (r : RFs K F H ts xs) (lo hi : Option Int) : RFs K F H (cutD ts lo hi) (cutV xs lo hi) := by
  unfold cutD cutV
  rw [r.length]
  exact (r.drop _).take _
theorem cutD_all {ts : List PyData} {lo hi : Option Int} (h : HT.sIx ts.length 0 lo = 0 ∧ HT.sIx ts.length ts.length hi = ts.length) : cutD ts lo hi = ts := by
  unfold cutD
  rw [h.1, h.2]
  simp
/-- t[lo:hi], what it lays known -/
def rSlTk (K : PySem.W.Frag) : V → Option Int → Option Int → Hp → VK → Prop := fun x lo hi H Q => ∃ a xs, x = .ref a ∧ SqT K H a xs ∧
  (HT.sIx xs.length 0 lo = 0 ∧ HT.sIx xs.length xs.length hi = xs.length → Q (.ref a) H) ∧ (¬ (HT.sIx xs.length 0 lo = 0 ∧ HT.sIx xs.length xs.length hi = xs.length) → ∀ p o, H p = none → TupO o → Q (.ref p) (upd H p (.frz o (.tup (cutV xs lo hi)))))
theorem sl_tupS {X : Cx} : SlR X (rSlTk X.K) := by
  intro pins s σ H x v vl vu lo hi sl Q I rx hs pl pu h
  obtain ⟨a, xs, rfl, hx, q1, q2⟩ := h
  by_cases hw : HT.sIx xs.length 0 lo = 0 ∧ HT.sIx xs.length xs.length hi = xs.length
  · exact sl_tupA pins s σ H _ v vl vu lo hi sl Q I rx hs pl pu ⟨a, xs, rfl, hx, q1, fun z => absurd hw z⟩
  · cases rx
    obtain ⟨its, r, ht, hz⟩ := I.tuple hx
    have hlen : its.toArray.size = xs.length := by rw [List.size_toArray]; exact r.length.symm
    refine ⟨"tuple", _, PyProof.Rows.slot_tuple_getitem.lookup, ht.typeIs, ?_⟩
    refine HT.getItem_tuple_cut ht hs pl pu (by rw [hlen]; exact hw) ?_ (by rw [hlen]; exact hz)
    rw [hlen]
    refine ⟨.ref s.heap.objs.size, _, I.laid (t' := s.toks) (o := .frz { cls := .type "tuple", data := .seq ((its.drop (HT.sIx xs.length 0 lo)).take (HT.sIx xs.length xs.length hi - HT.sIx xs.length 0 lo)).toArray } (.tup (cutV xs lo hi))) (fun b ob q => Heap.get?_push_of_some _ q) (Nat.le_refl _) ?_, rfl, q2 hw _ _ (I.hok.fresh (Nat.le_refl _)) ⟨rfl, rfl⟩⟩
    exact ⟨Heap.get?_push_size _ rfl, Nat.le_trans (cutV_length xs lo hi) hz, _, (r.drop (HT.sIx xs.length 0 lo)).take (HT.sIx xs.length xs.length hi - HT.sIx xs.length 0 lo), IsTup.new _ _⟩
theorem de_slice {l u : Bool} {lo hi : Option Expr} (ha : DB Γ N sc ea a) (hl : DO Γ N sc l lo b) (hu : DO Γ N sc u hi c) : DE Γ N sc (.Subscript ea (.Slice lo hi none p2) pos) (.op3b (.slice l u) a b c) := fun n I W X g =>
  (pe_slice (sl_list.or sl_tupS) (ha n I W X g) (hl.run n I W X g) (hu.run n I W X g)).imp fun σ H Q q => by
    obtain ⟨env, s, eH, hr, er, _, pr⟩ := At.bind (Rel1 := RB X.K) (ev1 := fun env h => bor env h a (evalE (callF Γ.fns n) env a h)) (ev2 := fun x env h => ((evalE (callF Γ.fns n) env b h).bind unP).bind fun y h2 => ((evalE (callF Γ.fns n) env c h2).bind unP).bind fun z h3 => ofO ((opf3 (.slice l u) x y z).map Val.p) h3) q
    refine ⟨env, s, eH, hr, er, trivial, ?_⟩
    refine PR.mono pr fun x H1 ⟨d, env, s, eH, hr, er, ⟨_, rb⟩, pr⟩ => ?_
    refine ⟨env, s, eH, hr, er, ?_⟩
    replace pr : PR X.K I W s σ (((evalE (callF Γ.fns n) env b s.h).bind unP).bind fun y h2 => ((evalE (callF Γ.fns n) env c h2).bind unP).bind fun z h3 => ofO ((opf3 (.slice l u) d y z).map Val.p) h3) (VR X.K) Q := pr
    show (match evalE (callF Γ.fns n) env b s.h with
    | .ok (.p d) h' => h' = s.h ∧ ∃ o, partD l d = some o ∧ tO X.K I u (fun env h => evalE (callF Γ.fns n) env c h) σ H1 _
    | _ => False)
    rcases hl.pure (callF Γ.fns n) env s.h with ⟨v, e⟩ | e
    · rw [e] at pr ⊢
      cases v with
      | ref m => exact False.elim pr
      | p d1 =>
        simp only [R.bind_ok, unP] at pr
        rcases hu.pure (callF Γ.fns n) env s.h with ⟨v2, e2⟩ | e2
        · rw [e2] at pr
          cases v2 with
          | ref m => exact False.elim pr
          | p d2 =>
            simp only [R.bind_ok, unP] at pr
            obtain ⟨z, e3, fin⟩ := PR.fin (o := opf3 (.slice l u) d d1 d2) pr hr
            obtain ⟨ts, lo', hi', e4, e5, ez⟩ := opf3_inv e3
            refine ⟨rfl, lo', e4, env, s, eH, hr, er, ?_⟩
            show (match evalE (callF Γ.fns n) env c s.h with
            | .ok (.p d) h' => h' = s.h ∧ ∃ o, partD u d = some o ∧ _
            | _ => False)
            rw [e2]
            refine ⟨rfl, hi', e5, ?_⟩
            subst eH
            rcases ez with ⟨rfl, rfl⟩ | ⟨rfl, rfl⟩
            · obtain ⟨p0, xs, rfl, h1, q1⟩ := rb.lst
              exact .inl ⟨p0, xs, rfl, h1, fun p' hp => fin.2 p' _ hp (lst_new hp (q1.cut lo' hi'))⟩
            · obtain ⟨p0, xs, rfl, h1, q1⟩ := rb.tupN
              refine .inr ⟨p0, xs, rfl, h1.1, fun w => ?_, fun _ p' o hp ho => fin.2 p' _ hp (tup_new hp ho (q1.cut lo' hi'))⟩
              rw [← q1.length] at w
              refine fin.1 _ ?_
              rw [cutD_all w]
              exact .tup h1 q1
        · rw [e2] at pr; exact False.elim pr
    · rw [e] at pr; exact False.elim pr
def tyName : Ty → String
  | .int => "int"
  | .bool => "bool"
  | .str => "str"
  | .tuple => "tuple"
  | .list => "list"
  | .exc _ => ""
def dTy : PyData → Option String
  | .none => some "NoneType"
  | .bool _ => some "bool"
  | .int _ => some "int"
  | .str _ => some "str"
  | .list _ => some "list"
  | .tuple _ => some "tuple"
  | _ => none
theorem rf_tyx {K : PySem.W.Frag} {s : Sx} {d : PyData} {v : V} (r : RF K s.F s.H d v) : ∃ T, dTy d = some T ∧ TyX K s.H v (.type T) := by
  cases r with
  | non => exact ⟨_, rfl, .base .non⟩
  | bl b => exact ⟨_, rfl, .base (.bl b)⟩
  | int i => exact ⟨_, rfl, .base (.int i)⟩
  | str y => exact ⟨_, rfl, .base (.str y)⟩
  | lst h q =>
    rcases h with ⟨_, h | ⟨o, h⟩⟩ | ⟨o, _, _, h1, h2, _⟩
    · exact ⟨_, rfl, .base (.lst h)⟩
    · exact ⟨_, rfl, .base (.frz h)⟩
    · exact ⟨_, rfl, .kList h1 h2⟩
  | tup h q =>
    obtain ⟨h, _⟩ := h
    rcases h with (h | ⟨o, h⟩) | h
    · exact ⟨_, rfl, .base (.tup h)⟩
    · exact ⟨_, rfl, .fTuple h⟩
    · obtain ⟨o, _, _, h1, h2, _⟩ := h
      exact ⟨_, rfl, .kTuple h1 h2⟩
theorem kit_all : ∀ t : Ty, (∀ c, t ≠ .exc c) → ∀ T ∈ ["NoneType", "bool", "int", "str", "list", "tuple"], kitB T (tyName t) = some (T == tyName t || (T == "bool" && tyName t == "int")) := by
  intro t h T hT
  cases t with
  | exc c => exact absurd rfl (h c)
  | _ => revert T; decide +kernel
theorem isTy_of {t : Ty} {d : PyData} {T : String} (h : ∀ c, t ≠ .exc c) (e : dTy d = some T) : isTy t d = (T == tyName t || (T == "bool" && tyName t == "int")) := by
  cases d <;> cases e <;> cases t <;> first | rfl | exact absurd rfl (h _)
theorem dTy_mem {d : PyData} {T : String} (e : dTy d = some T) : T ∈ ["NoneType", "bool", "int", "str", "list", "tuple"] := by
  cases d <;> cases e <;> decide
theorem de_isi {ty : Ty} {T : Str} {q : Pos} (v : NB Γ sc "isinstance") (v2 : NB Γ sc T) (ha : DV Γ N sc ea a) (hT : bootBuiltins T = some (.type (tyName ty))) (hx : ∀ c, ty ≠ .exc c := by intro _ z; cases z) (hnm : T ≠ "__name__" := by decide) (hdb : (T == ("__debug__" : Str)) = false := by decide)
    (se : Se2 ea (.Name T q) := by intro _; rfl) (se1 : Se1 (.Name T q) := by intro _; rfl) (hpl : Pl [.Name T q] pos := by intro _; rfl) : DE Γ N sc (.Call (.Name "isinstance" p) [ea, .Name T q] [] pos) (.isi a ty) := fun n I W X g =>
  (pe_callB (id := "isinstance") call_isi (v.g.g g) (g.nob _ v.m) (by decide +kernel) (pa_cons (ha n I W X g) (pa_cons (pe_bltn (v := .ty (tyName ty)) (v2.g.g g) (g.nob _ v2.m) hT rfl hnm hdb) pa_nil (se1 _)) (se _)) (by decide) (by decide) (se _) (hpl _)).imp fun σ H Q q => by
    obtain ⟨env, s, eH, hr, er, _, pr⟩ := At.bind (Rel1 := PRl X.K) (ev2 := fun d env h1 => R.ok (Val.p (.bool (isTy ty d))) h1) q
    refine ⟨env, s, eH, hr, er, trivial, PR.mono pr fun x H1 ⟨d, env, s, e, hr, er, ⟨_, rb⟩, pr⟩ => ?_⟩
    subst e
    obtain ⟨T', e1, ty'⟩ := rf_tyx rb
    refine ⟨x, .ty (tyName ty), .type T', .type (tyName ty), isTy ty d, rfl, .ty _, ty', kit_ty ?_, pr s _ (.refl s) rfl hr (.bl _)⟩
    rw [isTy_of hx e1]
    exact kit_all ty hx T' (dTy_mem e1)
set_option maxHeartbeats 1000000 in
/-- enumerate.__new__ of whatever may be walked -/
theorem enum_new1 {v : Value} {o : Obj} {C : Heap → Prop} (B : Begins v o C) :
    Meets (Builtin.«enumerate.__new__» ⟨[.type "enumerate", v], []⟩) (fun _ R s => C s.heap ∧
      R (.ok (.ret (.ref (s.heap.push o).objs.size))) { s with heap := (s.heap.push o).push { cls := .type "enumerate", data := .fields #[.none, .bool false, .ref s.heap.objs.size, rawInt 0, .none, .none] } }) :=
  .of_wp fun prog w A R s ⟨h1, h2⟩ => by
    obtain ⟨h0, gs, dr, tk, os⟩ := s
    have sub := sub_enumerate
    have it : ∀ {A' : Around} {E : Value → Shared → Prop} {Q : Value → Shared → Prop}, Q (.ref h0.objs.size) ⟨h0.push o, gs, dr, tk, os⟩ → wpAny (model prog w) A' (pyIter v) Q E ⟨h0, gs, dr, tk, os⟩ := fun q => B.iter prog w _ _ ⟨h0, gs, dr, tk, os⟩ _ h1 q
    wp_walk using it
    refine wpAny_stack_any fun st => wpAny_pure ?_
    split
    · rename_i cc _ _ _ _ _
      cases (cc == Value.type "enumerate") <;> (wp_walk using it; exact ⟨_, rfl, h2⟩)
    · wp_walk using it
      exact ⟨_, rfl, h2⟩
def ItE (C : Hp → Prop) (xs : List V) : It :=
  ⟨fun i H => C H ∧ i < xs.length, fun i H v H' => ∃ T x, v = .ref T ∧ H T = none ∧ H' = upd H T (.tup [.int (i : Nat), x]) ∧ xs[i]? = some x, fun i H => C H ∧ i = xs.length⟩
theorem turn_enumS {P : Program} {w : World} {K : PySem.W.Frag} {elts : List Expr} {kk : Nat} {tpos : Pos} {en it : Addr} {v : Value} {xs : List V} {C : Hp → Prop} {own : List Addr} {T : Addr → Nat → Heap → Prop} (S : SeqV K v xs C own T) (n1 : en ≠ it) (n2 : en ∉ own) (n3 : it ∉ own) :
    Turn P w K (.Tuple elts kk tpos) (ItE C xs) [en, it] en (fun i h => (∃ old, IsEnum h en it (0 + (i : Int)) old) ∧ T it i h) where
  mem := by simp
  obj := fun i h ⟨⟨old, he⟩, t⟩ b hb => by
    simp only [List.mem_cons, List.not_mem_nil, or_false] at hb
    rcases hb with rfl | rfl
    · exact ⟨_, he, fun v q => nomatch q⟩
    · exact S.ob _ _ _ t
  keep := fun i h h' ⟨⟨old, he⟩, t⟩ k => ⟨⟨old, k en (by simp) _ he⟩, S.at_ _ _ _ _ t (fun o e => k it (by simp) o e)⟩
  item := by
    intro X hP hw hK hc i pins s σ H E I hf st ⟨c, hi⟩
    subst hP hw hK
    obtain ⟨⟨old, he⟩, t⟩ := st
    have hh := I.ok.hd hc
    obtain ⟨P1, Q1, p1, D1, m1⟩ := S.drw X pins σ H s X.A.in1 it rfl I c (by simp [hh]) n3
    refine (GoesN.enumFrom (elts := elts) (x1 := kk) (pos := tpos) 0 D1 en n1 (by simp [n1, n2]) (by simp)).goes i s _ E hi ⟨⟨old, he⟩, t, p1⟩ fun v h' tk hY st' hk htk => ?_
    obtain ⟨T1, tt, y, rfl, hnew, hy, hT⟩ := hY
    obtain ⟨y', ey, ry⟩ := m1 i y hy
    obtain ⟨he', t', _⟩ := st'
    have new : ObjOk X.prog X.w (upd H T1 (.tup [.int (i : Nat), y'])) h' T1 (.tup [.int (i : Nat), y']) := by
      rw [Int.zero_add] at hT
      exact ⟨by show 2 ≤ sizeLine; decide, [.int (i : Nat) tt, y], .cons ⟨_, rfl⟩ (.cons ry .nil), hT⟩
    have I1 : Inv X pins σ (upd H T1 (.tup [.int (i : Nat), y'])) { s with heap := h', toks := tk } :=
      I.turnedNew (ch := [en, it]) (fun b o hb q => hk b o hb q) hf hnew new
    refine ⟨.ref T1, _, I1, rfl, ⟨T1, y', rfl, I.hok.fresh hnew, rfl, ey⟩, ⟨he', t'⟩, fun b hb => ?_⟩
    have hlt : b < s.heap.objs.size := by
      simp only [List.mem_cons, List.not_mem_nil, or_false] at hb
      rcases hb with rfl | rfl
      · exact Heap.lt_size he
      · obtain ⟨o, ho, _⟩ := S.ob _ _ _ t
        exact Heap.lt_size ho
    rw [upd_ne (Nat.ne_of_lt (Nat.lt_of_lt_of_le hlt hnew))]
    exact (hf b hb).1
  done := by
    intro X hP hw hK hc i pins s σ H E I hf st ⟨c, hi⟩
    subst hP hw hK
    obtain ⟨he, t⟩ := st
    have hh := I.ok.hd hc
    obtain ⟨P1, Q1, p1, D1, m1⟩ := S.drw X pins σ H s X.A.in1 it rfl I c (by simp [hh]) n3
    subst hi
    refine (GoesN.enumFrom (elts := elts) (x1 := kk) (pos := tpos) 0 D1 en n1 (by simp [n1, n2]) (by simp)).stops s _ E ⟨he, t, p1⟩ fun h' tk hk htk => ?_
    exact I.turnedL (ch := [en, it]) (fun b o hb q => hk b o hb q) hf
  self := fun A i s Q E st h => by
    obtain ⟨⟨_, he⟩, _⟩ := st
    exact wpAny_pyIter_enum he h
def iEnumS (K : PySem.W.Frag) (ta : TA) : TI := fun σ H R => ta σ H fun vs H1 => ∃ k x xs, vs = [x] ∧ SqK K k x xs H1 ∧ R (ItE (SqK K k x xs) xs) H1
theorem enum_of {P : Program} {w : World} {A : Around} {E : Value → Shared → Prop} {s : Shared} {v : Value} {o : Obj} {C : Heap → Prop} {Q : Value → Shared → Prop} (B : Begins v o C) (h1 : C s.heap)
    (h : ∀ h', IsEnum h' (s.heap.objs.size + 1) s.heap.objs.size 0 .none → h'.get? s.heap.objs.size = some o → (∀ b u, s.heap.get? b = some u → h'.get? b = some u) → Q (.ref (s.heap.objs.size + 1)) { s with heap := h' }) :
    wpAny (model P w) A (call (.type "enumerate") [v]) Q E s := by
  refine callType_new F.called_enumerate (by decide) (F.typeCall_enumerate_1 _) (F.newCall_enumerate_1 _) (fun obj => F.args_object_init_2 obj _) F.entry_enumerate_new (enum_new1 B) ⟨h1, ?_⟩
  show _ ∧ _
  have en : ((s.heap.push o).push { cls := .type "enumerate", data := .fields #[.none, .bool false, .ref s.heap.objs.size, rawInt 0, .none, .none] }).get? (s.heap.objs.size + 1) = some { cls := .type "enumerate", data := .fields #[.none, .bool false, .ref s.heap.objs.size, rawInt 0, .none, .none] } := by
    have z := Heap.get?_push_size (s.heap.push o) (o := { cls := .type "enumerate", data := .fields #[.none, .bool false, .ref s.heap.objs.size, rawInt 0, .none, .none] }) rfl
    rwa [Heap.size_push] at z
  rw [Heap.size_push]
  exact ⟨⟨_, en, rfl⟩, h _ en (Heap.get?_push_of_some _ (Heap.get?_push_size _ B.free)) fun b u e => Heap.get?_push_of_some _ (Heap.get?_push_of_some _ e)⟩
theorem pi_enumS {X : Cx} {e : Expr} {ta : TA} {p pos tpos : Pos} {elts : List Expr} {kk : Nat} (hg : Gl X "enumerate") (hm : X.mg "enumerate" = none) (ha : PA X [e] ta) (hs : starEach [e] X.env = [(false, eval e X.env)]) :
    PI X (.Tuple elts kk tpos) (.Call (.Name "enumerate" p) [e] [] pos) (iEnumS X.K ta) := ⟨fun pins s σ H R I h => by
  refine Call_ (ld_blt I hg hm boot_enumerate (PyProof.Rows.callWith_type1 (thn (ha.run pos pins s σ H _ I h) fun us s1 ⟨vs, H1, I1, r1, k, x, xs, ex, hx, q⟩ => ?_) hs rfl))
  subst ex
  obtain ⟨u, rfl, rx⟩ := r1.one
  obtain ⟨own, T, S⟩ := seq_of hx rx
  obtain ⟨o, Pre, B, p1, st1, l1⟩ := S.beg X pins σ H1 s1 rfl I1 hx
  refine enum_of B p1 fun h' he hit hk => wpAny_pyIter_enum he ?_
  have I2 : Inv X pins σ H1 { s1 with heap := h' } := I1.kept (t' := s1.toks) hk
  refine ⟨s1.heap.objs.size + 1, [s1.heap.objs.size + 1, s1.heap.objs.size], _, _, H1, rfl, I2, turn_enumS S (Nat.succ_ne_self _) (fun m => Nat.lt_irrefl _ (Nat.lt_of_succ_lt (l1 _ m))) (fun m => Nat.lt_irrefl _ (l1 _ m)), ⟨⟨.none, by simpa using he⟩, st1 _ _ hit⟩, fun b hb => ?_, q⟩
  have hle : s1.heap.objs.size ≤ b := by
    simp only [List.mem_cons, List.not_mem_nil, or_false] at hb
    rcases hb with rfl | rfl
    · exact Nat.le_add_right _ _
    · exact Nat.le_refl _
  exact I1.fpOk hle (I1.hok.fresh hle)⟩
theorem enumFrom_len : ∀ (ts : List PyData) (k : Nat), (enumFrom k ts).length = ts.length
  | [], _ => rfl
  | t :: ts, k => by simp [enumFrom, enumFrom_len ts (k + 1)]
theorem enumFrom_get : ∀ {ts : List PyData} {k i : Nat} {d : PyData}, ts[i]? = some d → (enumFrom k ts)[i]? = some (.tuple [.int ((k + i : Nat) : Int), d])
  | [], _, _, _, e => by simp at e
  | t :: ts, k, 0, d, e => by simp at e; subst e; simp [enumFrom]
  | t :: ts, k, i + 1, d, e => by
    have := enumFrom_get (ts := ts) (k := k + 1) (i := i) (by simpa using e)
    rw [show k + (i + 1) = k + 1 + i by omega]
    simpa [enumFrom] using this
theorem di_enum {elts : List Expr} {kk : Nat} {tpos : Pos} (v : NB Γ sc "enumerate") (ha : DV Γ N sc ea a) (se : ∀ env, starEach [ea] env = [(false, eval ea env)] := by intro _; rfl) : DI Γ N sc (.Tuple elts kk tpos) (.Call (.Name "enumerate" p) [ea] [] pos) (.enum a) := fun n I W X g =>
  (pi_enumS (v.g.g g) (g.nob _ v.m) (pa_cons (ha n I W X g) pa_nil (se _)) (se _)).imp fun σ H R q => by
    obtain ⟨env, s, eH, hr, er, _, pr⟩ := At.bind (Rel1 := PRl X.K) (ev2 := fun d env h1 => ofO ((itemsOf d).map (enumFrom 0)) h1) q
    refine ⟨env, s, eH, hr, er, trivial, PR.mono pr fun x H1 ⟨d, env, s, e, hr, er, ⟨_, rb⟩, pr⟩ => ?_⟩
    subst e
    replace pr : PR X.K I W s σ (ofO ((itemsOf d).map (enumFrom 0)) s.h) (JR X.K I.ci) R := pr
    cases e1 : itemsOf d with
    | none => rw [e1] at pr; exact False.elim pr
    | some ts =>
      rw [e1] at pr
      obtain ⟨k, xs, h1, q1, k1⟩ := rf_seq e1 rb
      refine ⟨k, x, xs, rfl, h1, pr s _ (.refl s) rfl hr fun s' le hr' i => ?_⟩
      rw [enumFrom_len, q1.length]
      refine ⟨fun hi => ⟨k1 s' le, hi⟩, fun hi => ⟨k1 s' le, hi⟩, fun v H' hi hy => ?_⟩
      obtain ⟨T, y, rfl, hT, rfl, ey⟩ := hy
      obtain ⟨d', e2, rd⟩ := (q1.keep le.kf).get' ey
      refine ⟨_, s'.put T (.tup [.int (i : Nat), y]) false, enumFrom_get e2, rfl, hr'.put_le hT, rfl, hr'.put hT, ?_⟩
      rw [Nat.zero_add]
      exact tup_newL (K := X.K) (s := s') hT (.cons (.int _) (.cons rd .nil))
end
end Cd
set_option Elab.async false
set_option linter.all false
set_option maxRecDepth 100000
set_option maxHeartbeats 4000000
namespace Cd
open PySem PySem.Spec PyProof.Rows L2
/-- the heap back to its length -/
def Sx.cut (s : Sx) (n : Nat) : Sx := { s with h := s.h.take n }
theorem live_take {h : Hi} {n m k : Nat} (l : Live (h.take n) m k) : Live h m k := by
  have g : ∀ {m : Nat} {o : Ob}, (h.take n)[m]? = some o → h[m]? = some o := fun {m o} e => by
    rw [List.getElem?_take] at e
    split at e
    · exact e
    · cases e
  cases k with
  | zero => obtain ⟨o, e, nd⟩ := l; exact ⟨o, g e, nd⟩
  | succ k =>
    rcases l with ⟨c, fs, us, e, ef⟩ | ⟨kvs, q, us, e, ef⟩
    · exact .inl ⟨c, fs, us, g e, ef⟩
    · exact .inr ⟨kvs, q, us, g e, ef⟩
theorem HR.cut {K : PySem.W.Frag} {CI : CInf} {s : Sx} (hr : HR K CI s) (n : Nat) : HR K CI (s.cut n) where
  ob := fun m o e => by
    have e' : s.h[m]? = some o := by
      have e2 : (s.h.take n)[m]? = some o := e
      rw [List.getElem?_take] at e2
      split at e2
      · exact e2
      · cases e2
    exact (hr.ob m o e').move (s' := s.cut n) .refl e' fun j l => ⟨rfl, fun u h => h⟩
  inj := fun m j q k l1 l2 e => hr.inj m j q k (live_take l1) (live_take l2) e
  nf := fun m j l => hr.nf m j (live_take l)
  bt := fun b hb => let ⟨h1, h2, h3⟩ := hr.bt b hb; ⟨fun m j l => h1 m j (live_take l), h2, h3⟩
  ft := hr.ft
theorem cut_le {s s' : Sx} (l : Le s s') : Le s (s'.cut s.h.length) := ⟨by show s.h.length ≤ (s'.h.take s.h.length).length; rw [List.length_take]; have := l.len; omega, l.ph, l.kf, l.fr⟩
theorem slot_get : ∀ {env : Ev} {i : Nat} {v : Val}, slot env i = some v → env[i]? = some (some v)
  | [], _, _, h => by simp [slot] at h
  | x :: _, 0, v, h => by
    have e : x = some v := h
    rw [e]; rfl
  | _ :: r, i + 1, v, h => by
    have := slot_get (env := r) (i := i) (v := v) h
    simpa using this
theorem paired_get {α β : Type} {R : α → β → Prop} : ∀ {xs : List α} {ys : List β} {i : Nat} {x : α}, Paired R xs ys → xs[i]? = some x → ∃ y, ys[i]? = some y ∧ R x y
  | _, _, _, _, .nil, e => by simp at e
  | _, _, 0, _, .cons r _, e => by simp at e; subst e; exact ⟨_, rfl, r⟩
  | _, _, i + 1, x, .cons _ t, e => by
    obtain ⟨y, h1, h2⟩ := paired_get (i := i) (x := x) t (by simpa using e)
    exact ⟨y, by simpa using h1, h2⟩
theorem er_start {K : PySem.W.Frag} {s : Sx} {N : List Str} {d : FnD} {args : List Val} {vs : List V} (hN : N.length = d.ns) (r : Paired (VR K s) args vs) : ER K s (startE d args) (L2.start N vs) where
  len := by
    have := r.length
    unfold startE L2.start
    simp only [List.length_append, List.length_map, List.length_replicate]
    omega
  at_ := fun i v e => by
    have e1 := slot_get e
    have hl := r.length
    unfold startE at e1
    by_cases h : i < args.length
    · rw [List.getElem?_append_left (by simpa using h), List.getElem?_map] at e1
      cases e2 : args[i]? with
      | none => rw [e2] at e1; cases e1
      | some w =>
        rw [e2] at e1
        have e3 : w = v := by simpa using e1
        subst e3
        obtain ⟨x, h1, h2⟩ := paired_get r e2
        refine ⟨x, ?_, h2⟩
        unfold L2.start
        rw [List.getElem?_append_left (by simp; omega), List.getElem?_map, h1]
        rfl
    · rw [List.getElem?_append_right (by simp; omega), List.getElem?_replicate] at e1
      split at e1
      · cases e1
      · cases e1
/-- what the top tells, at the interpreter's fuel n -/
structure GD (P : Program) (w : World) (K : PySem.W.Frag) (mg : Str → Option Value) (base : Heap) (I : Inf) (Γ : Gm) (n : Nat) : Prop where
  fn : ∀ p ∈ Γ.defs, ∃ a, mg p.1 = some (.ref a) ∧ FAt P w K mg base I Γ.fns n p.2 a
  nob : ∀ x ∈ Γ.nobs, mg x = none
  con : ∀ p ∈ Γ.cons, ∃ u v, mg p.1 = some u ∧ RelV v u ∧ ∀ F H, RF K F H p.2 v
  cl : ∀ p ∈ Γ.cls, ∃ C names a, mg p.1 = some (.ref C) ∧ I.ci p.2.1 = some (C, names) ∧ Mk K C a ∧ FAt P w K mg base I Γ.fns n p.2.2 a
  mt : ∀ p ∈ Γ.meths, ∃ C names a, I.ci p.1 = some (C, names) ∧ Meth K C p.2.1 a ∧ p.2.1 ∉ names ∧ FAt P w K mg base I Γ.fns n p.2.2 a
  fl : ∀ p ∈ Γ.flds, ∃ C, I.ci p.1 = some (C, p.2) ∧ Cls K C ∧ p.2.Nodup ∧ p.2.length < 1000 ∧ ∀ x ∈ p.2, NoAttr K C x
  ci : ∀ c C names, I.ci c = some (C, names) → (c, names) ∈ Γ.flds
  xc : ∀ p ∈ Γ.excs, ∃ C, mg p.1 = some (.ref C) ∧ I.xi p.2 = some C ∧ XcOk K p.2 C
  xm : ∀ c C c' C', I.xi c = some C → I.xi c' = some C' → PySem.W.exmOne K (.ref C) (.ref C') = some (subC c c')
  tb : ∀ p ∈ Γ.tabs, ∃ a, mg p.1 = some (.ref a) ∧ TabK K a p.2
  st : ∀ p ∈ Γ.sts, ∃ C names a fd, I.ci p.1 = some (C, names) ∧ Meth K C p.2.1 a ∧ p.2.1 ∉ names ∧ Binds K fd ["self"] [] ∧ FnOk P w K mg base (L2.CX P w) (2 * n) a fd ["self"] (spS K I n p.1 p.2.2)
def fnSco (st : Stmt) : Sco := ⟨defScope st, fun _ => true, true, false⟩
/-- the law's own -/
def lawSco (st : Stmt) : Sco := ⟨defScope st, fun _ => true, true, true⟩
section
variable {P : Program} {w : World} {K : PySem.W.Frag} {mg : Str → Option Value} {base : Heap} {I : Inf} {Γ : Gm} {n fi : Nat}
theorem gx_of {N : List Str} {qual : Str} {st : Stmt} {f : Addr} {cdv : Value} {A : Around} {outer : List Env} {s : Shared} {H : Hp} {E : XK} (G : GD P w K mg base I Γ n) (nd : N.Nodup) (hr : Room (2 * n + 1) (A.deeper (envOfC qual (defScope st) s.heap.objs.size f cdv))) :
    GX Γ n I N (fnSco st) (fun cls d _ H => E cls d H) (cxOf (L2.CX P w) P w K mg base N qual (defScope st) f cdv A outer s H E) where
  hN := rfl
  nd := nd
  fnc := rfl
  sc := rfl
  calm := rfl
  tk := takes_of rfl rfl rfl rfl
  pass := passes_of rfl
  room := hr
  fn := G.fn
  nob := G.nob
  con := G.con
  cl := G.cl
  mt := G.mt
  fl := G.fl
  ci := G.ci
  xc := G.xc
  xm := G.xm
  tb := G.tb
  st := G.st
  stk := fun _ => ⟨rfl, rfl⟩
  gd := fun z => by cases z
theorem gx_ofL {N : List Str} {qual : Str} {st : Stmt} {f : Addr} {cdv : Value} {A : Around} {outer : List Env} {s : Shared} {H : Hp} {E : XK} (hg : A.guards = some []) (G : GD P w K mg base I Γ n) (nd : N.Nodup) (hr : Room (2 * n + 1) (A.deeper (envOfC qual (defScope st) s.heap.objs.size f cdv))) :
    GX Γ n I N (lawSco st) (fun cls d _ H => E cls d H) (cxOf (L2.CX P w) P w K mg base N qual (defScope st) f cdv A outer s H E) where
  hN := rfl
  nd := nd
  fnc := rfl
  sc := rfl
  calm := rfl
  tk := takes_of rfl rfl rfl rfl
  pass := passes_of rfl
  room := hr
  fn := G.fn
  nob := G.nob
  con := G.con
  cl := G.cl
  mt := G.mt
  fl := G.fl
  ci := G.ci
  xc := G.xc
  xm := G.xm
  tb := G.tb
  st := G.st
  stk := fun _ => ⟨rfl, rfl⟩
  gd := fun _ => hg
/-- a def that stands at a, with its small program -/
structure FnSt (Γ : Gm) (K : PySem.W.Frag) (fi : Nat) (a : Addr) : Prop where
  kp : PySem.W.keepIn K (.ref a) = true
  isf : PySem.W.isFn K (.ref a) = true
  ex : ∃ (x qual : Str) (st : Stmt) (fd : FuncData) (N ps : List Str) (d : FnD), Fun K x qual st a fd ∧ FnScope N ps (defScope st) ∧ Binds K fd ps [] ∧ Γ.fns fi = some d ∧ ps.length = d.np ∧ N.length = d.ns ∧ DSs Γ N (fnSco st) (defBody st) d.body
theorem fn_sound {x qual : Str} {st : Stmt} {a : Addr} {fd : FuncData} {N ps : List Str} {d : FnD} (G : GD P w K mg base I Γ n) (F : Fun K x qual st a fd) (S : FnScope N ps (defScope st)) (e : Γ.fns fi = some d) (hp : ps.length = d.np) (hns : N.length = d.ns)
    (hb : DSs Γ N (fnSco st) (defBody st) d.body) : FnOk P w K mg base (L2.CX P w) (2 * (n + 1)) a fd ps (spF K I Γ.fns (n + 1) fi d.np) := by
  refine F.okX (k := 2 * n + 1) S (fun vs H Q E ⟨s, args, _, _, r, hl, _⟩ => by rw [← r.length, hl, hp]) fun cdv A outer s0 H vs Q E hr ⟨s, args, eH, hR, r, hl, h⟩ => ?_
  refine ⟨_, hb n I _ _ (gx_of G S.nd hr), startE d args, s, eH, hR, er_start hns r, trivial, ?_⟩
  have h' : (match finF s.h.length (evalSs (callF Γ.fns n) d.body (startE d args) s.h) with
    | .ok v h' => ∀ s' x, Le s s' → s'.h = h' → HR K I.ci s' → VR K s' v x → Q x s'.H
    | .exc e h' => ∀ s' cls d, Le s s' → s'.h = h' → HR K I.ci s' → XR K I s' e cls d → E cls d s'.H
    | .stuck => False) := by
    have h2 := h
    unfold callF at h2
    rw [e] at h2
    simp only [hl, if_true] at h2
    exact h2
  show PSt K I (fun cls d _ H => E cls d H) _ s (evalSs (callF Γ.fns n) d.body (startE d args) s.h)
  generalize evalSs (callF Γ.fns n) d.body (startE d args) s.h = rs at h' ⊢
  cases rs with
  | ok fl env1 h1 =>
    cases fl with
    | nx =>
      intro s' σ' l eh hr' er'
      subst eh
      exact h' (s'.cut s.h.length) .non (cut_le l) rfl (hr'.cut _) .non
    | bk => exact False.elim h'
    | ct => exact False.elim h'
    | rt v =>
      cases v with
      | p dd =>
        intro s' y l eh hr' rv
        subst eh
        exact h' (s'.cut s.h.length) y (cut_le l) rfl (hr'.cut _) rv
      | ref m =>
        intro s' y l eh hr' rv
        subst eh
        exact h' s' y l rfl hr' rv
  | exc e2 env1 h1 =>
    intro s' σ' cls dx l eh hr' er' xr
    subst eh
    exact h' (s'.cut s.h.length) cls dx (cut_le l) rfl (hr'.cut _) xr
  | stuck => exact h'
/-- a method that tells tuple(its field): its text -/
def StSt (Γ : Gm) (K : PySem.W.Frag) (c j : Nat) (a : Addr) : Prop := ∃ (x qual f : Str) (st : Stmt) (fd : FuncData) (names : List Str) (p q p2 p3 p4 : Pos), Fun K x qual st a fd ∧ FnScope ["self"] ["self"] (defScope st) ∧ Binds K fd ["self"] [] ∧ FOk Γ c names j f ∧
  NB Γ (fnSco st) "tuple" ∧ VOk ["self"] (fnSco st) 0 "self" ∧ defBody st = [.Return (some (.Call (.Name "tuple" p) [.Attribute (.Name "self" q) f p2] [] p3)) p4] ∧ Ab "self" q f
theorem call_tuple_st {X : Cx} : CallR X (.type "tuple") (fun xs H Q => ∃ p ys, xs = [.ref p] ∧ SqL X.K H p ys ∧ ∀ (l : Addr) (o : Obj), H l = none → o.cls = .type "tuple" → o.dict = none → Q (.ref l) (upd H l (.frz o (.tup ys)))) := by
  intro pins s σ H xs us Q I r h
  obtain ⟨p, ys, rfl, hq, q⟩ := h
  obtain ⟨u, rfl, rx⟩ := vals1 r
  cases rx
  obtain ⟨its, r', pl, hz⟩ := I.list hq
  have hlen := r'.length
  refine call_tuple_list pl.isList (fun h' kp => ?_) (by simp only [List.size_toArray] <;> omega)
  have I1 : Inv _ pins σ H { s with heap := h' } := I.kept (t' := s.toks) kp
  have I2 : Inv _ pins σ (upd H h'.objs.size (.frz { cls := .type "tuple", data := .seq its.toArray } (.tup ys))) { s with heap := h'.push { cls := .type "tuple", data := .seq its.toArray } } :=
    I1.laid (t' := s.toks) (fun b o e => Heap.get?_push_of_some _ e) (Nat.le_refl _) (show ObjOk _ _ _ _ _ (.frz _ (.tup ys)) from ⟨Heap.get?_push_size _ rfl, hz, its, r', IsTup.new _ _⟩)
  exact ⟨.ref h'.objs.size, _, I2, rfl, q _ _ (I1.hok.fresh (Nat.le_refl _)) rfl rfl⟩
/-- a field that is a list -/
theorem fldL_at {n : Nat} {I : Inf} {N : List Str} {sc : Sco} {W : WX} {X : Cx} {s : Sx} {k c j : Nat} {names : List Str} {f : Str} {fs : List Fld} {ts : List PyData} (g : GX Γ n I N sc W X) (hr : HR X.K I.ci s) (hf : FOk Γ c names j f) (e1 : insAt s.h k = some (c, fs)) (e2 : FldL fs[j]? ts) :
    k < s.h.length ∧ ∃ C dx es b xs, s.H (s.φ k 0) = some (.ins C dx es) ∧ Cls X.K C ∧ NoAttr X.K C f ∧ es.lookup f = some (.ref b) ∧ SqL X.K s.H b xs ∧ RFs X.K s.F s.H ts xs := by
  have lt : k < s.h.length := by
    unfold insAt at e1
    cases e : s.h[k]? with
    | none => rw [e] at e1; cases e1
    | some o => exact (List.getElem?_eq_some_iff.mp e).1
  refine ⟨lt, ?_⟩
  have er : ER X.K s [some (.ref k)] [some (.ref (s.φ k 0))] := ⟨rfl, fun i v e => by
    cases i with
    | zero => cases e; exact ⟨_, rfl, lt, rfl⟩
    | succ i => simp [slot] at e⟩
  have ei : insOf [some (.ref k)] s.h 0 = some (k, c, fs) := by
    unfold insOf
    show (insAt s.h k).map _ = _
    rw [e1]; rfl
  cases eu : fs[j]? with
  | none => rw [eu] at e2; exact False.elim e2
  | some u =>
    rw [eu] at e2
    obtain ⟨C, dx, es, y, h1, h2, h3, h4, h5, h6⟩ := fld_at g hr er hf ei eu
    cases u with
    | l us =>
      obtain rfl : us = ts := e2
      obtain ⟨rfl, xs, h7, h8⟩ := h6
      exact ⟨C, dx, es, _, xs, h2, h3, h4, h5, SqL.of h7, h8⟩
    | p d =>
      obtain rfl : d = .list ts := e2
      obtain ⟨a, xs, rfl, h7, h8⟩ := RF.lst_inv h6
      exact ⟨C, dx, es, _, xs, h2, h3, h4, h5, h7.sq, h8⟩
theorem st_body {n : Nat} {I : Inf} {sc : Sco} {W : WX} {X : Cx} {c j : Nat} {names : List Str} {f : Str} {p q p2 p3 p4 : Pos} (g : GX Γ n I ["self"] sc W X) (v : VOk ["self"] sc 0 "self") (nb : NB Γ sc "tuple") (hf : FOk Γ c names j f) (hb : Ab "self" q f) :
    PSs X [.Return (some (.Call (.Name "tuple" p) [.Attribute (.Name "self" q) f p2] [] p3)) p4] (fun D σ H => ∃ (s : Sx) (k : Nat) (fs : List Fld) (ts : List PyData), s.H = H ∧ HR X.K I.ci s ∧ σ = [some (.ref (s.φ k 0))] ∧ insAt s.h k = some (c, fs) ∧ FldL fs[j]? ts ∧
      ∀ s' x, Le s s' → s'.h = s.h → HR X.K I.ci s' → StR X.K s' ts x → D.rt x s'.H) :=
  (pss_cons (ps_ret (pe_ty1 g call_tuple_st nb (by decide +kernel) (pe_fld (v.pe g) (hb _)) (by intro _; rfl))) pss_nil).imp fun D σ H ⟨s, k, fs, ts, eH, hr, eσ, e1, e2, h⟩ => by
    subst eH eσ
    obtain ⟨lt, C, dx, es, b, xs, h1, h2, h3, h4, h5, h6⟩ := fldL_at g hr hf e1 e2
    exact ⟨_, rfl, _, C, dx, es, _, rfl, h1, h2, h3, h4, b, xs, rfl, h5, fun l o hl hc hd =>
      h (s.put l (.frz o (.tup xs)) true) (.ref l) (hr.put_le hl) rfl (hr.put hl) ⟨l, xs, o, rfl, upd_same, hc, hd, h6.keep (KeepF.put hl)⟩⟩
theorem st_sound {c j : Nat} {a : Addr} (h : StSt Γ K c j a) (G : ∀ m, n = m + 1 → GD P w K mg base I Γ m) : ∃ fd, Binds K fd ["self"] [] ∧ FnOk P w K mg base (L2.CX P w) (2 * n) a fd ["self"] (spS K I n c j) := by
  obtain ⟨x, qual, f, st, fd, names, p, q, p2, p3, p4, F, S, B, hf, nb, v, eb, hab⟩ := h
  refine ⟨fd, B, ?_⟩
  cases n with
  | zero => exact ⟨fun vs H Q E ⟨z, _⟩ => absurd z (Nat.lt_irrefl _), fun A outer s H args us vs Q E hr he hb hv ⟨z, _⟩ => absurd z (Nat.lt_irrefl _)⟩
  | succ m =>
    refine F.okX (k := 2 * m + 1) S (fun vs H Q E ⟨_, s, k, fs, ts, _, _, e, _⟩ => by rw [e]; rfl) fun cdv A outer s0 H vs Q E hr ⟨_, s, k, fs, ts, eH, hR, ev, e1, e2, h⟩ => ?_
    refine ⟨_, eb ▸ st_body (p := p) (p2 := p2) (p3 := p3) (p4 := p4) (gx_of (G m rfl) S.nd hr) v nb hf hab, s, k, fs, ts, eH, hR, ?_, e1, e2, h⟩
    subst ev
    rfl
/-- what the top has written -/
structure GS (K : PySem.W.Frag) (mg : Str → Option Value) (I : Inf) (Γ : Gm) : Prop where
  fn : ∀ p ∈ Γ.defs, ∃ a, mg p.1 = some (.ref a) ∧ FnSt Γ K p.2 a
  nob : ∀ x ∈ Γ.nobs, mg x = none
  con : ∀ p ∈ Γ.cons, ∃ u v, mg p.1 = some u ∧ RelV v u ∧ ∀ F H, RF K F H p.2 v
  cl : ∀ p ∈ Γ.cls, ∃ C names a, mg p.1 = some (.ref C) ∧ I.ci p.2.1 = some (C, names) ∧ Mk K C a ∧ FnSt Γ K p.2.2 a
  mt : ∀ p ∈ Γ.meths, ∃ C names a, I.ci p.1 = some (C, names) ∧ Meth K C p.2.1 a ∧ p.2.1 ∉ names ∧ FnSt Γ K p.2.2 a
  fl : ∀ p ∈ Γ.flds, ∃ C, I.ci p.1 = some (C, p.2) ∧ Cls K C ∧ p.2.Nodup ∧ p.2.length < 1000 ∧ ∀ x ∈ p.2, NoAttr K C x
  ci : ∀ c C names, I.ci c = some (C, names) → (c, names) ∈ Γ.flds
  xc : ∀ p ∈ Γ.excs, ∃ C, mg p.1 = some (.ref C) ∧ I.xi p.2 = some C ∧ XcOk K p.2 C
  xm : ∀ c C c' C', I.xi c = some C → I.xi c' = some C' → PySem.W.exmOne K (.ref C) (.ref C') = some (subC c c')
  tb : ∀ p ∈ Γ.tabs, ∃ a, mg p.1 = some (.ref a) ∧ TabK K a p.2
  st : ∀ p ∈ Γ.sts, ∃ C names a, I.ci p.1 = some (C, names) ∧ Meth K C p.2.1 a ∧ p.2.1 ∉ names ∧ StSt Γ K p.1 p.2.2 a
theorem fat_of {a : Addr} (h : FnSt Γ K fi a) (G : ∀ m, n = m + 1 → GD P w K mg base I Γ m) : FAt P w K mg base I Γ.fns n fi a := by
  obtain ⟨x, qual, st, fd, N, ps, d, F, S, B, e, hp, hns, hb⟩ := h.ex
  refine ⟨h.kp, h.isf, fd, ps, d, e, hp, B, ?_⟩
  cases n with
  | zero =>
    refine ⟨fun vs H Q E ⟨s, args, _, _, r, hl, h⟩ => False.elim h, fun A outer s H args us vs Q E hr he hb hv hs => ?_⟩
    obtain ⟨s, args, _, _, r, hl, h⟩ := hs
    exact False.elim h
  | succ m => exact fn_sound (G m rfl) F S e hp hns hb
theorem gd_all (g : GS K mg I Γ) : ∀ n, GD P w K mg base I Γ n := by
  intro n
  induction n with
  | zero => exact ⟨fun p hp => let ⟨a, h1, h2⟩ := g.fn p hp; ⟨a, h1, fat_of h2 fun m e => by cases e⟩, g.nob, g.con, fun p hp => let ⟨C, nm, a, h1, h2, h3, h4⟩ := g.cl p hp; ⟨C, nm, a, h1, h2, h3, fat_of h4 fun m e => by cases e⟩,
      fun p hp => let ⟨C, nm, a, h1, h2, h3, h4⟩ := g.mt p hp; ⟨C, nm, a, h1, h2, h3, fat_of h4 fun m e => by cases e⟩, g.fl, g.ci, g.xc, g.xm, g.tb, fun p hp => let ⟨C, nm, a, h1, h2, h3, h4⟩ := g.st p hp; let ⟨fd, h5, h6⟩ := st_sound h4 (fun m e => by cases e); ⟨C, nm, a, fd, h1, h2, h3, h5, h6⟩⟩
  | succ n ih => exact ⟨fun p hp => let ⟨a, h1, h2⟩ := g.fn p hp; ⟨a, h1, fat_of h2 fun m e => by cases e; exact ih⟩, g.nob, g.con, fun p hp => let ⟨C, nm, a, h1, h2, h3, h4⟩ := g.cl p hp; ⟨C, nm, a, h1, h2, h3, fat_of h4 fun m e => by cases e; exact ih⟩,
      fun p hp => let ⟨C, nm, a, h1, h2, h3, h4⟩ := g.mt p hp; ⟨C, nm, a, h1, h2, h3, fat_of h4 fun m e => by cases e; exact ih⟩, g.fl, g.ci, g.xc, g.xm, g.tb, fun p hp => let ⟨C, nm, a, h1, h2, h3, h4⟩ := g.st p hp; let ⟨fd, h5, h6⟩ := st_sound h4 (fun m e => by cases e; exact ih); ⟨C, nm, a, fd, h1, h2, h3, h5, h6⟩⟩
end
def okTrue : R Val → Bool
  | .ok (.p (.bool true)) _ => true
  | _ => false
/-- the script as data -/
abbrev scriptD (ns : List Int) : Val := .p (.list (ns.map .int))
theorem law_sp {K : PySem.W.Frag} {I : Inf} {Γ : Gm} {n fi : Nat} {H : Hp} {a : Addr} {ns : List Int} (hH : SqL K H a (ns.map V.int)) (h : okTrue (callF Γ.fns n fi [scriptD ns] []) = true) :
    spF K I Γ.fns n fi 1 [.ref a] H (fun v _ => v = .bl true) fun _ _ _ => False := by
  refine ⟨⟨fun _ _ => 0, fun b => b = a ∧ ∃ o, H b = some o, [], H, fun _ => False⟩, [scriptD ns], rfl, ⟨fun n o e => by simp at e, fun n j m k l => by have := live_lt l; simp at this, fun n j l => by have := live_lt l; simp at this, fun b hb => hb.elim, fun b hb => hb.2⟩, .cons (.lst ?_ (.ofInts ns)) .nil, rfl, ?_⟩
  · rcases hH with h | h
    · exact .inl ⟨⟨rfl, h.elim (fun h => ⟨_, h⟩) fun ⟨o, h⟩ => ⟨_, h⟩⟩, h⟩
    · exact .inr h
  · show (match callF Γ.fns n fi [scriptD ns] [] with
    | .ok v h' => ∀ s' x, _ → s'.h = h' → HR K I.ci s' → VR K s' v x → x = .bl true
    | .exc e h' => ∀ s' cls d, _ → s'.h = h' → HR K I.ci s' → XR K I s' e cls d → False
    | .stuck => False)
    generalize callF Γ.fns n fi [scriptD ns] [] = r at h ⊢
    cases r with
    | ok v h1 =>
      cases v with
      | p d =>
        cases d with
        | bool b =>
          cases b with
          | true => exact fun s' x _ _ _ rv => RF.bl_inv rv
          | false => cases h
        | _ => cases h
      | ref m => cases h
    | exc e h1 => cases h
    | stuck => cases h
end Cd
set_option Elab.async false
set_option linter.all false
set_option maxRecDepth 100000
set_option maxHeartbeats 4000000
namespace Cd
open PySem PySem.Spec PyProof.Rows L2
/-- an empty set, as it is made -/
abbrev eSet (w : World) : Obj := { cls := .type "set", dict := none, data := .set #[] 0 (.fresh 0 0 (!w.params.followText "set-order")) }
/-- a walker of a list, new -/
abbrev eIter (l : Addr) : Obj := { cls := .type "list_iterator", data := .fields #[.ref l, .int 0 0] }
section
variable {P : Program} {w : World} {A : Around} {E : Value → Shared → Prop} {s : Shared}
end
end Cd
set_option Elab.async false
set_option linter.all false
set_option maxRecDepth 100000
set_option maxHeartbeats 4000000
namespace Cd
open PySem PySem.Spec PyProof.Rows L2
section
variable {Γ : Gm} {N : List Str} {sc : Sco} {e tg ea eb ec : Expr} {a b c : E} {ta : Te} {o : O2} {pos p p2 apos : Pos} {es : List Expr} {as : List E} {i j fi : Nat} {x y f m : Str} {t : Tg} {src : Src} {cl : Nat} {names : List Str}
theorem DP.toE (h : DP Γ N sc ea a) (nr : ∀ cf env h n, evalE cf env a h ≠ .ok (.ref n) h := by intro _ _ _ _ z; cases z) : DE Γ N sc ea a := fun n I W X g => (h.run n I W X g).imp fun σ H Q q => by
  obtain ⟨env, s, eH, hr, er, _, pr⟩ := q
  refine ⟨env, s, eH, hr, er, ?_⟩
  replace pr : PR X.K I W s σ (evalE (callF Γ.fns n) env a s.h) (VR X.K) Q := pr
  show (match evalE (callF Γ.fns n) env a s.h with
    | .ok (.p d) h' => h' = s.h ∧ ∀ x, RF X.K s.F s.H d x → Q x H
    | _ => False)
  rcases h.pure (callF Γ.fns n) env s.h with ⟨v, e⟩ | e
  · have nr' := nr (callF Γ.fns n) env s.h
    rw [e] at pr nr' ⊢
    cases v with
    | p d => exact ⟨rfl, fun x rx => by rw [← eH]; exact pr s x (.refl s) rfl hr rx⟩
    | ref m => exact absurd rfl (nr' m)
  · rw [e] at pr; exact False.elim pr
/-- ends with data, where it ends well -/
def Dat (a : E) : Prop := ∀ cf env h, (∃ d h', evalE cf env a h = .ok (.p d) h') ∨ (∀ v h', evalE cf env a h ≠ .ok v h')
theorem dat_bind {α : Type} {r : R α} {k : α → Hi → R Val} (hk : ∀ x h, (∃ d h', k x h = .ok (.p d) h') ∨ (∀ v h', k x h ≠ .ok v h')) : (∃ d h', r.bind k = .ok (.p d) h') ∨ (∀ v h', r.bind k ≠ .ok v h') := by
  cases r with
  | ok a h => exact hk a h
  | exc e h => exact .inr fun v h' z => by cases z
  | stuck => exact .inr fun v h' z => by cases z
theorem dat_ofO {o : Option PyData} {h : Hi} : (∃ d h', Cd.ofO (o.map Val.p) h = .ok (.p d) h') ∨ (∀ v h', Cd.ofO (o.map Val.p) h ≠ .ok v h') := by
  cases o with
  | none => exact .inr fun v h' z => by cases z
  | some d => exact .inl ⟨d, h, rfl⟩
theorem dat_op1 {o : O1} : Dat (.op1 o a) := fun cf env h => dat_bind fun x h1 => dat_ofO
theorem dat_lst : Dat (.lst as) := fun cf env h => dat_bind fun x h1 => .inl ⟨_, _, rfl⟩
theorem DN.toE (h : DN Γ N sc ea a) (d : Dat a) : DE Γ N sc ea a := h.v.toE d
def e0 (sc : Scope) : Env := { scope := sc, locals := 0, globals := 0, cells := [] }
theorem par_env {ts : List Expr} {v : Expr} {env : Env} : swappedStores ts v env = swappedStores ts v (e0 env.scope) := by
  unfold swappedStores Env.blockKind Env.kindOf e0
  rfl
structure LOk (N : List Str) (sc : Sco) (i : Nat) (x : Str) : Prop where
  hN : N[i]? = some x
  loc : sc.s.names.lookup x = some .local
theorem ds_set2 {px py pt pt2 : Pos} {kt k2 : Nat} (v1 : LOk N sc i x) (v2 : LOk N sc j y) (ne : i ≠ j) (ha : DE Γ N sc ea a) (hb : DE Γ N sc eb b) (hw : swappedStores [.Tuple [.Name x px, .Name y py] kt pt] (.Tuple [ea, eb] k2 pt2) (e0 sc.s) = pure (some [x, y]))
    (hs : ∀ env, swapsWithSole [.Tuple [.Name x px, .Name y py] kt pt] (.Tuple [ea, eb] k2 pt2) pos.line env = pure false := by intro _; rfl) (se : Sec ea [eb] := by intro _; rfl) (se1 : Sec eb [] := by intro _; rfl) :
    DS Γ N sc (.Assign [.Tuple [.Name x px, .Name y py] kt pt] (.Tuple [ea, eb] k2 pt2) pos) (.set2 i j a b) := fun n I W X g =>
  (ps_par (i := i) (j := j) g.calm (by rw [g.hN]; exact g.nd) (by rw [g.hN]; exact v1.hN) (by rw [g.hN]; exact v2.hN) ne (by rw [g.sc]; exact v1.loc) (by rw [g.sc]; exact v2.loc) (pa_cons (ha n I W X g) (pa_cons (hb n I W X g) pa_nil (se1 _)) (se _)) (by rw [par_env, g.sc]; exact hw) (hs _)).imp fun D σ H q => by
    obtain ⟨env, s, eH, hr, er, _, pr⟩ := AtS.bind (Rel1 := VR X.K) (k := fun v env h1 => (evalE (callF Γ.fns n) env b h1).toS env fun w h2 => .ok .nx (setSlot (setSlot env i (some v)) j (some w)) h2) q
    refine ⟨env, s, eH, hr, er, trivial, PR.mono pr fun u H1 ⟨v, q⟩ => ?_⟩
    obtain ⟨env, s, eH, hr, er, _, pr⟩ := AtS.bind (Rel1 := VR X.K) (G' := fun s => VR X.K s v u) (k := fun w env h2 => .ok .nx (setSlot (setSlot env i (some v)) j (some w)) h2) q (fun s s' l g => g.2.le l)
    refine ⟨env, s, eH, hr, er, trivial, PR.mono pr fun u2 H2 ⟨w, env, s, e, hr, er, ⟨r1, r2⟩, pr⟩ => ?_⟩
    subst e
    exact ⟨u, u2, rfl, pr s _ (.refl s) rfl hr ((er.set r1).set r2)⟩
end
def voB (N : List Str) (sc : Sco) (i : Nat) (x : Str) : Bool := N[i]? == some x && (sc.s.names.lookup x == some .local || sc.s.names.lookup x == some .cell || sc.s.names.lookup x == some .free) && !(x == ("__debug__" : Str)) && !(x == ("__classdict__" : Str))
theorem vo {N : List Str} {sc : Sco} {i : Nat} {x : Str} (h : voB N sc i x = true) : VOk N sc i x := by
  simp only [voB, Bool.and_eq_true, Bool.or_eq_true, beq_iff_eq, Bool.not_eq_true'] at h
  exact ⟨h.1.1.1, by rcases h.1.1.2 with (h | h) | h; exact .inl h; exact .inr (.inl h); exact .inr (.inr h), h.1.2, h.2⟩
def goB (sc : Sco) (x : Str) : Bool := sc.s.names.lookup x == some .globalImplicit && !(x == ("__debug__" : Str)) && !(x == ("__name__" : Str))
theorem go {sc : Sco} {x : Str} (h : goB sc x = true) : GOk sc x := by
  simp only [goB, Bool.and_eq_true, beq_iff_eq, Bool.not_eq_true'] at h
  exact ⟨h.1.1, h.1.2, by have := h.2; simpa using this⟩
theorem nb {Γ : Gm} {sc : Sco} {x : Str} (h : (goB sc x && decide (x ∈ Γ.nobs)) = true) : NB Γ sc x := by
  simp only [Bool.and_eq_true, decide_eq_true_eq] at h
  exact ⟨go h.1, h.2⟩
def toB (N : List Str) (sc : Sco) (i : Nat) (x : Str) : Bool := N[i]? == some x && ((sc.s.names.lookup x == some .local) || (sc.s.names.lookup x == some .cell && sc.fn x))
theorem to {N : List Str} {sc : Sco} {i : Nat} {x : Str} (h : toB N sc i x = true) : TOk N sc i x := by
  simp only [toB, Bool.and_eq_true, Bool.or_eq_true, beq_iff_eq] at h
  rcases h with ⟨h1, h2 | ⟨h2, h3⟩⟩
  · exact ⟨h1, .inl h2, .inr h2⟩
  · exact ⟨h1, .inr h2, .inl h3⟩
def loB (N : List Str) (sc : Sco) (i : Nat) (x : Str) : Bool := N[i]? == some x && (sc.s.names.lookup x == some .local)
theorem lo {N : List Str} {sc : Sco} {i : Nat} {x : Str} (h : loB N sc i x = true) : LOk N sc i x := by
  simp only [loB, Bool.and_eq_true, beq_iff_eq] at h
  exact ⟨h.1, h.2⟩
def blkB (N : List Str) (sc scope : Scope) (own : List (Str × Nat)) : Bool := scope.kind == .function && scope.names.all (fun y => scope.names.lookup y.1 == some y.2) && own.all (fun p => N[p.2]? == some p.1) &&
  scope.names.all (fun y => !(y.2 == .free) || (sc.names.lookup y.1 == some .cell || sc.names.lookup y.1 == some .free)) && scope.names.all (fun y => !(y.2 == .local || y.2 == .cell) || (decide (y.1 ∈ own.map (·.1)) || !decide (y.1 ∈ N)))
theorem bo {N : List Str} {sc scope : Scope} {own : List (Str × Nat)} (h : blkB N sc scope own = true) : BlkOk N sc scope own := by
  simp only [blkB, Bool.and_eq_true, List.all_eq_true, beq_iff_eq, Bool.or_eq_true, Bool.not_eq_true', decide_eq_true_eq, decide_eq_false_iff_not] at h
  obtain ⟨⟨⟨⟨h1, h2⟩, h3⟩, h4⟩, h5⟩ := h
  refine ⟨h1, h2, h3, fun y hy e => ?_, fun y hy e => ?_⟩
  · rcases h4 y hy with z | z
    · rw [e] at z; cases z
    · exact z
  · rcases h5 y hy with z | z
    · rcases e with e | e <;> (rw [e] at z; cases z)
    · exact z
def swB (N : List Str) (sc : Sco) (i : Nat) (y : Str) (scope : Scope) (pos py : Pos) (l : Nat) : Bool := N[i]? == some y && sc.s.kind == .function && sc.s.names.lookup y == some .local && py.line == pos.line && l == py.line && !(scope.names.any fun (n, k) => n == y && (k == .local || k == .cell))
theorem so {N : List Str} {sc : Sco} {i : Nat} {y : Str} {scope : Scope} {pos py : Pos} {l : Nat} (h : swB N sc i y scope pos py l = true) : SwOk N sc i y scope pos py l := by
  simp only [swB, Bool.and_eq_true, beq_iff_eq, Bool.not_eq_true'] at h
  obtain ⟨⟨⟨⟨⟨h1, h2⟩, h3⟩, h4⟩, h5⟩, h6⟩ := h
  exact ⟨h1, h2, h3, by rw [h4]; exact beq_self_eq_true _, h5, h6⟩
theorem mo {α : Type} [DecidableEq α] {x : α} {l : List α} (h : decide (x ∈ l) = true) : x ∈ l := of_decide_eq_true h
end Cd
namespace Cd
open PySem PySem.Spec PyProof.Rows L2
def fsB (N P : List Str) (sc : Scope) : Bool := sc.kind == .function && !sc.isCoroutine && !sc.isGenerator && decide N.Nodup && decide (N.take P.length = P) && P.all (fun x => sc.names.lookup x == some .local || sc.names.lookup x == some .cell) && sc.names.all fun y => !(y.2 == .free)
theorem fs {N P : List Str} {sc : Scope} (h : fsB N P sc = true) : FnScope N P sc := by
  simp only [fsB, Bool.and_eq_true, List.all_eq_true, beq_iff_eq, Bool.or_eq_true, Bool.not_eq_true', decide_eq_true_eq] at h
  obtain ⟨⟨⟨⟨⟨⟨h1, h2⟩, h3⟩, h4⟩, h5⟩, h6⟩, h7⟩ := h
  exact ⟨h1, h2, h3, h4, h5, h6, fun y hy e => by have := h7 y hy; rw [e] at this; cases this⟩
end Cd
set_option Elab.async false
set_option linter.all false
set_option maxRecDepth 100000
set_option maxHeartbeats 4000000
namespace Cd
open PySem PySem.Spec PyProof.Rows L2
section
variable {X : Cx}
end
section
variable {Γ : Gm} {N : List Str} {sc : Sco} {e tg ea eb ec : Expr} {a b c : E} {ta : Te} {o : O2} {pos p p2 apos : Pos} {es : List Expr} {as : List E} {i j : Nat} {x y f : Str} {t : Tg} {src : Src} {cl : Nat} {names : List Str}
theorem dp_len1 (v : NB Γ sc "len") (vv : VOk N sc i x) (se : ∀ q : Pos, Se1 (.Name x q) := by intro _ _; rfl) : DP Γ N sc (.Call (.Name "len" p) [.Name x p2] [] pos) (.op1 .len (.var i)) where
  run := fun n I W X g => (pe_bi1 g call_len v boot_len (vv.pe g) (se _)).imp fun σ H Q q => by
    obtain ⟨env, s, eH, hr, er, pr⟩ := q
    subst eH
    replace pr : (match (bor env s.h (.var i) (ofO (slot env i) s.h)).bind fun x h1 => ofO ((lenD x).map Val.p) h1 with
      | .ok (.p d) h' => h' = s.h ∧ ∀ x, RF X.K s.F s.H d x → Q x s.H
      | _ => False) := pr
    cases e : slot env i with
    | none =>
      simp only [bor, peek, lstOf, slotRef, e, Option.bind_none, Option.map_none, ofO_none, R.bind_stuck] at pr
    | some w =>
      obtain ⟨y, h1, h2⟩ := er.at_ i _ e
      refine ⟨y, h1, ?_⟩
      cases w with
      | p d =>
        simp only [bor, peek, lstOf, slotRef, e, Option.bind_none, Option.map_none, ofO_some, R.bind_ok, unP] at pr
        cases e1 : lenD d with
        | none => rw [e1] at pr; exact False.elim pr
        | some k =>
          rw [e1] at pr
          exact ok_len s d k y Q (.inl h2) e1 ⟨fun z r => pr.2 z r, fun p u hp r => by
            unfold lenD at e1
            split at e1
            · cases e1; cases r
            · cases e1; cases r
            · split at e1
              · cases e1; cases r
              · cases e1
            · cases e1⟩
      | ref m =>
        cases e2 : listAt s.h m with
        | none =>
          simp only [bor, peek, lstOf, slotRef, e, e2, Option.bind_some, Option.map_none, ofO_some, R.bind_ok, unP, R.bind_stuck] at pr
        | some ts =>
          simp only [bor, peek, lstOf, slotRef, e, e2, Option.bind_some, Option.map_some, R.bind_ok, lenD, ofO_some] at pr
          obtain ⟨xs, k1, k2⟩ := hr.ob _ _ (listAt_of e2)
          obtain ⟨_, rfl⟩ := h2
          exact ⟨_, _, rfl, .inl ⟨xs, .inl (Rd.of k1), rfl⟩, by rw [← k2.length]; exact pr.2 _ (.int _)⟩
  pure := fun cf env h => by
    show (∃ v, ((bor env h (.var i) (ofO (slot env i) h)).bind fun x h1 => ofO ((lenD x).map Val.p) h1) = .ok v h) ∨ ((bor env h (.var i) (ofO (slot env i) h)).bind fun x h1 => ofO ((lenD x).map Val.p) h1) = .stuck
    have key : ∀ d, (∃ v, (ofO ((lenD d).map Val.p) h) = .ok v h) ∨ (ofO ((lenD d).map Val.p) h) = .stuck := fun d => by
      cases lenD d with
      | none => exact .inr rfl
      | some k => exact .inl ⟨_, rfl⟩
    unfold bor
    cases peek env h (.var i) with
    | some d => exact key d
    | none =>
      cases slot env i with
      | none => exact .inr rfl
      | some w =>
        cases w with
        | p d => exact key d
        | ref m => exact .inr rfl
def rInA (K : PySem.W.Frag) (neg : Bool) : R2 := fun x y H Q => ∃ d ds, Dp K H x d ∧ (Dp K H y (.list ds) ∨ Dp K H y (.tuple ds)) ∧ d.plain = true ∧ PyData.plainAll ds = true ∧ d.depth ≤ 60 ∧ Q (.bl (if neg = true then !ds.any (fun z => PyData.eqv z d) else ds.any fun z => PyData.eqv z d)) H
theorem op_inA {X : Cx} (hu : X.A.units + 64 < cLine) : OpR X (compareOp .In) (rInA X.K false) := by
  intro pins s σ H x y v u Q I rx ry h
  obtain ⟨d, ds, hd, he, sd, se, hz, q⟩ := h
  obtain ⟨as, r1⟩ := Dp.reads I d x v hd rx
  rcases he with he | he
  · obtain ⟨bs, r2⟩ := Dp.reads I (.list ds) y u he ry
    exact PySem.SeqAt.in_list_data r2 r1 se sd (by omega) ⟨.bl _, H, I, rfl, q⟩
  · obtain ⟨bs, r2⟩ := Dp.reads I (.tuple ds) y u he ry
    exact PySem.SeqAt.in_tuple_data r2 r1 se sd (by omega) ⟨.bl _, H, I, rfl, q⟩
theorem op_notInA {X : Cx} (hu : X.A.units + 64 < cLine) : OpR X (compareOp .NotIn) (rInA X.K true) := by
  intro pins s σ H x y v u Q I rx ry h
  obtain ⟨d, ds, hd, he, sd, se, hz, q⟩ := h
  obtain ⟨as, r1⟩ := Dp.reads I d x v hd rx
  rcases he with he | he
  · obtain ⟨bs, r2⟩ := Dp.reads I (.list ds) y u he ry
    exact PySem.SeqAt.notIn_list_data r2 r1 se sd (by omega) ⟨.bl _, H, I, rfl, q⟩
  · obtain ⟨bs, r2⟩ := Dp.reads I (.tuple ds) y u he ry
    exact PySem.SeqAt.notIn_tuple_data r2 r1 se sd (by omega) ⟨.bl _, H, I, rfl, q⟩
theorem inD_inv {x : PyData} {ys : List PyData} {r : Bool} (h : inD x ys = some r) : x.plain = true ∧ PyData.plainAll ys = true ∧ x.depth ≤ 60 ∧ r = ys.any fun y => PyData.eqv y x := by
  unfold inD at h
  split at h
  · rename_i q
    simp only [Bool.and_eq_true, decide_eq_true_eq] at q
    cases h
    exact ⟨q.1.1, q.1.2, q.2, rfl⟩
  · cases h
theorem seqD_inv {d : PyData} {ts : List PyData} (h : seqD d = some ts) : d = .list ts ∨ d = .tuple ts := by
  cases d with
  | list us => cases h; exact .inl rfl
  | tuple us => cases h; exact .inr rfl
  | _ => cases h
theorem ok_isIn {K : PySem.W.Frag} : Op2Ok K (rInA K false) .isIn := fun s d1 d2 d x y Q r1 r2 e f => by
  replace e : (seqD d2).bind (fun ys => (inD d1 ys).map .bool) = some d := e
  rw [Option.bind_eq_some_iff] at e
  obtain ⟨ys, e1, e2⟩ := e
  rw [Option.map_eq_some_iff] at e2
  obtain ⟨r, e2, rfl⟩ := e2
  obtain ⟨h1, h2, h3, rfl⟩ := inD_inv e2
  exact ⟨d1, ys, r1.dp, (seqD_inv e1).imp (fun h => by rw [← h]; exact r2.dp) (fun h => by rw [← h]; exact r2.dp), h1, h2, h3, f.1 _ (.bl _)⟩
theorem ok_notIn {K : PySem.W.Frag} : Op2Ok K (rInA K true) .notIn := fun s d1 d2 d x y Q r1 r2 e f => by
  replace e : (seqD d2).bind (fun ys => (inD d1 ys).map fun b => .bool !b) = some d := e
  rw [Option.bind_eq_some_iff] at e
  obtain ⟨ys, e1, e2⟩ := e
  rw [Option.map_eq_some_iff] at e2
  obtain ⟨r, e2, rfl⟩ := e2
  obtain ⟨h1, h2, h3, rfl⟩ := inD_inv e2
  exact ⟨d1, ys, r1.dp, (seqD_inv e1).imp (fun h => by rw [← h]; exact r2.dp) (fun h => by rw [← h]; exact r2.dp), h1, h2, h3, f.1 _ (.bl _)⟩
theorem in_bool {x y d : PyData} {f : Bool → Bool} (e : ((seqD y).bind fun ys => (inD x ys).map fun b => PyData.bool (f b)) = some d) : ∃ b, d = .bool b := by
  rw [Option.bind_eq_some_iff] at e
  obtain ⟨ys, e1, e2⟩ := e
  rw [Option.map_eq_some_iff] at e2
  obtain ⟨r, e2, rfl⟩ := e2
  exact ⟨_, rfl⟩
theorem de_in (ha : DV Γ N sc ea a) (hb : DB Γ N sc eb b) (hm : behindInMarks .In eb = false := by with_unfolding_all rfl) : DE Γ N sc (.Compare ea [.In] [eb] pos) (.op2 .isIn a b) := de_op2 (r := fun X => rInA X.K false) (fun _ _ _ X g ta tb h1 h2 => pe_cmpR (op_inA g.hu) h1 h2 hm) (fun _ _ _ X g => ok_isIn) ha hb
theorem de_notIn (ha : DV Γ N sc ea a) (hb : DB Γ N sc eb b) (hm : behindInMarks .NotIn eb = false := by with_unfolding_all rfl) : DE Γ N sc (.Compare ea [.NotIn] [eb] pos) (.op2 .notIn a b) := de_op2 (r := fun X => rInA X.K true) (fun _ _ _ X g ta tb h1 h2 => pe_cmpR (op_notInA g.hu) h1 h2 hm) (fun _ _ _ X g => ok_notIn) ha hb
theorem dt_in (ha : DV Γ N sc ea a) (hb : DB Γ N sc eb b) (hm : behindInMarks .In eb = false := by with_unfolding_all rfl) : DT Γ N sc (.Compare ea [.In] [eb] pos) (.val (.op2 .isIn a b)) := dt_op2 (r := fun X => rInA X.K false) (fun _ _ _ X g ta tb h1 h2 => pt_cmpR (op_inA g.hu) h1 h2 hm) (fun _ _ _ X g => ok_isIn) (fun _ _ _ e => in_bool (f := id) e) ha hb
end
end Cd
set_option Elab.async false
set_option linter.all false
set_option maxRecDepth 100000
set_option maxHeartbeats 4000000
namespace Cd
open PySem PySem.Spec PyProof.Rows L2
section
variable {K : PySem.W.Frag} {CI : CInf} {s : Sx} {n j : Nat} {xs xs' : List V} {c : Nat} {fs fs' : List Fld} {names : List Str} {es : List (Str × V)} {f : Str} {y : V} {C dx : Addr}
end
section
variable {Γ : Gm} {N : List Str} {sc : Sco} {e tg ea eb ec : Expr} {a b c : E} {ta : Te} {o : O2} {pos p p2 apos : Pos} {es : List Expr} {as : List E} {i j : Nat} {x y f : Str} {t : Tg} {src : Src} {cl : Nat} {names : List Str}
/-- X(), X an own exception class without own __init__ -/
theorem pmk_own0 {X : Cx} {C : Addr} {bmB : List Value} {B newId initId : String} {x : Str} {p pos : Pos} (F : ExcBaseFacts B newId initId bmB) (q : PySem.W.excIn X.K C bmB newId = true) (gC : X.mg x = some (.ref C)) (kC : PySem.W.keepIn X.K (.ref C) = true) (r : Raises X (.ref C)) (hg : Gl X x)
    (hdb : (x == ("__debug__" : Str)) = false) : PMk X (.Call (.Name x p) [] [] pos) (fun _ H Q => Q (.ref C) none H) := by
  intro pins s σ H Q I h
  refine wpAny_Call_Name_kw (ld_glob I hg gC ?_ hdb)
  refine PySem.W.callWith_K0 (first := []) I.kIn kC ?_
  show wpAny _ _ (call (.ref C) []) _ _ _
  obtain ⟨bm, N, nm, qn, bs, hdct, sn, sub, ab, col, dd, k0, k1, k2, k3, k5, mN, hC, hN, hni, T⟩ := exc_obj I.kIn q
  refine wpAny_call_exc_subT F T hC hN hni (fun h' e hm => ?_) (by show 0 ≤ sizeLine; omega)
  exact mk_of I hm r h (I.hok.gone hm.new)
theorem ds_raise0 {c : Nat} {q : Pos} (v : GOk sc x) (hx : (x, c) ∈ Γ.excs) (c1 : c ≠ 1 := by decide) : DS Γ N sc (.Raise (some (.Call (.Name x p) [] [] q)) none pos) (.raise_ c []) := fun n I W X g => by
  obtain ⟨C, hm, xi, ok⟩ := g.xc _ hx
  refine (ps_raise g.calm g.tk (pmk_own0 PySem.F.excBase_ValueError (ok.q c1) hm ok.kC (raises_own ok.sb ok.ty) (v.g g) v.db)).imp fun D σ H qq => ?_
  obtain ⟨env, s, eH, hr, er, _, pr⟩ := qq
  subst eH
  exact pr s σ (.ref C) none (.refl s) rfl hr er ⟨C, xi, rfl, trivial⟩
/-- the same context, with other wishes about exceptions -/
theorem GX.tr {n : Nat} {I : Inf} {W W' : WX} {X : Cx} (g : GX Γ n I N sc W X) {pn : List (Addr × Obj)} {xe : Value → Shared → Prop} (tk : Takes (X.tr pn xe) W') (ps : PassesOwn (model X.prog X.w) X.A X.env xe) : GX Γ n I N sc W' (X.tr pn xe) where
  hN := g.hN
  nd := g.nd
  fnc := g.fnc
  sc := g.sc
  calm := g.calm
  tk := tk
  pass := ps
  room := g.room
  fn := g.fn
  nob := g.nob
  con := g.con
  cl := g.cl
  mt := g.mt
  fl := g.fl
  ci := g.ci
  xc := g.xc
  xm := g.xm
  tb := g.tb
  st := g.st
  stk := g.stk
  gd := g.gd
/-- a suite behind an except: plain things only -/
structure DSu (Γ : Gm) (N : List Str) (sc : Sco) (sts : List Stmt) (ss : List S) : Prop where
  run : ∀ n I W X, GX Γ n I N sc W X → ∀ (a : Addr) (oe : Obj) (pn : List (Addr × Obj)), PSs (X.suite a ((a, oe) :: pn)) sts (tS X.K I (fun _ _ _ _ => False) (fun env h => evalSs (callF Γ.fns n) ss env h))
  nox : ∀ cf env h e env' h', evalSs cf ss env h ≠ .exc e env' h'
inductive DHs (Γ : Gm) (N : List Str) (sc : Sco) : List ExceptHandler → List (Nat × List S) → Prop
  | nil : DHs Γ N sc [] []
  | cons {x : Str} {c : Nat} {b₀ : Stmt} {suite : List Stmt} {np pos' : Pos} {ss : List S} {hds : List ExceptHandler} {hs : List (Nat × List S)} (v : GOk sc x) (hx : (x, c) ∈ Γ.excs) (hsu : DSu Γ N sc (b₀ :: suite) ss) (r : DHs Γ N sc hds hs) :
      DHs Γ N sc (.ExceptHandler (some (.Name x np)) none (b₀ :: suite) pos' :: hds) ((c, ss) :: hs)
theorem hds_ok {n : Nat} {I : Inf} {W : WX} {X : Cx} (g : GX Γ n I N sc W X) {hds : List ExceptHandler} {hs : List (Nat × List S)} (h : DHs Γ N sc hds hs) :
    ∃ l, HdsOk X hds l ∧ ∀ (D : Ends) (s : Sx) (e : Ex) (env1 : Ev) (h1 : Hi), PSt X.K I W D s (evalHs (callF Γ.fns n) hs e env1 h1) → ∀ s' σ' cls d, Le s s' → s'.h = h1 → HR X.K I.ci s' → ER X.K s' env1 σ' → XR X.K I s' e cls d → wMany X.K W D l cls d σ' s'.H := by
  induction h with
  | nil => exact ⟨[], .nil, fun D s e env1 h1 pr s' σ' cls d l eh hr er xr => pr s' σ' cls d l eh hr er xr⟩
  | @cons x c b₀ suite np pos' ss hds hs v hx hsu r ih =>
    obtain ⟨l, h1, h2⟩ := ih
    obtain ⟨C, hm, xi, ok⟩ := g.xc _ hx
    refine ⟨(.ref C, fun a cls d => tS X.K I (fun _ _ _ _ => False) (fun env h => evalSs (callF Γ.fns n) ss env h)) :: l, .cons ⟨v.g g, v.db, .inl hm⟩ (fun a oe cls d pn hz hf => hsu.run n I W X g a oe pn) h1, fun D s e env1 h3 pr s' σ' cls d le eh hr er xr => ?_⟩
    obtain ⟨C', xi', rfl, xr'⟩ := id xr
    have ex := g.xm _ _ _ _ xi' xi
    refine ⟨_, ex, fun hb a ha => ?_, fun hb => ?_⟩
    · have pr' : PSt X.K I W D s (evalSs (callF Γ.fns n) ss env1 h3) := by
        have q : evalHs (callF Γ.fns n) ((c, ss) :: hs) e env1 h3 = (if subC e.c c = true then evalSs (callF Γ.fns n) ss env1 h3 else evalHs (callF Γ.fns n) hs e env1 h3) := rfl
        rw [q, if_pos hb] at pr
        exact pr
      refine ⟨env1, s', rfl, hr, er, trivial, ?_⟩
      show PSt X.K I _ D s' (evalSs (callF Γ.fns n) ss env1 s'.h)
      rw [eh]
      replace pr' := PSt.le pr' le
      have nx := hsu.nox (callF Γ.fns n) env1 h3
      generalize evalSs (callF Γ.fns n) ss env1 h3 = rs at pr' nx ⊢
      cases rs with
      | ok fl env2 h4 => cases fl <;> exact pr'
      | exc e2 env2 h4 => exact absurd rfl (nx _ _ _)
      | stuck => exact pr'
    · refine h2 D s e env1 h3 ?_ s' σ' _ d le eh hr er xr
      have q : evalHs (callF Γ.fns n) ((c, ss) :: hs) e env1 h3 = (if subC e.c c = true then evalSs (callF Γ.fns n) ss env1 h3 else evalHs (callF Γ.fns n) hs e env1 h3) := rfl
      rw [q, if_neg (by rw [hb]; decide)] at pr
      exact pr
theorem ds_try {h₀ : ExceptHandler} {hds : List ExceptHandler} {hs : List (Nat × List S)} {sts : List Stmt} {ss : List S} (hb : DSs Γ N sc sts ss) (hh : DHs Γ N sc (h₀ :: hds) hs) (ht : sc.top = true := by rfl) : DS Γ N sc (.Try sts (h₀ :: hds) [] [] pos) (.try_ ss hs) := fun n I W X g => by
  obtain ⟨l, ok, go⟩ := hds_ok g hh
  refine (ps_try_many (tb := fun W' => tS X.K I W' (fun env h => evalSs (callF Γ.fns n) ss env h)) (g.stk ht).1 (g.stk ht).2 g.tk (fun W' pn xe tk ps => hb n I W' _ (g.tr tk ps)) ok).imp fun D σ H q => ?_
  obtain ⟨env, s, eH, hr, er, _, pr⟩ := q
  refine ⟨env, s, eH, hr, er, trivial, ?_⟩
  replace pr : PSt X.K I W D s (match evalSs (callF Γ.fns n) ss env s.h with
    | .exc e env1 h1 => evalHs (callF Γ.fns n) hs e env1 h1
    | r => r) := pr
  show PSt X.K I (wMany X.K W D l) D s (evalSs (callF Γ.fns n) ss env s.h)
  generalize evalSs (callF Γ.fns n) ss env s.h = rs at pr ⊢
  cases rs with
  | ok fl env1 h1 => cases fl <;> exact pr
  | exc e env1 h1 => exact fun s' σ' cls d l eh hr' er' xr => go D s e env1 h1 pr s' σ' cls d l eh hr' er' xr
  | stuck => exact pr
end
end Cd
set_option Elab.async false
set_option linter.all false
set_option maxRecDepth 100000
set_option maxHeartbeats 4000000
namespace Cd
open PySem PySem.Spec PyProof.Rows L2
section
variable {Γ : Gm} {N : List Str} {sc : Sco} {e tg ea eb ec : Expr} {a b c : E} {ta : Te} {o : O2} {pos p p2 apos : Pos} {es : List Expr} {as : List E} {i j : Nat} {x y f : Str} {t : Tg} {src : Src} {cl : Nat} {names : List Str} {sts : List Stmt} {ss : List S}
end
end Cd
set_option Elab.async false
set_option linter.all false
set_option maxRecDepth 100000
set_option maxHeartbeats 1000000
namespace Cd
open PySem PySem.Spec PyProof.Rows L2
theorem putK_keys {k : Key} {v : V} (acc : List (Key × V)) : (k ∈ acc.map (·.1) ∧ (putK acc k v).map (·.1) = acc.map (·.1)) ∨ (k ∉ acc.map (·.1) ∧ (putK acc k v).map (·.1) = acc.map (·.1) ++ [k]) := by
  have ha : ((acc.any fun kv => decide (kv.1 = k)) = true) ↔ k ∈ acc.map (·.1) := by
    simp only [List.any_eq_true, decide_eq_true_eq, List.mem_map]
  unfold putK
  by_cases h : (acc.any fun kv => decide (kv.1 = k)) = true
  · left
    refine ⟨ha.mp h, ?_⟩
    rw [if_pos h, List.map_map]
    apply List.map_congr_left
    intro p _
    simp only [Function.comp_apply]
    split
    · rfl
    · rfl
  · right
    refine ⟨fun z => h (ha.mpr z), ?_⟩
    rw [if_neg h, List.map_append]; rfl
theorem merge_keys : ∀ (more acc : List (Key × V)), (acc.map (·.1)).Nodup → ((mergeK acc more).map (·.1)).Nodup ∧ ∀ q, q ∈ (mergeK acc more).map (·.1) ↔ q ∈ acc.map (·.1) ∨ q ∈ more.map (·.1)
  | [], acc, nd => ⟨nd, fun q => by simp [mergeK]⟩
  | kv :: more, acc, nd => by
    rcases putK_keys (k := kv.1) (v := kv.2) acc with ⟨hm, e⟩ | ⟨hm, e⟩
    · obtain ⟨h1, h2⟩ := merge_keys more (putK acc kv.1 kv.2) (by rw [e]; exact nd)
      refine ⟨h1, fun q => ?_⟩
      show q ∈ (mergeK (putK acc kv.1 kv.2) more).map (·.1) ↔ _
      rw [h2 q, e, List.map_cons, List.mem_cons]
      constructor
      · rintro (z | z)
        · exact .inl z
        · exact .inr (.inr z)
      · rintro (z | rfl | z)
        · exact .inl z
        · exact .inl hm
        · exact .inr z
    · obtain ⟨h1, h2⟩ := merge_keys more (putK acc kv.1 kv.2) (by
        rw [e]
        exact List.nodup_append.mpr ⟨nd, by simp, fun a ha b hb => by rw [List.mem_singleton.mp hb]; rintro rfl; exact hm ha⟩)
      refine ⟨h1, fun q => ?_⟩
      show q ∈ (mergeK (putK acc kv.1 kv.2) more).map (·.1) ↔ _
      rw [h2 q, e, List.map_cons, List.mem_cons, List.mem_append, List.mem_singleton, or_assoc]
theorem dedup_nodupG {α : Type} [DecidableEq α] : ∀ l : List α, (dedup l).Nodup ∧ ∀ x, x ∈ dedup l ↔ x ∈ l
  | [] => ⟨List.nodup_nil, fun _ => Iff.rfl⟩
  | x :: r => by
    obtain ⟨h1, h2⟩ := dedup_nodupG r
    unfold dedup
    split
    · rename_i h
      refine ⟨h1, fun y => ?_⟩
      rw [h2, List.mem_cons]
      exact ⟨.inr, fun z => z.elim (fun e => e ▸ h) id⟩
    · rename_i h
      refine ⟨List.nodup_cons.mpr ⟨fun z => h ((h2 x).mp z), h1⟩, fun y => ?_⟩
      rw [List.mem_cons, List.mem_cons, h2]
theorem merge_len (kvs : List (Key × V)) : (mergeK [] kvs).length = (dedup (kvs.map (·.1))).length := by
  obtain ⟨h1, h2⟩ := merge_keys kvs [] List.nodup_nil
  obtain ⟨h3, h4⟩ := dedup_nodupG (kvs.map (·.1))
  have := ((List.perm_ext_iff_of_nodup h1 h3).mpr fun q => by rw [h2, h4]; simp).length_eq
  rwa [List.length_map] at this
theorem key_kV {K : PySem.W.Frag} {F : Addr → Prop} {H : Hp} {k : PyData} {v : V} {q : Key} (e : key0 k = some q) (r : RF K F H k v) : v = kV q := by
  cases k with
  | int i => cases e; cases r; rfl
  | str x => cases e; cases r; rfl
  | _ => cases e
theorem pairs_inv {K : PySem.W.Frag} {F : Addr → Prop} {H : Hp} : ∀ (ts : List PyData) (xs : List V) (ks : List Key), RFs K F H ts xs → pairKeys ts = some ks → ∃ (ps : List Addr) (kvs : List (Key × V)), xs = ps.map V.ref ∧ Paired (fun p kv => SqT K H p [kV kv.1, kv.2]) ps kvs ∧ kvs.map (·.1) = ks
  | [], xs, ks, r, e => by
    cases r
    cases e
    exact ⟨[], [], rfl, .nil, rfl⟩
  | d :: ds, xs, ks, r, e => by
    unfold pairKeys at e
    split at e
    · rename_i heq; cases heq
    · rename_i k w r' heq
      injection heq with h1 h2
      subst h1 h2
      rw [Option.bind_eq_some_iff] at e
      obtain ⟨key, ek, e2⟩ := e
      rw [Option.map_eq_some_iff] at e2
      obtain ⟨ks', e3, rfl⟩ := e2
      cases r with
      | cons h t =>
        obtain ⟨ps, kvs, rfl, hP, hks⟩ := pairs_inv ds _ ks' t e3
        cases h with
        | tup hT hs =>
          rename_i a xs'
          cases hs with
          | cons hk hs2 =>
            rename_i vk vs2
            cases hs2 with
            | cons hw hs3 =>
              rename_i vw vs3
              cases hs3
              refine ⟨a :: ps, (key, vw) :: kvs, rfl, .cons ?_ hP, by rw [List.map_cons, hks]⟩
              rw [key_kV ek hk] at hT
              exact hT.1
    · cases e
section
variable {Γ : Gm} {N : List Str} {sc : Sco} {e tg ea eb ec : Expr} {a b c : E} {pos p p2 apos : Pos}
theorem de_lenDict {q : Pos} (v : NB Γ sc "len") (v2 : NB Γ sc "dict") (ha : DB Γ N sc ea a) (se1 : Se1 ea := by intro _; rfl) (se2 : Se1 (.Call (.Name "dict" q) [ea] [] p2) := by intro _; rfl) :
    DE Γ N sc (.Call (.Name "len" p) [.Call (.Name "dict" q) [ea] [] p2] [] pos) (.op1 .lenDict a) := fun n I W X g =>
  (pe_bi1 g call_lenD v boot_len (pe_ty1 g (call_dictP g.calm) v2 (by decide +kernel) (ha n I W X g) se1) se2).imp fun σ H Q q => by
    obtain ⟨env, s, eH, hr, er, _, pr⟩ := At.bind (Rel1 := RB X.K) (ev2 := fun x env h => Cd.ofO ((opf1 .lenDict x).map Val.p) h) q
    refine ⟨env, s, eH, hr, er, trivial, ?_⟩
    refine PR.mono pr fun x H1 ⟨d, env, s, e, hr, er, ⟨_, rb⟩, pr⟩ => ?_
    subst e
    replace pr : PR X.K I W s σ (Cd.ofO ((lenDictS d).map Val.p) s.h) (VR X.K) Q := pr
    cases e1 : lenDictS d with
    | none => rw [e1] at pr; exact False.elim pr
    | some d' =>
      rw [e1] at pr
      cases d with
      | list ts =>
        have e2 : (pairKeys ts).map (fun ks => PyData.int (dedup ks).length) = some d' := e1
        rw [Option.map_eq_some_iff] at e2
        obtain ⟨ks, e3, rfl⟩ := e2
        obtain ⟨l, xs, rfl, h1, q1⟩ := rb.lst
        obtain ⟨ps, kvs, rfl, hp, hk⟩ := pairs_inv ts xs ks q1 e3
        refine ⟨l, ps, kvs, rfl, h1, hp, fun p0 h0 => ?_⟩
        refine ⟨p0, mergeK [] kvs, rfl, upd_same, ?_⟩
        have ml := merge_len kvs
        rw [hk] at ml
        rw [ml]
        exact pr (s.put p0 (.dK (mergeK [] kvs)) false) _ (hr.put_le h0) rfl (hr.put h0) (.int _)
      | _ => cases e1
end
end Cd
set_option Elab.async false
set_option linter.all false
set_option maxRecDepth 100000
set_option maxHeartbeats 4000000
namespace Cd
open PySem PySem.Spec PyProof.Rows L2
section
variable {Γ : Gm} {N : List Str} {sc : Sco} {e tg ea eb ec : Expr} {a b c : E} {o : O2} {pos p p2 : Pos} {t : Tg} {src : Src} {i0 : Nat} {x : Str}
end
end Cd
set_option Elab.async false
set_option linter.all false
set_option maxRecDepth 100000
set_option maxHeartbeats 1000000
namespace Cd
open PySem PySem.Spec PyProof.Rows L2
def Sx.mkD (s : Sx) (a : Addr) : Sx := { s with h := s.h ++ [.dct []], φ := fun m k => if m = s.h.length then a else s.φ m k }
theorem live_appD {h : Hi} {m k : Nat} (l : Live (h ++ [.dct []]) m k) : (m < h.length ∧ Live h m k) ∨ (m = h.length ∧ k = 0) := by
  cases k with
  | zero =>
    obtain ⟨o, e, nd⟩ := l
    rcases get_app e with ⟨h1, h2⟩ | ⟨h1, h2⟩
    · exact .inl ⟨h1, o, h2, nd⟩
    · exact .inr ⟨h1, rfl⟩
  | succ k =>
    rcases l with ⟨c, fs, us, e, ef⟩ | ⟨kvs, q, us, e, ef⟩
    · rcases get_app e with ⟨h1, h2⟩ | ⟨h1, h2⟩
      · exact .inl ⟨h1, .inl ⟨c, fs, us, h2, ef⟩⟩
      · cases h2
    · rcases get_app e with ⟨h1, h2⟩ | ⟨h1, h2⟩
      · exact .inl ⟨h1, .inr ⟨kvs, q, us, h2, ef⟩⟩
      · cases h2
        simp at ef
theorem HR.mkD {K : PySem.W.Frag} {CI : CInf} {s : Sx} {a : Addr} (hr : HR K CI s) (ha : s.H a = some (.dK [])) (nf : ¬ s.F a) (nl : NotLive s a) (nb : ¬ s.B a) : HR K CI (s.mkD a) where
  ob := fun m u e => by
    rcases get_app e with ⟨h1, h2⟩ | ⟨h1, h2⟩
    · exact (hr.ob m u h2).move (s' := s.mkD a) .refl h2 fun j l => ⟨if_neg (Nat.ne_of_lt h1), fun w e => e⟩
    · subst h1; subst h2
      refine ⟨[], ?_, rfl, List.nodup_nil, fun j k f e => by simp at e⟩
      show s.H (if s.h.length = s.h.length then a else s.φ s.h.length 0) = some (.dK [])
      rw [if_pos rfl]; exact ha
  inj := fun m j q k l1 l2 e => by
    have e' : (if m = s.h.length then a else s.φ m j) = (if q = s.h.length then a else s.φ q k) := e
    rcases live_appD l1 with ⟨h1, h2⟩ | ⟨h1, h2⟩ <;> rcases live_appD l2 with ⟨h3, h4⟩ | ⟨h3, h4⟩
    · rw [if_neg (Nat.ne_of_lt h1), if_neg (Nat.ne_of_lt h3)] at e'
      exact hr.inj _ _ _ _ h2 h4 e'
    · rw [if_neg (Nat.ne_of_lt h1), if_pos h3] at e'
      exact absurd e' (nl _ _ h2)
    · rw [if_pos h1, if_neg (Nat.ne_of_lt h3)] at e'
      exact absurd e'.symm (nl _ _ h4)
    · exact ⟨h1.trans h3.symm, h2.trans h4.symm⟩
  nf := fun m j l => by
    show ¬ s.F (if m = s.h.length then a else s.φ m j)
    rcases live_appD l with ⟨h1, h2⟩ | ⟨h1, h2⟩
    · rw [if_neg (Nat.ne_of_lt h1)]; exact hr.nf _ _ h2
    · rw [if_pos h1]; exact nf
  bt := fun b hb => by
    obtain ⟨h1, h2, h3⟩ := hr.bt b hb
    refine ⟨fun m j l => ?_, h2, h3⟩
    show (if m = s.h.length then a else s.φ m j) ≠ b
    rcases live_appD l with ⟨k1, k2⟩ | ⟨k1, k2⟩
    · rw [if_neg (Nat.ne_of_lt k1)]; exact h1 _ _ k2
    · rw [if_pos k1]; rintro rfl; exact nb hb
  ft := hr.ft
theorem mkD_le {s : Sx} {a : Addr} : Le s (s.mkD a) := ⟨by show s.h.length ≤ (s.h ++ [_]).length; simp, fun n h => if_neg (Nat.ne_of_lt h), .refl, fun _ h => ⟨h, rfl⟩⟩
section
variable {Γ : Gm} {N : List Str} {sc : Sco} {e tg ea eb ec : Expr} {a b c : E} {pos p p2 apos : Pos} {i : Nat} {x : Str}
/-- x = {} -/
theorem ds_newD0 (v : TOk N sc i x) (hs : ∀ env, swapsWith (.Dict [] [] p2) (some (.Name x p)) pos.line env = pure false := by intro _; rfl) : DS Γ N sc (.Assign [.Name x p] (.Dict [] [] p2) pos) (.newD i []) := fun n I W X g =>
  (ps_set (i := i) (by rw [g.hN]; exact g.nd) (by rw [g.hN]; exact v.hN) (by rw [g.sc]; exact v.loc) pe_dnewK (hs _) (by rw [g.fnc, g.sc]; exact v.fn)).imp fun D σ H q => by
    obtain ⟨env, s, eH, hr, er, _, pr⟩ := q
    subst eH
    replace pr : PSt X.K I W D s (.ok .nx (setSlot env i (some (.ref s.h.length))) (s.h ++ [.dct []])) := pr
    intro p0 hp
    have hr1 := hr.put (o := .dK []) (fz := false) hp
    have fr := hr.fresh hp
    have hr2 : HR X.K I.ci ((s.put p0 (.dK []) false).mkD p0) := hr1.mkD upd_same (fun z => by
      rcases z with z | ⟨z, _⟩
      · exact fr.1 z
      · cases z) fr.2.1 fr.2.2
    have le : Le s ((s.put p0 (.dK []) false).mkD p0) := (hr.put_le hp).trans mkD_le
    exact pr ((s.put p0 (.dK []) false).mkD p0) _ le rfl hr2 ((er.le le).set ⟨by show s.h.length < (s.h ++ [_]).length; simp, by show _ = V.ref (if s.h.length = s.h.length then p0 else _); rw [if_pos rfl]⟩)
end
end Cd
set_option Elab.async false
set_option linter.all false
set_option maxRecDepth 100000
set_option maxHeartbeats 1000000
namespace Cd
open PySem PySem.Spec PyProof.Rows L2
theorem key_beq (q k : Key) : (q == k) = decide (q = k) := by
  rcases q with a | a <;> rcases k with b | b
  · show (a == b) = _
    by_cases h : a = b
    · subst h; simp
    · simp [h]
  · rfl
  · rfl
  · show (a == b) = _
    by_cases h : a = b
    · subst h; simp
    · simp [h]
theorem val_look {q : Key} : ∀ (kvs : List (Key × Fld)) (es : List (Key × V)) (R : Nat → Fld → V → Prop), es.map (·.1) = kvs.map (·.1) → (∀ j k f, kvs[j]? = some (k, f) → ∃ v, es[j]? = some (k, v) ∧ R j f v) →
    (kvs.lookup q = none ∧ valV es q = none) ∨ ∃ f v j, kvs.lookup q = some f ∧ valV es q = some v ∧ R j f v
  | [], [], R, _, _ => .inl ⟨rfl, rfl⟩
  | [], _ :: _, R, e, _ => nomatch e
  | _ :: _, [], R, e, _ => nomatch e
  | (k, f) :: r, (k', v) :: es, R, he, h => by
    have he' : k' = k ∧ es.map (·.1) = r.map (·.1) := by simpa using he
    obtain ⟨rfl, he2⟩ := he'
    obtain ⟨v0, e0, r0⟩ := h 0 k' f rfl
    have ev : v0 = v := by simpa using e0.symm
    subst ev
    by_cases c : q = k'
    · subst c
      right
      refine ⟨f, v0, 0, ?_, ?_, r0⟩
      · simp [List.lookup, key_beq]
      · simp [valV]
    · have c1 : (q == k') = false := by rw [key_beq]; exact decide_eq_false c
      have c2 : ¬ k' = q := fun z => c z.symm
      have l1 : ((k', f) :: r).lookup q = r.lookup q := by simp [List.lookup, c1]
      have l2 : valV ((k', v0) :: es) q = valV es q := by simp [valV, c2]
      rw [l1, l2]
      rcases val_look r es (fun j => R (j + 1)) he2 (fun j k g e => h (j + 1) k g e) with z | ⟨g, w, j, z1, z2, z3⟩
      · exact .inl z
      · exact .inr ⟨g, w, j + 1, z1, z2, z3⟩
section
variable {Γ : Gm} {N : List Str} {sc : Sco} {ek ed : Expr} {a b c : E} {pos p p2 apos : Pos} {i : Nat} {x : Str}
theorem de_dgetD (v : VOk N sc i x) (hk : DP Γ N sc ek a) (hd : DP Γ N sc ed b) (m : ∀ X : Cx, M2 X (.Name x p) "get" apos ek ed pos) : DE Γ N sc (.Call (.Attribute (.Name x p) "get" apos) [ek, ed] [] pos) (.dgetD i a b) := fun n I W X g =>
  (pe_dget2 (by have := g.hu; omega) (v.pe g) (hk.run n I W X g) (hd.run n I W X g) (m X)).imp fun σ H Q q => by
    obtain ⟨env, s, eH, hr, er, _, pr⟩ := q
    subst eH
    replace pr : PR X.K I W s σ (((evalE (callF Γ.fns n) env a s.h).bind unP).bind fun kd h1 => ((evalE (callF Γ.fns n) env b h1).bind unP).bind fun dd h2 => dgetDK env i kd dd h2) (VR X.K) Q := pr
    rcases hk.pure (callF Γ.fns n) env s.h with ⟨vk, e1⟩ | e1
    · cases vk with
      | ref m => rw [e1] at pr; exact False.elim pr
      | p kd =>
        rcases hd.pure (callF Γ.fns n) env s.h with ⟨vd, e2⟩ | e2
        · cases vd with
          | ref m => rw [e1] at pr; simp only [R.bind_ok, unP] at pr; rw [e2] at pr; exact False.elim pr
          | p dd =>
            rw [e1] at pr
            simp only [R.bind_ok, unP] at pr
            rw [e2] at pr
            simp only [R.bind_ok, unP] at pr
            unfold dgetDK at pr
            cases e3 : dctOf env s.h i with
            | none => rw [e3] at pr; exact False.elim pr
            | some pp =>
              cases e4 : keyOf kd with
              | none => rw [e3, e4] at pr; exact False.elim pr
              | some ky =>
                rw [e3, e4] at pr
                simp only at pr
                obtain ⟨k1, k2⟩ := dctOf_of e3
                obtain ⟨k6, k7⟩ := ref_addr er k1
                obtain ⟨es, h1, h2, h3, h4⟩ := hr.ob _ _ k2
                refine ⟨_, k6, _, rfl, .inl ⟨es, Rd.of h1⟩, env, s, rfl, hr, er, ?_⟩
                simp only [e1]
                refine ⟨trivial, fun y ry => ⟨env, s, rfl, hr, er, ?_⟩⟩
                simp only [e2]
                refine ⟨trivial, fun z rz => ?_⟩
                refine ⟨valV es ky, .inl ⟨es, ky, Rd.of h1, key_kV e4 ry, rfl⟩, ?_⟩
                rcases val_look (q := ky) pp.2 es (FlR X.K s pp.1) h2 h4 with ⟨l1, l2⟩ | ⟨f, w, j, l1, l2, l3⟩
                · rw [l1] at pr
                  rw [l2]
                  exact pr s _ (.refl s) rfl hr rz
                · rw [l1] at pr
                  rw [l2]
                  cases f with
                  | l ts => exact False.elim pr
                  | p d => exact pr s _ (.refl s) rfl hr l3
        · rw [e1] at pr; simp only [R.bind_ok, unP] at pr; rw [e2] at pr; exact False.elim pr
    · rw [e1] at pr; exact False.elim pr
end
end Cd
set_option Elab.async false
set_option linter.all false
set_option maxRecDepth 100000
set_option maxHeartbeats 1000000
namespace Cd
open PySem PySem.Spec PyProof.Rows L2
theorem putK_cons_eq {k : Key} {v v0 : V} {es : List (Key × V)} (h : k ∉ es.map (·.1)) : putK ((k, v0) :: es) k v = (k, v) :: es := by
  unfold putK
  have a : ((((k, v0) :: es).any fun kv => decide (kv.1 = k)) = true) := by simp
  rw [if_pos a, List.map_cons]
  simp only [if_true]
  congr 1
  have : ∀ kv ∈ es, (if kv.1 = k then (kv.1, v) else kv) = kv := fun kv hk => if_neg (fun z => h (List.mem_map.mpr ⟨kv, hk, z⟩))
  rw [List.map_congr_left this, List.map_id']
theorem putK_cons_ne {k k' : Key} {v v0 : V} {es : List (Key × V)} (h : k' ≠ k) : putK ((k', v0) :: es) k v = (k', v0) :: putK es k v := by
  unfold putK
  have a : (((k', v0) :: es).any fun kv => decide (kv.1 = k)) = (es.any fun kv => decide (kv.1 = k)) := by simp [h]
  rw [a]
  by_cases c : (es.any fun kv => decide (kv.1 = k)) = true
  · rw [if_pos c, if_pos c, List.map_cons, if_neg h]
  · rw [if_neg c, if_neg c]; rfl
theorem put_both {k : Key} {f : Fld} {v : V} : ∀ (kvs : List (Key × Fld)) (es : List (Key × V)), es.map (·.1) = kvs.map (·.1) → (kvs.map (·.1)).Nodup →
    (putK es k v).map (·.1) = (setKV kvs k f).map (·.1) ∧ ((setKV kvs k f).map (·.1)).Nodup ∧ (∀ x, x ∈ (setKV kvs k f).map (·.1) → x = k ∨ x ∈ kvs.map (·.1)) ∧
    ∀ (j : Nat) (q' : Key) (f' : Fld), (setKV kvs k f)[j]? = some (q', f') → (f' = f ∧ (putK es k v)[j]? = some (q', v)) ∨ (kvs[j]? = some (q', f') ∧ ∃ w : V, es[j]? = some (q', w) ∧ (putK es k v)[j]? = some (q', w))
  | [], [], _, _ => by
    refine ⟨rfl, by simp [setKV], fun x hx => by simpa [setKV] using hx, fun j q' f' e => ?_⟩
    left
    cases j with
    | zero =>
      have e' : some (k, f) = some (q', f') := e
      cases e'
      exact ⟨rfl, rfl⟩
    | succ j => simp [setKV] at e
  | [], _ :: _, e, _ => nomatch e
  | _ :: _, [], e, _ => nomatch e
  | (k1, g) :: r, (k2, w) :: es, he, nd => by
    have he' : k2 = k1 ∧ es.map (·.1) = r.map (·.1) := by simpa using he
    obtain ⟨rfl, he2⟩ := he'
    have nd' : k2 ∉ r.map (·.1) ∧ (r.map (·.1)).Nodup := List.nodup_cons.mp nd
    by_cases c : k2 = k
    · subst c
      have s1 : setKV ((k2, g) :: r) k2 f = (k2, f) :: r := by unfold setKV; rw [if_pos rfl]
      rw [s1, putK_cons_eq (by rw [he2]; exact nd'.1)]
      refine ⟨by rw [List.map_cons, List.map_cons, he2], List.nodup_cons.mpr nd', fun x hx => .inr hx, fun j q' f' e => ?_⟩
      cases j with
      | zero =>
        have e' : some (k2, f) = some (q', f') := e
        cases e'
        exact .inl ⟨rfl, rfl⟩
      | succ j =>
        right
        have e' : r[j]? = some (q', f') := e
        refine ⟨e', ?_⟩
        have h1 : (r.map (·.1))[j]? = some q' := by rw [List.getElem?_map, e']; rfl
        rw [← he2, List.getElem?_map] at h1
        obtain ⟨p, hp, hq⟩ := Option.map_eq_some_iff.mp h1
        refine ⟨p.2, ?_, ?_⟩
        · show es[j]? = _; rw [hp, ← hq]
        · show es[j]? = _; rw [hp, ← hq]
    · have s1 : setKV ((k2, g) :: r) k f = (k2, g) :: setKV r k f := by rw [setKV.eq_def]; simp only; rw [if_neg c]
      rw [s1, putK_cons_ne c]
      obtain ⟨h1, h2, h3, h4⟩ := put_both (k := k) (f := f) (v := v) r es he2 nd'.2
      refine ⟨by rw [List.map_cons, List.map_cons, h1], List.nodup_cons.mpr ⟨fun z => ?_, h2⟩, fun x hx => ?_, fun j q' f' e => ?_⟩
      · rcases h3 _ z with z | z
        · exact c z
        · exact nd'.1 z
      · rcases List.mem_cons.mp hx with hx | hx
        · exact .inr (by rw [hx]; exact List.mem_cons_self)
        · rcases h3 x hx with z | z
          · exact .inl z
          · exact .inr (List.mem_cons_of_mem _ z)
      · cases j with
        | zero =>
          have e' : some (k2, g) = some (q', f') := e
          cases e'
          exact .inr ⟨rfl, w, rfl, rfl⟩
        | succ j => exact h4 j q' f' e
end Cd
set_option Elab.async false
set_option linter.all false
set_option maxRecDepth 100000
set_option maxHeartbeats 1000000
namespace Cd
open PySem PySem.Spec PyProof.Rows L2
theorem size1000' : (1000 : Nat) < sizeLine := by decide
section
variable {K : PySem.W.Frag} {CI : CInf} {s : Sx}
theorem own_dput {n : Nat} {kvs : List (Key × Fld)} {q : Key} {d : PyData} {v : V} (hr : HR K CI s) (hn : s.h[n]? = some (.dct kvs)) (r : RF K s.F s.H d v) :
    ∃ es, s.H (s.φ n 0) = some (.dK es) ∧ es.length = kvs.length ∧ ∃ s', s'.H = upd s.H (s.φ n 0) (.dK (putK es q v)) ∧ s'.h = s.h.set n (.dct (setKV kvs q (.p d))) ∧ HR K CI s' ∧ Le s s' := by
  obtain ⟨es, h1, h2, h3, h4⟩ := hr.ob _ _ hn
  have hl : Live s.h n 0 := ⟨_, hn, by intro z; cases z⟩
  obtain ⟨p1, p2, _, p4⟩ := put_both (k := q) (f := .p d) (v := v) kvs es h2 h3
  have kp := own_keep (ob := .dK (putK es q v)) hr hl rfl h1 (by intro _ z; cases z) (by intro _ _ z; cases z) rfl
  refine ⟨es, h1, by have := congrArg List.length h2; simpa using this, { s with h := s.h.set n (.dct (setKV kvs q (.p d))), H := upd s.H (s.φ n 0) (.dK (putK es q v)) }, rfl, rfl,
    hr.wrO hl h1 (by intro _ z; cases z) (by intro _ _ z; cases z) (fun m k l => ?_) (fun m hm => ?_) (fun w e => ?_) (ob' := .dct (setKV kvs q (.p d))) ⟨putK es q v, upd_same, p1, p2, fun j k f e => ?_⟩, wrO_le hr hl h1 (by intro _ z; cases z) (by intro _ _ z; cases z) (by simp)⟩
  · rcases live_set l with ⟨_, z⟩ | ⟨rfl, z⟩
    · exact z
    · cases k with
      | zero => exact hl
      | succ k =>
        rcases z with ⟨c, fs, us, e, ef⟩ | ⟨kvs', q', us, e, ef⟩
        · cases rep_get e
        · have e2 := rep_get e
          cases e2
          rcases p4 k q' _ ef with ⟨z, _⟩ | ⟨z, _⟩
          · cases z
          · exact .inr ⟨kvs, q', us, hn, z⟩
  · rw [List.getElem?_set_ne (Ne.symm hm)]
  · rcases get_set e with ⟨_, z⟩ | ⟨z, _⟩
    · exact z
    · exact absurd rfl z
  · rcases p4 j k f e with ⟨z1, z2⟩ | ⟨z1, w, z2, z3⟩
    · subst z1
      exact ⟨v, z2, r.keep kp⟩
    · obtain ⟨v', e1, fl⟩ := h4 j k f z1
      have ew : v' = w := by rw [z2] at e1; simpa using e1.symm
      subst ew
      refine ⟨v', z3, ?_⟩
      cases f with
      | p d' => exact RF.keep kp fl
      | l ts =>
        obtain ⟨f1, xs, f2, f3⟩ := fl
        refine ⟨f1, xs, ?_, f3.keep kp⟩
        show upd s.H (s.φ n 0) (.dK (putK es q v)) (s.φ n (j + 1)) = some (.lst xs)
        rw [upd_ne]
        · exact f2
        · intro z
          have := (hr.inj n (j + 1) n 0 (.inr ⟨kvs, k, ts, hn, z1⟩) hl z).2
          omega
end
section
variable {Γ : Gm} {N : List Str} {sc : Sco} {ev ek : Expr} {a b c : E} {pos p p2 apos : Pos} {i : Nat} {x : Str}
theorem ds_setKeyD {q : Pos} (v : VOk N sc i x) (hv : DV Γ N sc ev a) (hk : DP Γ N sc ek b) (hs : ∀ env, swapsWith ev (some (.Subscript (.Name x q) ek p)) pos.line env = pure false := by intro _; rfl) : DS Γ N sc (.Assign [.Subscript (.Name x q) ek p] ev pos) (.setKeyD i b a) := fun n I W X g =>
  (ps_dput (by have := g.hu; omega) (v.pe g) (hk.run n I W X g) (hv n I W X g) (hs _)).imp fun D σ H qq => by
    obtain ⟨env, s, eH, hr, er, _, pr⟩ := AtS.bind (Rel1 := PRl X.K) (k := fun d env h1 => ((evalE (callF Γ.fns n) env b h1).bind unP).toS env fun kd h2 => ofH env ((keyOf kd).bind fun q => setKeyH env i q (.p d) h2)) qq
    refine ⟨env, s, eH, hr, er, trivial, PR.mono pr fun y H1 ⟨d, env, s, e, hr, er, ⟨_, r⟩, pr⟩ => ?_⟩
    subst e
    replace pr : PSt X.K I W D s (((evalE (callF Γ.fns n) env b s.h).bind unP).toS env fun kd h2 => ofH env ((keyOf kd).bind fun q => setKeyH env i q (.p d) h2)) := pr
    rcases hk.pure (callF Γ.fns n) env s.h with ⟨vk, e1⟩ | e1
    · cases vk with
      | ref m => rw [e1] at pr; exact False.elim pr
      | p kd =>
        rw [e1] at pr
        replace pr : PSt X.K I W D s (ofH env ((keyOf kd).bind fun q => setKeyH env i q (.p d) s.h)) := pr
        cases e4 : keyOf kd with
        | none => rw [e4] at pr; exact False.elim pr
        | some ky =>
          rw [e4, Option.bind_some] at pr
          unfold setKeyH at pr
          cases e3 : dctOf env s.h i with
          | none => rw [e3] at pr; exact False.elim pr
          | some pp =>
            rw [e3, Option.bind_some] at pr
            by_cases hz : pp.2.length < 1000
            · rw [if_pos hz] at pr
              obtain ⟨k1, k2⟩ := dctOf_of e3
              obtain ⟨k6, k7⟩ := ref_addr er k1
              obtain ⟨es, h1, h2, s', h3, h4, h5, h6⟩ := own_dput (q := ky) hr k2 r
              refine ⟨_, k6, env, s, rfl, hr, er, ?_⟩
              simp only [e1]
              refine ⟨trivial, fun z rz => ?_⟩
              refine ⟨_, upd s.H (s.φ pp.1 0) (.dK (putK es ky y)), rfl, ?_, ?_⟩
              · rw [key_kV e4 rz]
                exact DPut.k h1 (by have := size1000'; omega)
              · rw [← h3]
                exact pr s' σ h6 h4 h5 (er.le h6)
            · rw [if_neg hz] at pr; exact False.elim pr
    · rw [e1] at pr; exact False.elim pr
end
end Cd
set_option Elab.async false
set_option linter.all false
set_option maxRecDepth 100000
set_option maxHeartbeats 1000000
namespace Cd
open PySem PySem.Spec PyProof.Rows L2
section
variable {prog : Program} {w : World} {A : Around} {E : Value → Shared → Prop} {s : Shared}
/-- all items of a list or tuple, in a list that is new -/
theorem collect_at {Q : List Value → Shared → Prop} {l : Addr} {T : String} {o : Obj} {items : Array Value} {n : Nat} (hT : T = "list" ∨ T = "tuple") (ho : s.heap.get? l = some o) (hc : o.cls = .type T) (hd : o.data = .seq items n) (hz : items.size ≤ sizeLine)
    (fin : ∀ h2 : Heap, (∀ b u, s.heap.get? b = some u → h2.get? b = some u) → s.heap.objs.size ≤ h2.objs.size → Q items.toList { s with heap := h2 }) : wpAny (model prog w) A (collect (.ref l)) Q E s := by
  let S := s.heap.objs.size
  let h1 : Heap := s.heap.push { cls := .type "list", data := .seq ([] : List Value).toArray }
  let h2 : Heap := h1.update S (Obj.mapSeq (· ++ items))
  have g1 : h1.get? S = some { cls := .type "list", data := .seq #[] 0 } := Heap.get?_push_size _ rfl
  have g2 := Heap.get?_update_self (Obj.mapSeq (· ++ items)) g1 rfl
  have keep : ∀ b u, s.heap.get? b = some u → h2.get? b = some u := fun b u e =>
    (Heap.get?_update_other h1 _ (Nat.ne_of_gt (Heap.lt_size e))).trans (Heap.get?_push_of_some _ e)
  have sz : S ≤ h2.objs.size := by
    show S ≤ (h1.update S _).objs.size
    rw [Heap.size_update, size_push']
    omega
  have e0 : ((#[] : Array Value) ++ items).toList = items.toList := by simp
  have last : wpAny (model prog w) A (do
      match (← load S).data with
      | .seq xs _ => pure xs.toList
      | _ => unsupported "internal:collect") Q E { s with heap := h2 } := by
    refine wpAny_bind (wpAny_load g2 (wpAny_pure ?_))
    show Q ((#[] : Array Value) ++ items).toList _
    rw [e0]; exact fin h2 keep sz
  unfold collect
  refine wpAny_bind (wpAny_runValue (codeAny_builtin F.entry_proto_collect (by
    rw [Around.under_plainId F.plain_proto_collect _]
    show wpAny _ A.in1 (newList [] >>= fun q => again (.builtin "list.__iadd__" ⟨[q, .ref l], []⟩)) _ _ s
    refine wpAny_bind (wpAny_newObj_type (wpAny_pure ⟨plainId_quiet F.plain_list_iadd _, codeAny_builtin F.entry_list_iadd (by
      rw [Around.under_plainId F.plain_list_iadd _]
      show wpAny _ A.in1 (Builtin.List.listExtendWith (.ref S) (.ref l) (.ref S)) _ _ _
      refine wpAny_mono (wpAny_extend_seq (hsz := hz) (A := A) (R := fun r s' => r = .ok (.ret (.ref S)) ∧ s' = { s with heap := h2 }) (s := { s with heap := h1 }) _ l _ 0 hT g1 (Heap.get?_push_of_some _ ho) hc hd ⟨rfl, rfl⟩) (fun f s' hf => ?_) (fun e s' hf => absurd hf.1 (by simp))
      cases f with
      | done f =>
        obtain ⟨e, rfl⟩ := hf
        cases e
        exact last
      | again c =>
        exact ⟨hf.1, codeAny_mono hf.2 fun r s2 hr => by
          obtain ⟨rfl, rfl⟩ := hr
          exact last⟩)⟩))))) 
/-- sorted of a tuple (or list): the new list stands beyond all that was -/
theorem sorted_seqA {l : Addr} {T : String} {o : Obj} {n : Nat} {vs : List Value} {ltv : Value → Value → Bool} {Q : Value → Shared → Prop} (O : SrtO.Swo ltv) (hT : T = "list" ∨ T = "tuple") (ho : s.heap.get? l = some o) (hc : o.cls = .type T) (hd : o.data = .seq vs.toArray n) (hz : vs.length ≤ sizeLine)
    (hS : ∀ (s1 : Shared) (a : Addr), 2 ≤ vs.length → SrtO.SortableO prog w A.in1.in1 s1 a vs ltv)
    (fin : ∀ (a : Addr) (h2 : Heap) (out : List Value), SrtO.Srtd ltv out → SrtO.Stb ltv out vs → s.heap.objs.size ≤ a → (∀ b u, s.heap.get? b = some u → h2.get? b = some u) → (∃ e, h2.get? a = some (seqObj "list" out.toArray e)) → Q (.ref a) { s with heap := h2 }) :
    wpAny (model prog w) A (call (.builtin "sorted") [.ref l]) Q E s :=
  Calls.call_function_entry kind_sorted plain_sorted entry_sorted (args_sorted1 _) (by
    unfold Builtin.«sorted»
    refine wpAny_bind (m := checkCount "sorted" 1 1 _) (wpAny_pure (wpAny_bind (collect_at hT ho hc hd (by simpa using hz) fun h' k sz => wpAny_bind (wpAny_newList ?_ hz))))
    have hL : (h'.push (seqObj "list" vs.toArray 0)).get? h'.objs.size = some (seqObj "list" vs.toArray 0) := Heap.get?_push_size _ rfl
    refine wpAny_bind (wpAny_holding (wpAny_call_entry slot_list_sort ⟨_, hL, rfl⟩ entry_list_sort (SrtO.list_sort_ord O hL hz (fun two => hS _ _ two) fun out ha hb => ⟨_, rfl, wpAny_pure ⟨_, rfl, ?_⟩⟩) (args_list_sort _)))
    refine fin _ _ out ha hb sz (fun b u e => ?_) (sortedHeap_at hL)
    have e2 := k b u e
    have lt := Heap.lt_size e2
    exact (sortedHeap_old (Nat.ne_of_lt lt) (by rw [size_push']; exact Nat.lt_succ_of_lt lt)).trans (Heap.get?_push_of_some _ e2))
end
/-- sorted(a list or tuple of ints) -/
def rSortedA (K : PySem.W.Frag) : List V → Hp → VK → Prop := fun vs H Q => ∃ (a : Addr) (ns : List Int), vs = [V.ref a] ∧ (SqL K H a (ns.map V.int) ∨ SqT K H a (ns.map V.int)) ∧
  ∀ p : Addr, H p = none → Q (.ref p) (upd H p (.lst ((sortI ns).map V.int)))
theorem cr_sortedA {X : Cx} : CallR X (.builtin "sorted") (rSortedA X.K) := by
  intro pins s σ H vs us Q I r h
  obtain ⟨a, ns, rfl, hs, q⟩ := h
  obtain ⟨its, T, o, n, hT, ho, hc, hd, rv, hz⟩ : ∃ (its : List Value) (T : String) (o : Obj) (n : Nat), (T = "list" ∨ T = "tuple") ∧ s.heap.get? a = some o ∧ o.cls = .type T ∧ o.data = .seq its.toArray n ∧ Vals (ns.map V.int) its ∧ (ns.map V.int).length ≤ sizeLine := by
    rcases hs with hs | hs
    · obtain ⟨its, rv, hl, hz⟩ := I.list hs
      obtain ⟨o, ho, hc, n, hd⟩ := hl.isList
      exact ⟨its, "list", o, n, .inl rfl, ho, hc, hd, rv, hz⟩
    · obtain ⟨its, rv, ⟨o, ho, hc, n, hd⟩, hz⟩ := I.tuple hs
      exact ⟨its, "tuple", o, n, .inr rfl, ho, hc, hd, rv, hz⟩
  rw [Vals.ref1 r]
  have hi := rv.ints
  refine sorted_seqA SrtO.swo_int hT ho hc hd (by rw [← rv.length]; exact hz) (fun s1 b h2 => SrtO.ints_sortable hi h2) fun b h2 out h3 h4 hb k ⟨e, he⟩ => ?_
  obtain ⟨k1, k2, k3⟩ := SrtO.ints_out hi h3 h4
  have es : out.map SrtO.iv = sortI ns := sorted_uniq (k2.trans (sortI_perm _).symm) k3 (sortI_sorted _)
  rw [es] at k1
  have hlen : ((sortI ns).map V.int).length ≤ sizeLine := by rw [List.length_map, (sortI_perm ns).length_eq]; rw [List.length_map] at hz; exact hz
  exact ⟨.ref b, upd H b (.lst ((sortI ns).map V.int)), I.laid (t' := s.toks) k hb ⟨hlen, out, e, vals_of_ints k1, he⟩, rfl, q b (I.hok.fresh hb)⟩
theorem leP_iff {p q : Int × Int} : leP p q = true ↔ p.1 < q.1 ∨ (p.1 = q.1 ∧ p.2 ≤ q.2) := by
  unfold leP
  simp
theorem insP_perm (x : Int × Int) : ∀ l : List (Int × Int), (insP x l).Perm (x :: l)
  | [] => .refl _
  | y :: r => by
    unfold insP
    split
    · exact .refl _
    · exact ((insP_perm x r).cons y).trans (.swap _ _ _)
theorem sortP_perm : ∀ l : List (Int × Int), (sortP l).Perm l
  | [] => .refl _
  | x :: r => (insP_perm x _).trans ((sortP_perm r).cons x)
theorem insP_sorted {x : Int × Int} : ∀ {l : List (Int × Int)}, l.Pairwise (fun p q => leP p q = true) → (insP x l).Pairwise fun p q => leP p q = true
  | [], _ => List.pairwise_singleton _ _
  | y :: r, h => by
    obtain ⟨h1, h2⟩ := List.pairwise_cons.mp h
    unfold insP
    split
    · rename_i c
      refine List.pairwise_cons.mpr ⟨fun z hz => ?_, h⟩
      rcases List.mem_cons.mp hz with rfl | hz
      · exact c
      · have a := leP_iff.mp c
        have b := leP_iff.mp (h1 z hz)
        exact leP_iff.mpr (by omega)
    · rename_i c
      refine List.pairwise_cons.mpr ⟨fun z hz => ?_, insP_sorted h2⟩
      rcases List.mem_cons.mp ((insP_perm x r).mem_iff.mp hz) with rfl | hz
      · have a : ¬ (z.1 < y.1 ∨ (z.1 = y.1 ∧ z.2 ≤ y.2)) := fun t => c (leP_iff.mpr t)
        exact leP_iff.mpr (by omega)
      · exact h1 z hz
theorem sortP_sorted : ∀ l : List (Int × Int), (sortP l).Pairwise fun p q => leP p q = true
  | [] => .nil
  | _ :: r => insP_sorted (sortP_sorted r)
theorem leP_uniq {l m : List (Int × Int)} (p : l.Perm m) (h1 : l.Pairwise fun p q => leP p q = true) (h2 : m.Pairwise fun p q => leP p q = true) : l = m :=
  p.eq_of_pairwise (fun a b _ _ x y => by
    have a1 := leP_iff.mp x
    have a2 := leP_iff.mp y
    exact Prod.ext (by omega) (by omega)) h1 h2
/-- the pairs in a list -/
def Prs (K : PySem.W.Frag) (H : Hp) (ps : List (Int × Int)) (xs : List V) : Prop := ps.length = xs.length ∧ ∀ (i : Nat) p, ps[i]? = some p → ∃ t, xs[i]? = some (.ref t) ∧ SqT K H t [.int p.1, .int p.2]
theorem Prs.rf {K : PySem.W.Frag} {F : Addr → Prop} {H : Hp} : ∀ {ps : List (Int × Int)} {xs : List V}, Prs K H ps xs → RFs K F H (ps.map pairD) xs
  | [], [], _ => .nil
  | [], _ :: _, h => absurd h.1 (by simp)
  | _ :: _, [], h => absurd h.1 (by simp)
  | p :: ps, x :: xs, h => by
    obtain ⟨t, e, s⟩ := h.2 0 p rfl
    cases e
    exact .cons (.tup (.lo s rfl) (.cons (.int _) (.cons (.int _) .nil))) (Prs.rf ⟨by simpa using h.1, fun i q e => by simpa using h.2 (i + 1) q (by simpa using e)⟩)
theorem Prs.of {K : PySem.W.Frag} {F : Addr → Prop} {H : Hp} : ∀ {ts : List PyData} {xs : List V} {ps : List (Int × Int)}, RFs K F H ts xs → pairsD ts = some ps → Prs K H ps xs
  | [], _, _, .nil, e => by cases e; exact ⟨rfl, fun i p e => by simp at e⟩
  | d :: ds, _, ps, .cons (v := v) (vs := vs) r t, e => by
    have : ∃ a b, d = .tuple [.int a, .int b] := by
      cases d with
      | tuple ts => match ts, e with
        | [.int a, .int b], _ => exact ⟨a, b, rfl⟩
      | _ => cases e
    obtain ⟨a, b, rfl⟩ := this
    replace e : (pairsD ds).map ((a, b) :: ·) = some ps := e
    rw [Option.map_eq_some_iff] at e
    obtain ⟨qs, e1, rfl⟩ := e
    have ih := Prs.of t e1
    obtain ⟨p, ys, rfl, s, r2⟩ := r.tup_inv
    cases r2 with
    | cons r3 r4 =>
      cases r4 with
      | cons r5 r6 =>
        cases r6
        rw [RF.int_inv r3, RF.int_inv r5] at s
        refine ⟨by simpa using ih.1, fun i q e => ?_⟩
        cases i with
        | zero => simp at e; subst e; exact ⟨p, rfl, s⟩
        | succ i => simpa using ih.2 i q (by simpa using e)
/-- sorted(a list of pairs of ints) -/
def rSortP (K : PySem.W.Frag) : List V → Hp → VK → Prop := fun vs H Q => ∃ (a : Addr) (xs : List V) (ps : List (Int × Int)), vs = [V.ref a] ∧ SqL K H a xs ∧ Prs K H ps xs ∧ ∀ (p : Addr) zs, H p = none → Prs K H (sortP ps) zs → Q (.ref p) (upd H p (.lst zs))
theorem cr_sortP {X : Cx} : CallR X (.builtin "sorted") (rSortP X.K) := by
  intro pins s σ H vs us Q I r h
  obtain ⟨a, xs, ps, rfl, hs, hx, q⟩ := h
  obtain ⟨its, rv, hl, hz⟩ := I.list hs
  rw [Vals.ref1 r]
  let k : Value → Int × Int := fun v => open Classical in if h : ∃ p : Int × Int, Srt.IsPair s.heap v p.1 p.2 then Classical.choose h else (0, 0)
  have hk : ∀ v p, Srt.IsPair s.heap v p.1 p.2 → k v = p := fun v p h => by
    have ex : ∃ p : Int × Int, Srt.IsPair s.heap v p.1 p.2 := ⟨p, h⟩
    have e : k v = Classical.choose ex := dif_pos ex
    rw [e]
    obtain ⟨a, o, t, u, n, e1, ho, hc, hd⟩ := Classical.choose_spec ex
    obtain ⟨a', o', t', u', n', e1', ho', hc', hd'⟩ := h
    rw [e1] at e1'
    cases e1'
    rw [ho] at ho'
    cases ho'
    rw [hd] at hd'
    injection hd' with h1 _
    have h2 := congrArg Array.toList h1
    simp at h2
    exact Prod.ext h2.1.1 h2.2.1
  have hpair : ∀ (i : Nat) v, its[i]? = some v → ∃ t p, v = .ref t ∧ ps[i]? = some p ∧ SqT X.K H t [.int p.1, .int p.2] ∧ k v = p := fun i v e => by
    obtain ⟨hi, _⟩ := List.getElem?_eq_some_iff.mp e
    have hl1 := rv.length
    have hl2 := hx.1
    have hp : ps[i]? = some (ps[i]'(by omega)) := List.getElem?_eq_getElem _
    obtain ⟨t, ex, st⟩ := hx.2 i _ hp
    obtain ⟨w, ew, rw⟩ := rv.get ex
    rw [e] at ew
    cases ew
    obtain rfl : v = Value.ref t := rw
    refine ⟨t, _, rfl, hp, st, hk _ _ ?_⟩
    obtain ⟨its2, r2, ⟨o, ho, hc, n, hd⟩, _⟩ := I.tuple st
    obtain ⟨u1, u2, rfl, ri, rj⟩ := vals2 r2
    obtain ⟨t1, rfl⟩ := ri
    obtain ⟨t2, rfl⟩ := rj
    exact ⟨t, o, t1, t2, n, rfl, ho, hc, hd⟩
  have mem : ∀ v ∈ its, ∃ t, v = .ref t ∧ SqT X.K H t [.int (k v).1, .int (k v).2] ∧ Srt.IsPair s.heap v (k v).1 (k v).2 := fun v hv => by
    obtain ⟨i, hi, e⟩ := List.getElem_of_mem hv
    obtain ⟨t, p, e1, _, st, ek⟩ := hpair i v (by rw [← e]; exact List.getElem?_eq_getElem hi)
    rw [ek]
    refine ⟨t, e1, st, ?_⟩
    obtain ⟨its2, r2, ⟨o, ho, hc, n, hd⟩, _⟩ := I.tuple st
    obtain ⟨u1, u2, rfl, ri, rj⟩ := vals2 r2
    obtain ⟨t1, rfl⟩ := ri
    obtain ⟨t2, rfl⟩ := rj
    exact ⟨t, o, t1, t2, n, e1, ho, hc, hd⟩
  have emap : its.map k = ps := by
    have hl1 := rv.length
    have hl2 := hx.1
    refine List.ext_getElem? fun i => ?_
    rw [List.getElem?_map]
    cases e : its[i]? with
    | none =>
      have := List.getElem?_eq_none_iff.mp e
      rw [List.getElem?_eq_none (by omega)]; rfl
    | some v =>
      obtain ⟨t, p, _, hp, _, ek⟩ := hpair i v e
      rw [hp, Option.map_some, ek]
  refine SrtO.sorted_pairsO (k := k) hl.isList (by rw [← rv.length]; exact hz) (fun v hv => (mem v hv).choose_spec.2.2) fun h' d out h1 h2 kp hd hn => ?_
  have h3 : ∀ u ∈ out, ∃ a, u = Value.ref a := fun u hu => by
    obtain ⟨t, e, _⟩ := mem u (h2.perm.mem_iff.mp hu)
    exact ⟨t, e⟩
  obtain ⟨n, hn⟩ := hn
  have eo : out.map k = sortP ps := by
    refine leP_uniq ((h2.perm.map k).trans (by rw [emap]; exact (sortP_perm ps).symm)) ?_ (sortP_sorted ps)
    rw [List.pairwise_map]
    refine List.Pairwise.imp ?_ h1
    intro x y hxy
    have := SrtO.lexB_no.mp hxy
    exact leP_iff.mpr (by omega)
  refine ⟨.ref d, upd H d (.lst (out.map backV)), I.laid (t' := s.toks) kp hd ⟨?_, out, n, vals_back h3, hn⟩, rfl, q d _ (I.hok.fresh hd) ⟨by rw [← eo]; simp, fun i p e => ?_⟩⟩
  · rw [List.length_map, h2.len, ← rv.length]
    exact hz
  · rw [← eo, List.getElem?_map, Option.map_eq_some_iff] at e
    obtain ⟨u, eu, rfl⟩ := e
    obtain ⟨t, e1, st, _⟩ := mem u (h2.perm.mem_iff.mp (List.mem_of_getElem? eu))
    refine ⟨t, ?_, st⟩
    rw [List.getElem?_map, eu, e1]
    rfl
theorem cr_sortedB {X : Cx} : CallR X (.builtin "sorted") (fun vs H Q => rSortedA X.K vs H Q ∨ rSortP X.K vs H Q) := by
  intro pins s σ H vs us Q I r h
  rcases h with h | h
  · exact cr_sortedA pins s σ H vs us Q I r h
  · exact cr_sortP pins s σ H vs us Q I r h
section
variable {K : PySem.W.Frag} {Γ : Gm} {N : List Str} {sc : Sco} {ea : Expr} {a : E} {pos p p2 : Pos}
theorem okN_sorted : Op1N K (one fun vs H Q => rSortedA K vs H Q ∨ rSortP K vs H Q) .sorted := fun s d1 d x Q r e f => by
  replace e : sortedS d1 = some d := e
  unfold sortedS at e
  split at e
  · obtain ⟨l, xs, rfl, h1, q1⟩ := r.lst
    split at e
    · rename_i ns e1
      cases e
      obtain ⟨rfl, _⟩ := q1.ints' e1
      exact .inl ⟨l, ns, rfl, .inl h1, fun p0 h0 => f p0 _ _ rfl (.ofInts _) h0⟩
    · rw [Option.map_eq_some_iff] at e
      obtain ⟨ps, e, rfl⟩ := e
      exact .inr ⟨l, xs, ps, rfl, h1, .of q1 e, fun p0 zs h0 hz => f p0 _ _ rfl hz.rf h0⟩
  · rw [Option.map_eq_some_iff] at e
    obtain ⟨ns, e, rfl⟩ := e
    obtain ⟨l, xs, rfl, h1, q1⟩ := r.tup
    obtain ⟨rfl, _⟩ := q1.ints' e
    exact .inl ⟨l, ns, rfl, .inr h1, fun p0 h0 => f p0 _ _ rfl (.ofInts _) h0⟩
  · cases e
theorem dn_sorted (v : NB Γ sc "sorted") (ha : DB Γ N sc ea a) (se : Se1 ea := by intro _; rfl) : DN Γ N sc (.Call (.Name "sorted" p) [ea] [] pos) (.op1 .sorted a) :=
  dn_op1 (fun _ _ _ X g ta h => pe_bi1 g cr_sortedB v (by decide +kernel) h se) (fun _ _ _ X g => okN_sorted) ha
end
end Cd
set_option Elab.async false
set_option linter.all false
set_option maxRecDepth 100000
set_option maxHeartbeats 4000000
namespace Cd
open PySem PySem.Spec PyProof.Rows L2
section
variable {Γ : Gm} {N : List Str} {sc : Sco} {e tg ea eb ec ed : Expr} {a b c : E} {ta : Te} {o : O2} {pos p p2 : Pos} {i j : Nat} {x y : Str}
end
end Cd
set_option Elab.async false
set_option linter.all false
set_option maxRecDepth 100000
set_option maxHeartbeats 4000000
namespace Cd
open PySem PySem.Spec PyProof.Rows L2
theorem TabEs.all {K : PySem.W.Frag} {P : Program} {w : World} {h : Heap} (X : K.In h) : ∀ {kvs : List (List Int × Int)} {es : List DictEntry}, TabEs K kvs es →
    ∃ xs : List (List Key × Addr × Value), es = xs.map (entryOfKey (tupleKind (mixKind P w))) ∧ xs.map (·.1) = kvs.map (fun p => p.1.map Sum.inl) ∧ (∀ x ∈ xs, IsTupleKey (mixKind P w) h x.1 x.2.1) ∧
      ∀ ks i, kvs.lookup ks = some i → ∃ t tok, atKey xs (ks.map Sum.inl) = some (t, .int i tok)
  | [], [], _ => ⟨[], rfl, rfl, (fun x hx => by cases hx), (fun ks i e => by cases e)⟩
  | [], _ :: _, z => False.elim z
  | _ :: _, [], z => False.elim z
  | p :: ps, e :: es, z => by
    obtain ⟨⟨t, tok, o, items, n, e1, e2, e3, hl, hc, hd, hi⟩, z2⟩ := z
    obtain ⟨xs, h1, h2, h3, h4⟩ := TabEs.all (P := P) (w := w) X z2
    have it : ∀ {ks : List Int} {vs : List Value}, IntsAre vs ks → ItemsAre (mixKind P w) (ks.map Sum.inl) vs := fun {ks vs} h => by
      induction h with
      | nil => exact .nil
      | cons n t _ ih => exact .cons (mixKind_int P w n t) ih
    refine ⟨(p.1.map Sum.inl, t, .int p.2 tok) :: xs, ?_, by rw [List.map_cons, List.map_cons, h2], fun x hx => ?_, fun ks i e => ?_⟩
    · rw [List.map_cons, h1]
      congr 1
      obtain ⟨eh, ek, ev⟩ := e
      simp only at e1 e2 e3
      rw [e1, e2, e3 P w]
      rfl
    · rcases List.mem_cons.mp hx with rfl | hx
      · exact ⟨o, items, n, X _ _ hl, hc, hd, it hi⟩
      · exact h3 x hx
    · have inj : ∀ {a b : List Int}, a.map (Sum.inl : Int → Key) = b.map Sum.inl → a = b := fun {a b} h => (List.map_inj_right (fun x y z => by cases z; rfl)).mp h
      rw [List.lookup_cons] at e
      unfold atKey
      by_cases c : ks = p.1
      · subst c
        simp at e
        subst e
        exact ⟨t, tok, by simp⟩
      · have c2 : (ks == p.1) = false := by simpa using c
        rw [c2] at e
        obtain ⟨t2, tok2, e4⟩ := h4 ks i e
        refine ⟨t2, tok2, ?_⟩
        unfold atKey at e4
        rw [List.find?_cons_of_neg]
        · exact e4
        · simp only [decide_eq_true_eq]
          exact fun z => c (inj z.symm)
def rTab (K : PySem.W.Frag) (kvs : List (List Int × Int)) (a : Addr) : V → Hp → VK → Prop := fun y H Q => ∃ (t : Addr) (ks : List Int) (i : Int), y = .ref t ∧ SqT K H t (ks.map V.int) ∧ kvs.lookup ks = some i ∧ Q (.int i) H
theorem ix_tab {X : Cx} {kvs : List (List Int × Int)} {a : Addr} (hu : X.A.units + 64 < cLine) (tk : TabK X.K a kvs) : IxR X (fun x y H Q => x = .ref a ∧ rTab X.K kvs a y H Q) := by
  intro value slice pins s σ H x y v u Q I rx ry h hs
  obtain ⟨rfl, t, ks, i, rfl, st, e, q⟩ := h
  obtain rfl : v = Value.ref a := rx
  obtain rfl : u = Value.ref t := ry
  obtain ⟨es, m, hl, hes, nd⟩ := tk
  obtain ⟨xs, h1, h2, h3, h4⟩ := hes.all (P := X.prog) (w := X.w) I.kIn
  obtain ⟨t2, tok, e2⟩ := h4 ks i e
  have hm : s.heap.DictOfH (tupleKind (mixKind X.prog X.w)) a xs := ⟨_, es, m, I.kIn _ _ hl, ⟨rfl, rfl, rfl⟩, rfl, h1, h3, by
    rw [h2]
    refine List.Pairwise.map _ (fun p q hne z => hne ?_) (List.pairwise_map.mp nd)
    exact (List.map_inj_right (fun x y z => by cases z; rfl)).mp z⟩
  obtain ⟨its, r, ⟨o, ho, hc, n, hd⟩, hz⟩ := I.tuple st
  have it : ∀ {ks : List Int} {vs : List Value}, IntsAre vs ks → ItemsAre (mixKind X.prog X.w) (ks.map Sum.inl) vs := fun {ks vs} h => by
    induction h with
    | nil => exact .nil
    | cons n t _ ih => exact .cons (mixKind_int X.prog X.w n t) ih
  have hkey : IsTupleKey (mixKind X.prog X.w) s.heap (ks.map Sum.inl) t := ⟨o, _, n, ho, hc, hd, by simpa using it r.ints⟩
  exact tail_any hm.typeIs slot_dict_getitem.lookup (wpAny_getItem_heap (tupleKind_room_in1 (by omega)) hkey hm e2 ⟨.int i, H, I.tok _, ⟨tok, rfl⟩, q⟩) hs
section
variable {Γ : Gm} {N : List Str} {sc : Sco} {e tg ea eb ec : Expr} {a b c : E} {ta : Te} {o : O2} {pos p p2 p3 : Pos} {i j : Nat} {x y : Str}
theorem de_look {q : Pos} {kvs : List (List Int × Int)} (v : GOk sc x) (hf : (x, kvs) ∈ Γ.tabs) (hb : DB Γ N sc eb b) (hs : PlainIx eb := by intro _ _; rfl) : DE Γ N sc (.Subscript (.Name x q) eb pos) (.op1 (.look kvs) b) := fun n I W X g => by
  obtain ⟨C, hm, tk⟩ := g.tb _ hf
  have ok : Op1Ok X.K (fun y H Q => V.ref C = V.ref C ∧ rTab X.K kvs C y H Q) (.look kvs) := fun s d1 d x Q r e f => by
    replace e : lookS kvs d1 = some d := e
    unfold lookS at e
    split at e
    · rw [Option.bind_eq_some_iff] at e
      obtain ⟨ks, e1, e2⟩ := e
      rw [Option.map_eq_some_iff] at e2
      obtain ⟨i, e2, rfl⟩ := e2
      obtain ⟨t, xs, rfl, h1, q1⟩ := r.tup
      obtain ⟨rfl, _⟩ := q1.ints' e1
      exact ⟨rfl, t, ks, i, rfl, h1, e2, f.1 _ (.int i)⟩
    · cases e
  exact (pe_ix (ix_tab g.hu tk) (pe_glob (v := .ref C) (v.g g) hm rfl v.db) (hb n I W X g) hs).imp fun σ H Q q => op1_imp ok q
theorem de_freeze {q : Pos} (v : VOk N sc i x) : DE Γ N sc (.Name x q) (.freeze i) := fun n I W X g => (v.pe g).imp fun σ H Q qq => by
  obtain ⟨env, s, eH, hr, er, _, pr⟩ := qq
  subst eH
  replace pr : PR X.K I W s σ (freezeK env i s.h) (VR X.K) Q := pr
  unfold freezeK at pr
  cases e0 : lstOf env s.h i with
  | none => rw [e0] at pr; exact False.elim pr
  | some p0 =>
    rw [e0] at pr
    obtain ⟨m, ts⟩ := p0
    obtain ⟨k1, k2⟩ := lstOf_of e0
    obtain ⟨k6, k7⟩ := ref_addr er k1
    obtain ⟨xs, k3, k4⟩ := hr.ob _ _ k2
    refine ⟨_, k6, ?_⟩
    simp only at pr k2 k3 k4 k6 k7
    have lm : Live s.h m 0 := ⟨_, k2, by intro z; cases z⟩
    have kf : KeepF s.F s.H (fun b => s.F b ∨ b = s.φ m 0) s.H := ⟨fun _ f => .inl f, fun _ _ _ e => e, fun _ _ e => e, fun _ _ _ e => e⟩
    have get : ∀ n, (s.h.set m .dead)[n]? = if m = n then some .dead else s.h[n]? := fun n => by
      rw [List.getElem?_set]
      by_cases c : m = n
      · rw [if_pos c, if_pos c, if_pos k7]
      · rw [if_neg c, if_neg c]
    have live : ∀ n j, Live (s.h.set m .dead) n j → n ≠ m ∧ Live s.h n j := fun n j l => by
      have ne : n ≠ m := by
        rintro rfl
        cases j with
        | zero =>
          obtain ⟨o, e, nd⟩ := l
          rw [get, if_pos rfl] at e
          exact nd (Option.some.inj e).symm
        | succ j =>
          rcases l with ⟨c, fs, ts, e, _⟩ | ⟨kvs, k, ts, e, _⟩
          · rw [get, if_pos rfl] at e; cases e
          · rw [get, if_pos rfl] at e; cases e
      refine ⟨ne, ?_⟩
      cases j with
      | zero =>
        obtain ⟨o, e, nd⟩ := l
        rw [get, if_neg (Ne.symm ne)] at e
        exact ⟨o, e, nd⟩
      | succ j =>
        rcases l with ⟨c, fs, ts, e, ef⟩ | ⟨kvs, k, ts, e, ef⟩
        · rw [get, if_neg (Ne.symm ne)] at e
          exact .inl ⟨c, fs, ts, e, ef⟩
        · rw [get, if_neg (Ne.symm ne)] at e
          exact .inr ⟨kvs, k, ts, e, ef⟩
    let s' : Sx := { s with h := s.h.set m .dead, F := fun b => s.F b ∨ b = s.φ m 0 }
    have le : Le s s' := ⟨by show s.h.length ≤ (s.h.set m .dead).length; rw [List.length_set]; exact Nat.le_refl _, fun _ _ => rfl, kf, fun b hb => ⟨hb, rfl⟩⟩
    have hr' : HR X.K I.ci s' := by
      refine ⟨fun n o e => ?_, fun n j m2 k l1 l2 e => hr.inj n j m2 k (live _ _ l1).2 (live _ _ l2).2 e, fun n j l f => ?_, fun b hb => ?_, fun b hb => ?_⟩
      · have e' : (s.h.set m .dead)[n]? = some o := e
        rw [get] at e'
        by_cases c : m = n
        · rw [if_pos c] at e'
          cases e'
          trivial
        · rw [if_neg c] at e'
          exact (hr.ob n o e').move (s' := s') kf e' fun j l => ⟨rfl, fun u e => e⟩
      · obtain ⟨ne, l'⟩ := live _ _ l
        rcases f with f | f
        · exact hr.nf n j l' f
        · exact ne (hr.inj n j m 0 l' lm f).1
      · obtain ⟨h1, h2, u, e⟩ := hr.bt b hb
        exact ⟨fun n j l => h1 n j (live _ _ l).2, fun f => f.elim h2 fun z => h1 m 0 lm z.symm, u, e⟩
      · rcases hb with hb | rfl
        · exact hr.ft b hb
        · exact ⟨_, k3⟩
    exact pr s' (.ref (s.φ m 0)) le rfl hr' (.lst (.inl ⟨.inr rfl, Rd.of k3⟩) (k4.keep kf))
theorem okN_rev {K : PySem.W.Frag} : Op1N K (fun x H Q => ∃ a xs, x = .ref a ∧ SqL K H a xs ∧ ∀ p, H p = none → Q (.ref p) (upd H p (.lst xs.reverse))) .rev := fun s d1 d x Q r e f => by
  replace e : revS d1 = some d := e
  unfold revS at e
  split at e
  · cases e
    obtain ⟨l, xs, rfl, h1, q1⟩ := r.lst
    exact ⟨l, xs, rfl, h1, fun p hp => f p _ _ rfl q1.reverse hp⟩
  · cases e
theorem dn_rev {k : Nat} {p1 p2 p3 : Pos} (ha : DB Γ N sc ea a) : DN Γ N sc (.Subscript ea (.Slice none none (some (.UnaryOp .USub (.Constant (.int 1) k p1) p2)) p3) pos) (.op1 .rev a) :=
  dn_op1 (r := fun X x H Q => ∃ a xs, x = .ref a ∧ SqL X.K H a xs ∧ ∀ p, H p = none → Q (.ref p) (upd H p (.lst xs.reverse))) (fun _ _ _ X g ta h => pe_revL h) (fun _ _ _ X g => okN_rev) ha
end
end Cd
set_option Elab.async false
set_option linter.all false
set_option maxRecDepth 100000
set_option maxHeartbeats 4000000
namespace Cd
open PySem PySem.Spec PyProof.Rows L2
/-- how many unlike ones -/
abbrev cntS (xs : List Str) : Nat := (dedup xs.reverse).length
theorem setOf_at {P : Program} {w : World} {h h' : Heap} {a : Addr} {S : Str → Bool} {n : Nat} (x : h.SetOf (strKind P w) a S n) (k : ∀ o, h.get? a = some o → h'.get? a = some o) : h'.SetOf (strKind P w) a S n := by
  obtain ⟨o, es, ep, t, ho, r⟩ := x
  exact ⟨o, es, ep, t, k o ho, r⟩
theorem cntS_snoc (xs : List Str) (x : Str) : cntS (xs ++ [x]) = if decide (x ∈ xs) = true then cntS xs else cntS xs + 1 := by
  unfold cntS
  rw [List.reverse_append]
  show (dedup (x :: xs.reverse)).length = _
  rw [dedup.eq_2]
  by_cases c : x ∈ xs
  · rw [if_pos (List.mem_reverse.mpr c), if_pos (decide_eq_true c)]
  · rw [if_neg (fun z => c (List.mem_reverse.mp z)), if_neg (by simpa using c), List.length_cons]
theorem cntS_le (xs : List Str) : cntS xs ≤ xs.length := by
  have : ∀ ys : List Str, (dedup ys).length ≤ ys.length := fun ys => by
    induction ys with
    | nil => exact Nat.le_refl _
    | cons y r ih => unfold dedup; split <;> simp <;> omega
  have := this xs.reverse
  rw [List.length_reverse] at this
  exact this
section
variable {P : Program} {w : World} {A : Around} {E : Value → Shared → Prop} {s : Shared}
/-- the loop, from the i-th on -/
theorem loop_strs {it : Addr} {fp wr : List Addr} {G : Array GenState → Array GenState → Prop} {n : Nat} {Pv : Nat → Value → Prop} {St : Nat → Shared → Prop} {R : Result → Shared → Prop} (W : WalksS P w A.in1 it fp wr G n Pv St) {D : Addr} (out : D ∉ fp) {xs : List Str} (hl : xs.length = n) (few : n + 1 < scanBound) (val : ∀ i v, Pv i v → ∃ x t, xs[i]? = some x ∧ v = .str x t) :
    ∀ (m i : Nat) (s : Shared), i + m = n → St i s → s.heap.SetOf (strKind P w) D (fun x => decide (x ∈ xs.take i)) (cntS (xs.take i)) → (∀ s', Moved (D :: wr) G s s' → s'.heap.SetOf (strKind P w) D (fun x => decide (x ∈ xs)) (cntS xs) → R (.ok (.ret .none)) s') →
      codeAny (model P w) A (.builtin "set.update.loop" ⟨[.ref D, .ref it], []⟩) R s
  | 0, i, s, e, st, hS, fin => codeAny_builtin F.entry_set_update_loop (by
      have dw : D ∉ wr := fun z => out (W.sub _ z)
      obtain rfl : i = n := by omega
      rw [List.take_of_length_le (by omega)] at hS
      rw [Around.under_plainId F.plain_set_update_loop _]
      show wpAny _ A.in1 (pyNext (.ref it) >>= _) _ _ s
      exact wpAny_bind (W.done s _ _ st fun s1 mv => wpAny_pure (fin s1 (mv.mono fun b hb => List.mem_cons_of_mem _ hb) (setOf_at hS fun o q => mv.heap D o dw q))))
  | m + 1, i, s, e, st, hS, fin => codeAny_builtin F.entry_set_update_loop (by
      have dw : D ∉ wr := fun z => out (W.sub _ z)
      rw [Around.under_plainId F.plain_set_update_loop _]
      show wpAny _ A.in1 (pyNext (.ref it) >>= _) _ _ s
      refine wpAny_bind (W.item i s _ _ (by omega) st fun v s1 hP st1 mv => ?_)
      obtain ⟨x, t, hx, rfl⟩ := val i v hP
      have hS1 := setOf_at hS fun o q => mv.heap D o dw q
      show wpAny _ A.in1 (holding [Value.str x t] (setAdd D (.str x t)) >>= _) _ _ s1
      refine wpAny_bind (wpAny_holding ?_)
      unfold setAdd
      refine wpAny_holding (wpAny_bind ((strKind P w).pyHash (k := x) (strKind_is _ _ _ _) ?_))
      have room : cntS (xs.take i) + 1 < scanBound := by
        have := cntS_le (xs.take i)
        rw [List.length_take] at this
        omega
      refine wpAny_setAddHashed_of (knd := strKind P w) (s := { s1 with toks := s1.toks + 1 }) (strKind_is _ _ _ _) rfl hS1 room fun h2 same hS2 => ?_
      have tk : xs.take (i + 1) = xs.take i ++ [x] := by rw [List.take_add_one, hx]; rfl
      have hS3 : h2.SetOf (strKind P w) D (fun y => decide (y ∈ xs.take (i + 1))) (cntS (xs.take (i + 1))) := SetOf_congr hS2 (fun y => by rw [tk]; simp [List.mem_append]) (by rw [tk, cntS_snoc])
      have ne : ∀ b, b ∈ fp → b ≠ D := fun b hb z => out (z ▸ hb)
      refine wpAny_pure ⟨plainId_quiet F.plain_set_update_loop _, loop_strs W out hl few val m (i + 1) _ (by omega) (W.frame _ s1 _ _ st1 (Nat.le_succ _) fun b hb o q => (same.2 b (ne b hb)).trans q) hS3 fun s3 mv3 hS4 => fin s3 ?_ hS4⟩
      refine Moved.trans W.gtrans ((mv.mono fun b hb => List.mem_cons_of_mem _ hb).then_heap (Nat.le_succ _) fun b o hb q => ?_) mv3
      exact (same.2 b (fun z : b = D => hb (z ▸ List.mem_cons_self))).trans q)
/-- what stands after set.__init__ -/
def SetDoneS (P : Program) (w : World) (s : Shared) (xs : List Str) (r : Value) (s2 : Shared) : Prop := r = .none ∧ ∃ h' tk, s2 = { s with heap := h', toks := tk } ∧ h'.SetOf (strKind P w) s.heap.objs.size (fun x => decide (x ∈ xs)) (cntS xs) ∧ ∀ b o, s.heap.get? b = some o → h'.get? b = some o
theorem set_fillS {B : Around} {l : Addr} {vs : Array Value} {xs : List Str} (hh : B.in1.handled = none) (hl : s.heap.IsList l vs) (iv : StrsAre vs.toList xs) (few : xs.length + 1 < scanBound) {R : Result → Shared → Prop}
    (hR : ∀ s2, SetDoneS P w s xs .none s2 → R (.ok (.ret .none)) s2) :
    codeAny (model P w) B (.builtin "set.update.loop" ⟨[.ref s.heap.objs.size, .ref (s.heap.objs.size + 1)], []⟩) R { s with heap := (s.heap.push (eSet w)).push (eIter l) } := by
  have len : xs.length = vs.size := by simpa using iv.length.symm
  have z1 : (s.heap.push (eSet w)).objs.size = s.heap.objs.size + 1 := Heap.size_push ..
  have ll : l < s.heap.objs.size := by
    obtain ⟨o, e, _⟩ := hl
    exact Heap.lt_size e
  have e1 : ((s.heap.push (eSet w)).push (eIter l)).get? s.heap.objs.size = some (eSet w) := Heap.get?_push_of_some _ (Heap.get?_push_size _ rfl)
  have e2 : ((s.heap.push (eSet w)).push (eIter l)).get? (s.heap.objs.size + 1) = some (eIter l) := by
    have q := Heap.get?_push_size (s.heap.push (eSet w)) (o := eIter l) rfl
    rwa [z1] at q
  have W := (Walks.list (prog := P) (w := w) hh (s.heap.objs.size + 1) l (Nat.ne_of_lt (Nat.lt_succ_of_lt ll)) vs).toS
  have nm : s.heap.objs.size ∉ [s.heap.objs.size + 1, l] := fun q => by
    rcases List.mem_cons.mp q with q | q
    · exact absurd q (Nat.ne_of_lt (Nat.lt_succ_self _))
    · exact absurd (List.mem_singleton.mp q).symm (Nat.ne_of_lt ll)
  have s0 : ((s.heap.push (eSet w)).push (eIter l)).SetOf (strKind P w) s.heap.objs.size (fun x => decide (x ∈ xs.take 0)) (cntS (xs.take 0)) :=
    SetOf_congr ((setObjOf_fresh (knd := strKind P w) _).setOf e1 (by unfold scanBound; omega)) (fun x => by simp) rfl
  refine loop_strs W nm len (by omega) (fun i v e => ?_) vs.size 0 _ (by omega) ⟨⟨_, e2, rfl, rfl⟩, (hl.push _).push _⟩ s0 fun s2 mv R2 => hR s2 ?_
  · have il : i < xs.length := by rw [len]; exact (Array.getElem?_eq_some_iff.mp e).1
    have e3 : vs.toList[i]? = some v := by rw [Array.getElem?_toList]; exact e
    have at_ : ∀ {us : List Value} {ys : List Str} (j : Nat), StrsAre us ys → us[j]? = some v → ∃ x t, ys[j]? = some x ∧ v = .str x t := fun {us ys} j h => by
      induction h generalizing j with
      | nil => intro e; simp at e
      | cons y t h2 ih =>
        intro e
        cases j with
        | zero => simp at e; exact ⟨y, t, rfl, e.symm⟩
        | succ j => simpa using ih j (by simpa using e)
    exact at_ i iv e3
  · obtain ⟨h2, g2, d2, t2, o2⟩ := s2
    have q1 : g2 = s.gens := mv.gens
    have q2 : d2 = s.drawn := mv.drawn
    have q3 : o2 = s.os := mv.os
    subst q1 q2 q3
    refine ⟨rfl, h2, t2, rfl, R2, fun b o e => ?_⟩
    have lb := Heap.lt_size e
    have nb : b ∉ [s.heap.objs.size, s.heap.objs.size + 1] := fun q => by
      rcases List.mem_cons.mp q with q | q
      · exact absurd q (Nat.ne_of_lt lb)
      · exact absurd (List.mem_singleton.mp q) (Nat.ne_of_lt (Nat.lt_succ_of_lt lb))
    exact mv.heap b o nb (Heap.get?_push_of_some _ (Heap.get?_push_of_some _ e))
set_option maxHeartbeats 3200000 in
theorem set_list_strs {l : Addr} {vs : Array Value} {xs : List Str} {Q : Value → Shared → Prop} (hh : A.handled = none) (hl : s.heap.IsList l vs) (iv : StrsAre vs.toList xs) (few : xs.length + 1 < scanBound)
    (hQ : ∀ s2, SetDoneS P w s xs .none s2 → Q (.ref s.heap.objs.size) s2) : wpAny (model P w) A (call (.type "set") [.ref l]) Q E s := by
  obtain ⟨c, tl, m0⟩ := F.called_set.mro
  have m1 := F.called_set.made
  have m2 := F.called_set.sub
  refine wpAny_call (codeAny_of_tree ?_)
  show wpAny _ _ (callAny (.type "set") _) _ _ _
  refine wpAny_pure ⟨Code.quiet_builtin _ (by decide +kernel), codeAny_builtin F.entry_type_call ?_⟩
  rw [Around.under_plain (weight_type_call_type "set" [.ref l] []) rfl]
  have m3 := F.called_set.notType
  have m4 := F.called_set.canCreate
  have m5 := F.typeCall_set_1 (.ref l)
  repeat (any_goals (first | assumption | wp_step))
  refine codeAny_mono (code_set_led1 (.ref l) (E := E) (Q₁ := fun u s1 => u = .ref s.heap.objs.size ∧ s1 = { s with heap := s.heap.push (eSet w) }) ⟨rfl, rfl⟩) fun r s1 hr => ?_
  match r, hr with
  | .error e, hr => exact hr
  | .ok .next, hr => exact hr.elim
  | .ok .brk, hr => exact hr.elim
  | .ok .cont, hr => exact hr.elim
  | .ok (.ret u), ⟨e1, e2⟩ =>
    subst e1 e2
    have hT : Shared.TypeIs { s with heap := s.heap.push (eSet w) } (.ref s.heap.objs.size) "set" := ⟨_, Heap.get?_push_size _ rfl, rfl⟩
    have m6 := F.called_set.init.lookup
    have m7 := F.called_set.init.bind (.ref s.heap.objs.size)
    repeat (any_goals (first | assumption | wp_step))
    refine codeAny_mono (codeAny_call_builtin (R := wants (SetDoneS P w s xs) E) F.called_set.init.plain F.entry_set_init (check_set_init_1 hT ?_)) fun r2 s2 hr2 => ?_
    · obtain ⟨⟨k1, k2, k3, k4⟩, o1, k5, k, k6⟩ := id hl
      simp only at k5 k6
      subst k5 k6
      have o2 : (s.heap.push (eSet w)).get? l = some { cls := .type "list", dict := k2, data := .seq vs k, slots := k4 } := Heap.get?_push_of_some _ o1
      have n1 := F.sub_list_set
      have n2 := F.sub_list_frozenset
      have n3 : (Value.type "list" == Value.type "dict") = false := by decide
      unfold Builtin.«set.__init__» noKeywords Builtin.Frozenset.updateFrom
      generalize hit : pyIter = it
      wp_walk
      subst hit
      refine wpAny_pyIter_list (hl.push _) (wpAny_bind (wpAny_runValue ?_))
      have z1 : (s.heap.push (eSet w)).objs.size = s.heap.objs.size + 1 := Heap.size_push ..
      rw [z1]
      refine set_fillS (by simp [hh]) hl iv few fun s2 d => ?_
      show wpAny _ _ _ _ _ _
      refine wpAny_pure ?_
      show wpAny _ _ (ret Value.none) _ _ _
      exact wpAny_pure d
    · match r2, hr2 with
      | .error e, hr2 => exact hr2
      | .ok .next, hr2 => exact hr2.elim
      | .ok .brk, hr2 => exact hr2.elim
      | .ok .cont, hr2 => exact hr2.elim
      | .ok (.ret u), d =>
        obtain ⟨rfl, d2⟩ := id d
        repeat (any_goals (first | assumption | wp_step))
        exact hQ _ d
end
/-- a set of n texts -/
def SetX (P : Program) (w : World) (a : Addr) (n : Nat) : HO := .ext fun h => ∃ S, h.SetOf (strKind P w) a S n
theorem setX_ok {P : Program} {w : World} {H : Hp} {h : Heap} {a : Addr} {S : Str → Bool} {n : Nat} (R : h.SetOf (strKind P w) a S n) : ObjOk P w H h a (SetX P w a n) :=
  ⟨⟨S, R⟩, ⟨_, R.choose_spec.choose_spec.choose_spec.choose_spec.1⟩, fun h1 h2 ⟨S, x⟩ k => ⟨S, setOf_at x k⟩⟩
def rSetX (P : Program) (K : PySem.W.Frag) (w : World) : List V → Hp → VK → Prop := fun vs H Q => ∃ (a : Addr) (xs : List Str), vs = [V.ref a] ∧ SqL K H a (xs.map V.str) ∧ xs.length < 1000 ∧ ∀ p, H p = none → Q (.ref p) (upd H p (SetX P w p (cntS xs)))
theorem cr_setX {X : Cx} (hc : X.calm = true) : CallR X (.type "set") (rSetX X.prog X.K X.w) := by
  intro pins s σ H vs us Q I r ⟨a, xs, e, h, few, q⟩
  subst e
  rw [Vals.ref1 r]
  obtain ⟨its, rv, pl, _⟩ := I.list h
  refine set_list_strs (I.ok.hd hc) pl.isList (xs := xs) (strsAre_of (by simpa using rv)) (by unfold scanBound; omega) fun s2 ⟨_, h', tk, e, R, k⟩ => ?_
  subst e
  have hn : H s.heap.objs.size = none := I.hok.fresh (Nat.le_refl _)
  refine ⟨.ref s.heap.objs.size, upd H s.heap.objs.size (SetX X.prog X.w s.heap.objs.size (cntS xs)), I.laid (t' := tk) (fun b u e => k b u e) (Nat.le_refl _) (setX_ok R), rfl, q _ hn⟩
def rLenX (P : Program) (w : World) : List V → Hp → VK → Prop := fun vs H Q => ∃ (a : Addr) (n : Nat), vs = [V.ref a] ∧ H a = some (SetX P w a n) ∧ n < 4000 ∧ Q (.int n) H
theorem call_lenX {X : Cx} : CallR X (.builtin "len") (rLenX X.prog X.w) := by
  intro pins s σ H vs us Q I r ⟨a, n, e, ha, few, q⟩
  subst e
  rw [Vals.ref1 r]
  obtain ⟨S, o, es, ep, t, ho, hex, hd, _, _, _, hf, hn⟩ := (I.hok a _ ha).1
  refine call_len_set ho hex hd hf (by rw [hn] <;> omega) ⟨.int n, H, I.tok _, ⟨_, by rw [hn]⟩, q⟩
end Cd
set_option Elab.async false
set_option linter.all false
set_option maxRecDepth 100000
set_option maxHeartbeats 4000000
namespace Cd
open PySem PySem.Spec PyProof.Rows L2
theorem strs_inv {K : PySem.W.Frag} {F : Addr → Prop} {H : Hp} : ∀ {ds : List PyData} {vs : List V} {xs : List Str}, RFs K F H ds vs → strsD ds = some xs → vs = xs.map V.str
  | _, _, _, .nil, e => by simp [strsD] at e; subst e; rfl
  | _, _, xs, .cons (d := d) (ds := ds) r t, e => by
    cases r with
    | str x =>
      simp only [strsD, Option.map_eq_some_iff] at e
      obtain ⟨ys, e1, rfl⟩ := e
      rw [strs_inv t e1]; rfl
    | _ => simp [strsD] at e
section
variable {Γ : Gm} {N : List Str} {sc : Sco} {e tg ea eb ec : Expr} {a b c : E} {ta : Te} {o : O2} {pos p p2 p3 : Pos} {i j : Nat} {x y : Str}
/-- len(set(a list of texts)) -/
theorem de_lenSet {q : Pos} (v : NB Γ sc "len") (v2 : NB Γ sc "set") (ha : DB Γ N sc ea a) (se1 : Se1 ea := by intro _; rfl) (se2 : Se1 (.Call (.Name "set" q) [ea] [] p2) := by intro _; rfl) :
    DE Γ N sc (.Call (.Name "len" p) [.Call (.Name "set" q) [ea] [] p2] [] pos) (.op1 .lenSet a) := fun n I W X g =>
  (pe_bi1 g call_lenX v boot_len (pe_ty1 g (cr_setX g.calm) v2 (by decide +kernel) (ha n I W X g) se1) se2).imp fun σ H Q q => by
    obtain ⟨env, s, eH, hr, er, _, pr⟩ := At.bind (Rel1 := RB X.K) (ev2 := fun x env h => Cd.ofO ((opf1 .lenSet x).map Val.p) h) q
    refine ⟨env, s, eH, hr, er, trivial, ?_⟩
    refine PR.mono pr fun x H1 ⟨d, env, s, e, hr, er, ⟨_, rb⟩, pr⟩ => ?_
    subst e
    replace pr : PR X.K I W s σ (Cd.ofO ((lenSetS d).map Val.p) s.h) (VR X.K) Q := pr
    cases e1 : lenSetS d with
    | none => rw [e1] at pr; exact False.elim pr
    | some d' =>
      rw [e1] at pr
      cases d with
      | list ts =>
        have e2 : ((strsD ts).bind fun xs => if xs.length < 1000 then some (PyData.int (dedup xs.reverse).length) else none) = some d' := e1
        rw [Option.bind_eq_some_iff] at e2
        obtain ⟨xs, e3, e4⟩ := e2
        split at e4
        · rename_i few
          cases e4
          obtain ⟨l, us, rfl, h1, q1⟩ := rb.lst
          rw [strs_inv q1 e3] at h1
          have cl := cntS_le xs
          refine ⟨l, xs, rfl, h1, few, fun p0 hp => ?_⟩
          refine ⟨p0, cntS xs, rfl, upd_same, by omega, ?_⟩
          have hr1 := hr.put (o := SetX X.prog X.w p0 (cntS xs)) (fz := false) hp
          exact pr (s.put p0 _ false) _ (hr.put_le hp) rfl hr1 (.int _)
        · cases e4
      | _ => cases e1
end
end Cd
set_option Elab.async false
set_option linter.all false
set_option maxRecDepth 100000
set_option maxHeartbeats 4000000
namespace Cd
open PySem PySem.Spec PyProof.Rows L2
structure KeepW (F : Addr → Prop) (H : Hp) (F' : Addr → Prop) (H' : Hp) : Prop where
  up : ∀ a, F a → F' a
  fz : ∀ a o, F a → H a = some o → H' a = some o
  tp : ∀ a xs, H a = some (.tup xs) → H' a = some (.tup xs)
  zt : ∀ a o xs, H a = some (.frz o (.tup xs)) → H' a = some (.frz o (.tup xs))
  zl : ∀ a o xs, H a = some (.frz o (.lst xs)) → H' a = some (.frz o (.lst xs))
mutual
theorem RF.keepW {K : PySem.W.Frag} {F F' : Addr → Prop} {H H' : Hp} (k : KeepW F H F' H') : ∀ {d : PyData} {v : V}, RF K F H d v → RF K F' H' d v
  | _, _, .non => .non
  | _, _, .bl b => .bl b
  | _, _, .int i => .int i
  | _, _, .str x => .str x
  | _, _, .lst s r => .lst (s.elim (fun h => .inl ⟨k.up _ h.1, h.2.elim (fun e => .inl (k.fz _ _ h.1 e)) fun ⟨o, e⟩ => .inr ⟨o, k.zl _ _ _ e⟩⟩) .inr) (RFs.keepW k r)
  | _, _, .tup s r => .tup ⟨s.1.elim (fun h => .inl (h.elim (fun e => .inl (k.tp _ _ e)) fun ⟨o, e⟩ => .inr ⟨o, k.zt _ _ _ e⟩)) .inr, fun z => (s.2 z).imp (fun ⟨o, c, e⟩ => ⟨o, c, k.zt _ _ _ e⟩) fun h => h⟩ (RFs.keepW k r)
theorem RFs.keepW {K : PySem.W.Frag} {F F' : Addr → Prop} {H H' : Hp} (k : KeepW F H F' H') : ∀ {ds : List PyData} {vs : List V}, RFs K F H ds vs → RFs K F' H' ds vs
  | _, _, .nil => .nil
  | _, _, .cons r t => .cons (RF.keepW k r) (RFs.keepW k t)
end
section
variable {K : PySem.W.Frag} {CI : CInf}
theorem FlR.moveW {s s' : Sx} {n j : Nat} {f : Fld} {v : V} (r : FlR K s n j f v) (k : KeepW s.F s.H s'.F s'.H)
    (ph : ∀ ts, f = .l ts → s'.φ n (j + 1) = s.φ n (j + 1) ∧ ∀ xs, s.H (s.φ n (j + 1)) = some (.lst xs) → s'.H (s.φ n (j + 1)) = some (.lst xs)) : FlR K s' n j f v := by
  cases f with
  | p d => exact RF.keepW k r
  | l ts =>
    obtain ⟨e, xs, hx, q⟩ := r
    obtain ⟨e1, e2⟩ := ph ts rfl
    exact ⟨by rw [e1]; exact e, xs, by rw [e1]; exact e2 xs hx, q.keepW k⟩
theorem ObR.moveW {s s' : Sx} {n : Nat} {o : Ob} (r : ObR K CI s n o) (k : KeepW s.F s.H s'.F s'.H) (hn : s.h[n]? = some o)
    (ph : ∀ j, Live s.h n j → s'.φ n j = s.φ n j ∧ ∀ u, s.H (s.φ n j) = some u → s'.H (s.φ n j) = some u) : ObR K CI s' n o := by
  cases o with
  | lst ts =>
    obtain ⟨xs, e, q⟩ := r
    obtain ⟨e1, e2⟩ := ph 0 ⟨_, hn, by intro z; cases z⟩
    exact ⟨xs, by rw [e1]; exact e2 _ e, q.keepW k⟩
  | dct kvs =>
    obtain ⟨es, e, m, nd, q⟩ := r
    obtain ⟨e1, e2⟩ := ph 0 ⟨_, hn, by intro z; cases z⟩
    refine ⟨es, by rw [e1]; exact e2 _ e, m, nd, fun j y f ef => ?_⟩
    obtain ⟨v, h1, h2⟩ := q j y f ef
    refine ⟨v, h1, h2.moveW k fun ts eq => ?_⟩
    subst eq
    obtain ⟨a, b⟩ := ph (j + 1) (.inr ⟨kvs, y, ts, hn, ef⟩)
    exact ⟨a, fun xs => b _⟩
  | ins c fs =>
    obtain ⟨C, names, dx, es, ci, e, m, l, q⟩ := r
    obtain ⟨e1, e2⟩ := ph 0 ⟨_, hn, by intro z; cases z⟩
    refine ⟨C, names, dx, es, ci, by rw [e1]; exact e2 _ e, m, l, fun j f ef => ?_⟩
    obtain ⟨x, v, h0, h1, h2⟩ := q j f ef
    refine ⟨x, v, h0, h1, h2.moveW k fun ts eq => ?_⟩
    subst eq
    obtain ⟨a, b⟩ := ph (j + 1) (.inl ⟨c, fs, ts, hn, ef⟩)
    exact ⟨a, fun xs => b _⟩
  | dead => trivial
end
theorem scal_rf {K : PySem.W.Frag} {F F' : Addr → Prop} {H H' : Hp} {d : PyData} {v : V} (h : scalD d = true) (r : RF K F H d v) : RF K F' H' d v := by
  cases r with
  | non => exact .non
  | bl b => exact .bl b
  | int i => exact .int i
  | str x => exact .str x
  | lst => cases h
  | tup => cases h
theorem key_rf {K : PySem.W.Frag} {F : Addr → Prop} {H : Hp} (k : Key) : RF K F H (keyD k) (kV k) := by
  cases k with
  | inl i => exact .int i
  | inr x => exact .str x
theorem items_at : ∀ {kvs : List (Key × Fld)} {items : List PyData}, itemsD kvs = some items → kvs.length = items.length ∧ ∀ (j : Nat) k f, kvs[j]? = some (k, f) → ∃ d, f = .p d ∧ scalD d = true ∧ items[j]? = some (.tuple [keyD k, d])
  | [], _, e => by cases e; exact ⟨rfl, fun j k f e => by simp at e⟩
  | (k0, .l ts) :: r, _, e => by cases e
  | (k0, .p d0) :: r, items, e => by
    unfold itemsD at e
    split at e
    · rename_i hs
      rw [Option.map_eq_some_iff] at e
      obtain ⟨rest, e1, rfl⟩ := e
      obtain ⟨h1, h2⟩ := items_at e1
      refine ⟨by simp [h1], fun j k f e => ?_⟩
      cases j with
      | zero => simp at e; obtain ⟨rfl, rfl⟩ := e; exact ⟨d0, rfl, hs, rfl⟩
      | succ j => simpa using h2 j k f (by simpa using e)
    · cases e
/-- the pairs of a locked dict -/
theorem jr_items {K : PySem.W.Frag} {CI : CInf} {s : Sx} {d : Addr} {od : Obj} {es : List (Key × V)} {items : List PyData} (h0 : s.H d = some (.frz od (.dK es))) (hl : es.length = items.length)
    (hv : ∀ (j : Nat) k v, es[j]? = some (k, v) → ∃ x, items[j]? = some (.tuple [keyD k, x]) ∧ ∀ F H, RF K F H x v) : JR K CI s items (Iti d od es) := fun s' l hr' i => by
  have h1 : s'.H d = some (.frz od (.dK es)) := l.kf.zz _ _ _ h0
  refine ⟨fun hi => ⟨h1, by omega⟩, fun hi => ⟨h1, by omega⟩, fun x H' hi ⟨T, k, v, e1, e2, hT, e3⟩ => ?_⟩
  subst e2 e3
  obtain ⟨y, e4, ry⟩ := hv i k v e1
  have hr2 := hr'.put (o := .tup [kV k, v]) (fz := false) hT
  refine ⟨_, s'.put T (.tup [kV k, v]) false, e4, rfl, hr'.put_le hT, rfl, hr2, ?_⟩
  exact .tup (.lo (SqT.of upd_same) (by cases k <;> rfl)) (.cons (key_rf k) (.cons (ry _ _) .nil))
section
variable {Γ : Gm} {N : List Str} {sc : Sco} {e tg ea eb ec : Expr} {a b c : E} {o : O2} {pos p p2 : Pos} {t : Tg} {src : Src} {i0 : Nat} {x : Str}
theorem lcI_imp {n : Nat} {I : Inf} {W : WX} {X : Cx} {conds : List Te} {own : List (Str × Nat)} (hsub : ∀ k, k ∈ tgSlots t → k ∈ snds own) {σ : L2.St} {H : Hp} {Q : VK}
    (q : tE X.K I W (fun env h => (evalE (callF Γ.fns n) env (.compI i0 (snds own) t conds a) h).bind unP) (RN X.K) σ H Q) :
    tLockE (tLc (iItems (tVar i0)) (tG X.K I.ci t) (tE X.K I (fun _ _ _ _ => False) (fun env h => evalTs (callF Γ.fns n) env conds h) (fun _ a x => x = a))
      (tE X.K I (fun _ _ _ _ => False) (fun env h => (evalE (callF Γ.fns n) env a h).bind unP) (PRl X.K)) (own.map (·.2))) σ H Q := by
  obtain ⟨env, s, eH, hr, er, _, pr⟩ := q
  subst eH
  let run : List PyData → Hi → R (List PyData) := compL (fun e h => (evalE (callF Γ.fns n) e a h).bind unP) (fun e h => evalTs (callF Γ.fns n) e conds h) (fun x e => bindT t x e) (wipeE env (snds own))
  replace pr : PR X.K I W s σ ((match dctOf env s.h i0 with
    | none => .stuck
    | some p => match itemsD p.2 with
      | none => .stuck
      | some items => (compK2 run items (s.h.set p.1 .dead)).bind fun v h2 => .ok v (h2.set p.1 (.dct p.2)) : R Val).bind unP) (RN X.K) Q := pr
  cases e0 : dctOf env s.h i0 with
  | none => rw [e0] at pr; exact False.elim pr
  | some p0 =>
  rw [e0] at pr
  obtain ⟨m, kvs⟩ := p0
  simp only at pr
  cases ei : itemsD kvs with
  | none => rw [ei] at pr; exact False.elim pr
  | some items =>
  rw [ei] at pr
  replace pr : PR X.K I W s σ (((compK2 run items (s.h.set m .dead)).bind fun v h2 => .ok v (h2.set m (.dct kvs))).bind unP) (RN X.K) Q := pr
  obtain ⟨k1, k2⟩ := dctOf_of e0
  obtain ⟨k6, k7⟩ := ref_addr er k1
  obtain ⟨es, k3, km, knd, kf⟩ := hr.ob _ _ k2
  obtain ⟨il, ia⟩ := items_at ei
  have el : es.length = kvs.length := by simpa using congrArg List.length km
  refine ⟨s.φ m 0, .dK es, k3, trivial, fun od => ?_⟩
  have lm : Live s.h m 0 := ⟨_, k2, by intro z; cases z⟩
  have nF : ¬ s.F (s.φ m 0) := hr.nf m 0 lm
  have get : ∀ (h : Hi) (o : Ob) n, m < h.length → (h.set m o)[n]? = if m = n then some o else h[n]? := fun h o n hm => by
    rw [List.getElem?_set]
    by_cases c : m = n
    · rw [if_pos c, if_pos c, if_pos hm]
    · rw [if_neg c, if_neg c]
  have live : ∀ (h : Hi) n j, m < h.length → Live (h.set m .dead) n j → n ≠ m ∧ Live h n j := fun h n j hm l => by
    have ne : n ≠ m := by
      rintro rfl
      cases j with
      | zero =>
        obtain ⟨o, e, nd⟩ := l
        rw [get _ _ _ hm, if_pos rfl] at e
        exact nd (Option.some.inj e).symm
      | succ j =>
        rcases l with ⟨c, fs, ts, e, _⟩ | ⟨kvs, k, ts, e, _⟩
        · rw [get _ _ _ hm, if_pos rfl] at e; cases e
        · rw [get _ _ _ hm, if_pos rfl] at e; cases e
    refine ⟨ne, ?_⟩
    cases j with
    | zero =>
      obtain ⟨o, e, nd⟩ := l
      rw [get _ _ _ hm, if_neg (Ne.symm ne)] at e
      exact ⟨o, e, nd⟩
    | succ j =>
      rcases l with ⟨c, fs, ts, e, ef⟩ | ⟨kvs, k, ts, e, ef⟩
      · rw [get _ _ _ hm, if_neg (Ne.symm ne)] at e
        exact .inl ⟨c, fs, ts, e, ef⟩
      · rw [get _ _ _ hm, if_neg (Ne.symm ne)] at e
        exact .inr ⟨kvs, k, ts, e, ef⟩
  have Bne : ∀ b, s.B b → b ≠ s.φ m 0 := fun b hb z => (hr.bt b hb).1 m 0 lm z.symm
  -- locked
  let s1 : Sx := { s with h := s.h.set m .dead, H := upd s.H (s.φ m 0) (.frz od (.dK es)), B := fun b => s.B b ∨ b = s.φ m 0 }
  have kf1 : KeepF s.F s.H s1.F s1.H := ⟨fun _ f => f, fun b o f e => by
      show upd s.H _ _ b = some o
      rw [upd_ne (fun z => nF (by rw [← z]; exact f))]; exact e, fun b xs e => by
      show upd s.H _ _ b = some _
      rw [upd_ne (fun z => by rw [z, k3] at e; cases e)]; exact e, fun b o u e => by
      show upd s.H _ _ b = some _
      rw [upd_ne (fun z => by rw [z, k3] at e; cases e)]; exact e⟩
  have le1 : Le s s1 := ⟨by show s.h.length ≤ (s.h.set m .dead).length; rw [List.length_set]; exact Nat.le_refl _, fun _ _ => rfl, kf1, fun b hb => ⟨.inl hb, by
    show upd s.H _ _ b = _
    rw [upd_ne (Bne b hb)]⟩⟩
  have hr1 : HR X.K I.ci s1 := by
    refine ⟨fun n o e => ?_, fun n j m2 k l1 l2 e => hr.inj n j m2 k (live _ _ _ k7 l1).2 (live _ _ _ k7 l2).2 e, fun n j l f => hr.nf n j (live _ _ _ k7 l).2 f, fun b hb => ?_, fun b hb => ?_⟩
    · have e' : (s.h.set m .dead)[n]? = some o := e
      rw [get _ _ _ k7] at e'
      by_cases c : m = n
      · rw [if_pos c] at e'
        cases e'
        trivial
      · rw [if_neg c] at e'
        exact (hr.ob n o e').move (s' := s1) kf1 e' fun j l => ⟨rfl, fun u e => by
          show upd s.H _ _ (s.φ n j) = some u
          rw [upd_ne (fun z => c (hr.inj n j m 0 l lm z).1.symm)]; exact e⟩
    · rcases hb with hb | hb
      · obtain ⟨h1, h2, u, e⟩ := hr.bt b hb
        exact ⟨fun n j l => h1 n j (live _ _ _ k7 l).2, h2, u, by show upd s.H _ _ b = some u; rw [upd_ne (Bne b hb)]; exact e⟩
      · subst hb
        exact ⟨fun n j l z => (live _ _ _ k7 l).1 (hr.inj n j m 0 (live _ _ _ k7 l).2 lm z).1, nF, _, upd_same⟩
    · obtain ⟨u, e⟩ := hr.ft b hb
      exact ⟨u, by show upd s.H _ _ b = some u; rw [upd_ne (fun z => nF (by rw [← z]; exact hb))]; exact e⟩
  -- the walk
  have key := lc_imp (Γ := Γ) (n := n) (I := I) (W := W) (X := X) (t := t) (src := .e (.lit (.list items))) (a := a) (conds := conds) hsub (σ := σ) (H := s1.H) (Q := fun v H' => H' (s.φ m 0) = some (.frz od (.dK es)) ∧ Q v (upd H' (s.φ m 0) (.dK es))) ⟨env, s1, rfl, hr1, er.le le1, trivial, by
    show PR X.K I W s1 σ ((compK2 run items (s.h.set m .dead)).bind unP) (RN X.K) _
    generalize compK2 run items (s.h.set m .dead) = r at pr ⊢
    cases r with
    | stuck => exact False.elim pr
    | exc e h2 => exact fun s' cls d l eh hr' xr => pr s' cls d (le1.trans l) eh hr' xr
    | ok v h2 =>
      cases v with
      | ref n => exact False.elim pr
      | p d =>
        intro s2 x l2 eh hr2 rn
        subst eh
        have hB : s2.B (s.φ m 0) ∧ s2.H (s.φ m 0) = some (.frz od (.dK es)) := by
          obtain ⟨b1, b2⟩ := l2.fr (s.φ m 0) (.inr rfl)
          exact ⟨b1, b2.trans upd_same⟩
        obtain ⟨bn, bF, _⟩ := hr2.bt _ hB.1
        have hm2 : m < s2.h.length := Nat.lt_of_lt_of_le (by show m < (s.h.set m .dead).length; rw [List.length_set]; exact k7) l2.len
        have ph2 : s2.φ m 0 = s.φ m 0 := l2.ph m (by show m < (s.h.set m .dead).length; rw [List.length_set]; exact k7)
        let s3 : Sx := { s2 with h := s2.h.set m (.dct kvs), H := upd s2.H (s.φ m 0) (.dK es), B := s.B }
        have ne2 : ∀ {b u}, s2.H b = some u → (∀ o w, u ≠ .frz o (.dK w)) → upd s2.H (s.φ m 0) (.dK es) b = some u := fun {b u} e z => by
          rw [upd_ne (fun w => by rw [w, hB.2] at e; exact z od es (Option.some.inj e).symm)]; exact e
        have kf2 : KeepW s2.F s2.H s3.F s3.H := ⟨fun _ f => f, fun b o f e => by
            show upd s2.H _ _ b = some o
            rw [upd_ne (fun z => bF (by rw [← z]; exact f))]; exact e, fun b xs e => ne2 e (fun _ _ z => by cases z), fun b o xs e => ne2 e (fun _ _ z => by cases z), fun b o xs e => ne2 e (fun _ _ z => by cases z)⟩
        have le3 : Le s s3 := by
          refine ⟨by show s.h.length ≤ (s2.h.set m _).length; rw [List.length_set]; exact Nat.le_trans le1.len l2.len, fun n hn => (l2.ph n (Nat.lt_of_lt_of_le hn le1.len)).trans (le1.ph n hn), ⟨fun b f => l2.kf.up b f, fun b o f e => ?_, fun b xs e => ?_, fun b o u e => ?_⟩, fun b hb => ⟨hb, ?_⟩⟩
          · show upd s2.H _ _ b = some o
            rw [upd_ne (fun z => nF (by rw [← z]; exact f))]
            exact l2.kf.fz b o f (kf1.fz b o f e)
          · show upd s2.H _ _ b = some _
            rw [upd_ne (fun z => by rw [z, k3] at e; cases e)]
            exact l2.kf.tp b xs (kf1.tp b xs e)
          · show upd s2.H _ _ b = some _
            rw [upd_ne (fun z => by rw [z, k3] at e; cases e)]
            exact l2.kf.zz b o u (kf1.zz b o u e)
          · show upd s2.H _ _ b = s.H b
            rw [upd_ne (Bne b hb), (l2.fr b (.inl hb)).2]
            show upd s.H _ _ b = _
            rw [upd_ne (Bne b hb)]
        have live3 : ∀ n j, Live s3.h n j → (n = m ∧ j = 0) ∨ (n ≠ m ∧ Live s2.h n j) := fun n j l => by
          replace l : Live (s2.h.set m (.dct kvs)) n j := l
          by_cases c : n = m
          · subst c
            left
            refine ⟨rfl, ?_⟩
            cases j with
            | zero => rfl
            | succ j =>
              exfalso
              rcases l with ⟨c, fs, ts, e, ef⟩ | ⟨kvs', k, ts, e, ef⟩
              · rw [get _ _ _ hm2, if_pos rfl] at e; cases e
              · rw [get _ _ _ hm2, if_pos rfl] at e
                cases e
                obtain ⟨d, ed, _⟩ := ia j k _ ef
                cases ed
          · refine .inr ⟨c, ?_⟩
            cases j with
            | zero =>
              obtain ⟨o, e, nd⟩ := l
              rw [get _ _ _ hm2, if_neg (Ne.symm c)] at e
              exact ⟨o, e, nd⟩
            | succ j =>
              rcases l with ⟨c2, fs, ts, e, ef⟩ | ⟨kvs', k, ts, e, ef⟩
              · rw [get _ _ _ hm2, if_neg (Ne.symm c)] at e
                exact .inl ⟨c2, fs, ts, e, ef⟩
              · rw [get _ _ _ hm2, if_neg (Ne.symm c)] at e
                exact .inr ⟨kvs', k, ts, e, ef⟩
        have hr3 : HR X.K I.ci s3 := by
          refine ⟨fun n o e => ?_, fun n j m2 k l1 l2 e => ?_, fun n j l f => ?_, fun b hb => ?_, fun b hb => ?_⟩
          · have e' : (s2.h.set m (.dct kvs))[n]? = some o := e
            rw [get _ _ _ hm2] at e'
            by_cases c : m = n
            · rw [if_pos c] at e'
              cases e'
              subst c
              refine ⟨es, by show upd s2.H _ _ (s2.φ m 0) = _; rw [ph2]; exact upd_same, km, knd, fun j k f ef => ?_⟩
              obtain ⟨v, h1, h2⟩ := kf j k f ef
              obtain ⟨d, rfl, hd, _⟩ := ia j k f ef
              exact ⟨v, h1, scal_rf hd h2⟩
            · rw [if_neg c] at e'
              exact (hr2.ob n o e').moveW (s' := s3) kf2 e' fun j l => ⟨rfl, fun u e => by
                show upd s2.H _ _ (s2.φ n j) = some u
                rw [upd_ne (bn n j l)]; exact e⟩
          · rcases live3 _ _ l1 with ⟨rfl, rfl⟩ | ⟨n1, l1'⟩ <;> rcases live3 _ _ l2 with ⟨rfl, rfl⟩ | ⟨n2, l2'⟩
            · exact ⟨rfl, rfl⟩
            · exact absurd (e.symm.trans ph2) (bn _ _ l2')
            · exact absurd (e.trans ph2) (bn _ _ l1')
            · exact hr2.inj _ _ _ _ l1' l2' e
          · rcases live3 _ _ l with ⟨rfl, rfl⟩ | ⟨_, l'⟩
            · have f' : s2.F (s2.φ n 0) := f
              rw [ph2] at f'
              exact bF f'
            · exact hr2.nf _ _ l' f
          · obtain ⟨h1, h2, u, e⟩ := hr2.bt b ((l2.fr b (.inl hb)).1)
            refine ⟨fun n j l z => ?_, h2, u, by show upd s2.H _ _ b = some u; rw [upd_ne (Bne b hb)]; exact e⟩
            rcases live3 _ _ l with ⟨rfl, rfl⟩ | ⟨_, l'⟩
            · have z' : s2.φ n 0 = b := z
              rw [ph2] at z'
              exact Bne b hb z'.symm
            · exact h1 _ _ l' z
          · obtain ⟨u, e⟩ := hr2.ft b hb
            exact ⟨u, by show upd s2.H _ _ b = some u; rw [upd_ne (fun z => bF (by rw [← z]; exact hb))]; exact e⟩
        refine ⟨hB.2, pr s3 x le3 rfl hr3 ?_⟩
        obtain ⟨ts, D, acc, e1, e2, e3, e4, e5, e6, e7⟩ := rn
        have Dd : D ≠ s.φ m 0 := fun z => by rw [z, hB.2] at e3; cases e3
        refine ⟨ts, D, acc, e1, e2, ne2 e3 (fun _ _ z => by cases z), e4.keepW kf2, e5, fun n j l z => ?_, fun z => e7 ((l2.fr D (.inl z)).1)⟩
        rcases live3 _ _ l with ⟨rfl, rfl⟩ | ⟨_, l'⟩
        · have z' : s2.φ n 0 = D := z
          rw [ph2] at z'
          exact Dd z'.symm
        · exact e6 _ _ l' z⟩
  obtain ⟨env', s', eH', hr', er', _, prS⟩ := key
  replace prS : PR X.K I W s' σ (R.ok items s'.h) (JR X.K I.ci) _ := prS
  have hd' : s'.H (s.φ m 0) = some (.frz od (.dK es)) := by rw [eH']; exact upd_same
  have go := prS s' (Iti (s.φ m 0) od es) (.refl s') rfl hr' (jr_items hd' (by omega) fun j k v e => by
    have hj : j < kvs.length := by rw [← el]; exact (List.getElem?_eq_some_iff.mp e).1
    have ek : kvs[j]? = some (kvs[j].1, kvs[j].2) := List.getElem?_eq_getElem hj
    obtain ⟨v', h1, h2⟩ := kf j _ _ ek
    rw [e] at h1
    cases h1
    obtain ⟨d, e1, hd, e2⟩ := ia j _ _ ek
    rw [e1] at h2
    exact ⟨d, e2, fun F H => scal_rf hd h2⟩)
  rw [eH'] at go
  exact ⟨_, k6, s.φ m 0, od, es, rfl, upd_same, go⟩
theorem dn_compI {elt : Expr} {ifs elts : List Expr} {kk : Nat} {tpos apos cpos : Pos} {scope : Scope} {own : List (Str × Nat)} {conds : List Te} {q : Pos} (v : VOk N sc i0 x) (ok : BlkOk N sc.s scope own) (ht : DG Γ N (blkS sc scope) (.Tuple elts kk tpos) t) (hc : DTs Γ N (blkS sc scope) ifs conds) (he : DV Γ N (blkS sc scope) elt a)
    (hsub : ∀ k, k ∈ tgSlots t → k ∈ snds own) (hab : Ab x q "items" := by intro _; rfl) (hline : (apos.endLine == cpos.line) = true := by rfl) (hs : ∀ env y, foldedSetIterable (.Call (.Attribute (.Name x q) "items" apos) [] [] cpos) env y = pure y := by intro _ _; rfl) : DN Γ N sc (.ListComp elt [⟨.Tuple elts kk tpos, .Call (.Attribute (.Name x q) "items" apos) [] [] cpos, ifs, 0⟩] scope pos) (.compI i0 (snds own) t conds a) := fun n I W X g =>
  (pe_lock (pe_lc (own := own) (wi := iItems (tVar i0)) (g := tG X.K I.ci t) (tt := tE X.K I (fun _ _ _ _ => False) (fun env h => evalTs (callF Γ.fns n) env conds h) (fun _ a x => x = a))
    (te := tE X.K I (fun _ _ _ _ => False) (fun env h => (evalE (callF Γ.fns n) env a h).bind unP) (PRl X.K)) g.calm (by rw [g.hN]; exact g.nd) (pi_items (v.pe g) (hab _) hline) (by rw [g.hN, g.sc]; exact ok)
    (fun s H C cl fp => ht n I _ _ (g.blk scope s H C cl fp)) (fun s H C cl fp => hc n I _ _ (g.blk scope s H C cl fp)) (fun s H C cl fp => he n I _ _ (g.blk scope s H C cl fp)) (hs _))).imp fun σ H Q q => lcI_imp hsub q
end
end Cd
set_option Elab.async false
set_option linter.all false
set_option maxRecDepth 100000
set_option maxHeartbeats 4000000
namespace Cd
open PySem PySem.Spec PyProof.Rows L2
/-- the hash of a tuple of ints -/
def hashT (ks : List Int) : Int := reduceHash (Builtin.Tuple.tupleHashOf (ks.map hashInt))
theorem hashT_eq (P : Program) (w : World) (ks : List Int) : tupleKeyHash (mixKind P w) (ks.map Sum.inl) = hashT ks := by
  unfold tupleKeyHash hashT
  rw [List.map_map]
  rfl
section
variable {K : PySem.W.Frag} {a t : Addr} {n : Nat} {tok : Tok} {h i : Int} {ks : List Int} {its : List Value} {xs : List V} {ts : List PyData}
theorem con_tup (hl : K.lookup a = some ⟨.type "tuple", none, .seq its.toArray n, #[]⟩) (hz : its.length ≤ 1000) (r : Vals xs its) (q : ∀ F H, RFs K F H ts xs) : ∀ F H, RF K F H (.tuple ts) (.ref a) := fun F H =>
  .tup (.st (.inr ⟨_, its.toArray, n, hl, rfl, rfl, rfl, by rw [List.size_toArray]; exact Nat.le_trans hz (by decide), r⟩)) (q F H)
theorem tab_ent (hh : h = hashT ks) (hl : K.lookup t = some ⟨.type "tuple", none, .seq its.toArray n, #[]⟩) (hi : IntsAre its ks) : TabEnt K ks i ⟨h, .ref t, .int i tok⟩ :=
  ⟨t, tok, _, its.toArray, n, rfl, rfl, fun P w => by rw [hashT_eq]; exact hh, hl, rfl, rfl, hi⟩
end
end Cd
set_option Elab.async false
set_option linter.all false
set_option maxRecDepth 100000
set_option maxHeartbeats 4000000
namespace Cd
open PySem PySem.Spec PyProof.Rows L2
section
variable {Γ : Gm} {N : List Str} {sc : Sco} {e ea eb ec : Expr} {a b c : E} {o : O2} {pos p p2 p3 : Pos} {tg : Expr} {K : PySem.W.Frag}
/-- two comparisons one behind the other, of things that are looked up -/
theorem de_chain {op op' : CmpOp} {o o' : O2} {r r' : Cx → R2} (hr1 : ∀ n I W X, GX Γ n I N sc W X → OpR X (compareOp op) (r X)) (hr2 : ∀ n I W X, GX Γ n I N sc W X → OpR X (compareOp op') (r' X))
    (ok1 : ∀ X : Cx, Op2Pu X.K (r X) o) (ok2 : ∀ X : Cx, Op2Pu X.K (r' X) o') (bo : ∀ x y d, opf2 o x y = some d → ∃ k, d = .bool k)
    (hm : ∀ b c : Expr, lastMarks [op, op'] [b, c] = false)
    (ha : DP Γ N sc ea a) (hb : DP Γ N sc eb b) (hc : DP Γ N sc ec c) : DE Γ N sc (.Compare ea [op, op'] [eb, ec] pos) (.and_ (.op2d o a b) (.op2d o' b c)) := fun n I W X g =>
  (pe_chain (hr1 n I W X g) (hr2 n I W X g) (ha.run n I W X g) (hb.run n I W X g) (hc.run n I W X g) (hm eb ec)).imp fun σ H Q q => by
    obtain ⟨env, s, eH, hr, er, _, pr⟩ := q
    refine ⟨env, s, eH, hr, er, ?_⟩
    replace pr : PR X.K I W s σ ((((evalE (callF Γ.fns n) env a s.h).bind unP).bind fun x h1 => ((evalE (callF Γ.fns n) env b h1).bind unP).bind fun y h2 => ofO ((opf2 o x y).map Val.p) h2).bind fun v h1 => andK (fun h2 => ((evalE (callF Γ.fns n) env b h2).bind unP).bind fun x h3 => ((evalE (callF Γ.fns n) env c h3).bind unP).bind fun y h4 => ofO ((opf2 o' x y).map Val.p) h4) v h1) (VR X.K) Q := pr
    subst eH
    rcases ha.pure (callF Γ.fns n) env s.h with ⟨v, e⟩ | e
    case inr => rw [e] at pr; exact False.elim pr
    rcases hb.pure (callF Γ.fns n) env s.h with ⟨v2, e2⟩ | e2
    case inr =>
      cases v with
      | ref m => rw [e] at pr; exact False.elim pr
      | p d1 =>
        rw [e] at pr
        simp only [R.bind_ok, unP, e2] at pr
        exact False.elim pr
    cases v with
    | ref m => rw [e] at pr; exact False.elim pr
    | p d1 =>
      cases v2 with
      | ref m =>
        rw [e] at pr
        simp only [R.bind_ok, unP, e2] at pr
        exact False.elim pr
      | p d2 =>
        rw [e] at pr
        simp only [R.bind_ok, unP, e2] at pr
        show (match evalE (callF Γ.fns n) env a s.h with
        | .ok (.p d) h' => h' = s.h ∧ ∀ x, RF X.K s.F s.H d x → _
        | _ => False)
        rw [e]
        refine ⟨rfl, fun x rx => ⟨env, s, rfl, hr, er, ?_⟩⟩
        show (match evalE (callF Γ.fns n) env b s.h with
        | .ok (.p d) h' => h' = s.h ∧ ∀ x, RF X.K s.F s.H d x → _
        | _ => False)
        rw [e2]
        refine ⟨rfl, fun y ry => ?_⟩
        cases e3 : opf2 o d1 d2 with
        | none => rw [e3] at pr; exact False.elim pr
        | some d3 =>
          rw [e3] at pr
          obtain ⟨k, rfl⟩ := bo _ _ _ e3
          refine ok1 X s d1 d2 _ x y _ (.inl rx) (.inl ry) e3 fun z rz => ?_
          obtain rfl : z = .bl k := RF.bl_inv rz
          refine ⟨k, rfl, ?_⟩
          cases k with
          | false =>
            rw [if_neg (by decide)]
            exact pr s _ (.refl s) rfl hr (.bl _)
          | true =>
            rw [if_pos rfl]
            refine ⟨env, s, rfl, hr, er, ?_⟩
            show (match evalE (callF Γ.fns n) env c s.h with
            | .ok (.p d) h' => h' = s.h ∧ ∀ x, RF X.K s.F s.H d x → _
            | _ => False)
            simp only [Option.map_some, ofO_some, R.bind_ok, andK, e2, unP] at pr
            rcases hc.pure (callF Γ.fns n) env s.h with ⟨v4, e4⟩ | e4
            case inr => rw [e4] at pr; exact False.elim pr
            rw [e4] at pr ⊢
            cases v4 with
            | ref m => exact False.elim pr
            | p d4 =>
              simp only [R.bind_ok, unP] at pr
              refine ⟨rfl, fun w rw' => ?_⟩
              cases e5 : opf2 o' d2 d4 with
              | none => rw [e5] at pr; exact False.elim pr
              | some d5 =>
                rw [e5] at pr
                exact ok2 X s d2 d4 d5 y w _ (.inl ry) (.inl rw') e5 fun z rz => pr s _ (.refl s) rfl hr rz
theorem de_leLe (ha : DP Γ N sc ea a) (hb : DP Γ N sc eb b) (hc : DP Γ N sc ec c) : DE Γ N sc (.Compare ea [.LtE, .LtE] [eb, ec] pos) (.and_ (.op2d .le a b) (.op2d .le b c)) :=
  de_chain (r := fun X => rCmp X.K (fun i j => decide (i ≤ j)) fun d e => !PySem.W.dataLt e d) (r' := fun X => rCmp X.K (fun i j => decide (i ≤ j)) fun d e => !PySem.W.dataLt e d) (fun _ _ _ X g => op_le.or (op_leG g.hu)) (fun _ _ _ X g => op_le.or (op_leG g.hu)) (fun _ => ok_cmp fun _ _ => rfl) (fun _ => ok_cmp fun _ _ => rfl) (fun _ _ _ e => cmp_bool e) (fun b c => by simp only [lastMarks]; exact nomark c) ha hb hc
variable {apos : Pos}
theorem ER.same {K : PySem.W.Frag} {s : Sx} {env : Ev} {σ : L2.St} (r : ER K s env σ) {i : Nat} {v : Val} {x : V} (e : σ[i]? = some (some x)) (q : VR K s v x) : ER K s (setSlot env i (some v)) σ where
  len := by rw [setSlot_length]; exact r.len
  at_ := fun j w ew => by
    by_cases c : j = i
    · subst c
      have hl : j < env.length := by rw [r.len]; exact (List.getElem?_eq_some_iff.mp e).1
      rw [slot_set_same hl] at ew
      cases ew
      exact ⟨x, e, q⟩
    · rw [slot_set_ne c] at ew
      exact r.at_ j w ew
end
end Cd
set_option Elab.async false
set_option linter.all false
set_option maxRecDepth 100000
set_option maxHeartbeats 4000000
namespace Cd
open PySem PySem.Spec PyProof.Rows L2
section
variable {prog : Program} {w : World} {A : Around} {E : Value → Shared → Prop} {s : Shared}
theorem applied_rev {sl : Addr} {vl vu vs : Value} {n : Nat} {Q : Int × Int × Nat → Shared → Prop} (hs : s.heap.IsSliceOf sl vl vu vs) (pl : IsPart vl none) (pu : IsPart vu none) (ps : IsPart vs (some (-1)))
    (h : Q ((n : Int) - 1, -1, n) s) : wpAny (model prog w) A (Builtin.Slice.sliceApplied (.ref sl) (pure (n : Int))) Q E s := by
  obtain ⟨os, hos, hcs, hds⟩ := id hs
  unfold Builtin.Slice.sliceApplied Builtin.Slice.sliceFields
  refine wpAny_bind (wpAny_bind (wpAny_field hos hds (x := vl) rfl (wpAny_bind (wpAny_field hos hds (x := vu) rfl (wpAny_bind (wpAny_field hos hds (x := vs) rfl (wpAny_pure ?_)))))))
  refine wpAny_bind (HT.slicePart_ ps ?_)
  show wpAny _ _ (if ((-1 : Int) == 0) = true then _ else _) _ _ s
  rw [if_neg (by decide)]
  refine wpAny_bind (HT.slicePart_ pl (wpAny_bind (HT.slicePart_ pu (wpAny_bind (wpAny_pure ?_)))))
  have pn : Builtin.Slice.slicePlaces ((n : Int) - 1) (-1) (-1) = n := by
    unfold Builtin.Slice.slicePlaces
    rw [if_neg (by decide)]
    by_cases c : (n : Int) - 1 > -1
    · rw [if_pos c, show (- -1 : Int) = 1 by decide, Int.ediv_one]; omega
    · rw [if_neg c]; omega
  show wpAny _ _ (pure ((n : Int) - 1, (-1 : Int), Builtin.Slice.slicePlaces ((n : Int) - 1) (-1) (-1))) _ _ s
  rw [pn]
  exact wpAny_pure h
theorem pick_rev (xs : Array Value) : ((List.range xs.size).filterMap fun (m : Nat) => xs[(((xs.size : Int) - 1) + (m : Int) * -1).toNat]?).toArray = xs.toList.reverse.toArray := by
  have e : (List.range xs.size).filterMap (fun (m : Nat) => xs[(((xs.size : Int) - 1) + (m : Int) * -1).toNat]?) = (List.range xs.size).filterMap ((fun i => xs[i]?) ∘ fun k => xs.size - 1 - k) := by
    have cg : ∀ (f g : Nat → Option Value) (l : List Nat), (∀ m ∈ l, f m = g m) → l.filterMap f = l.filterMap g := fun f g l => by
      induction l with
      | nil => intro _; rfl
      | cons a l ih => intro h; rw [List.filterMap_cons, List.filterMap_cons, h a List.mem_cons_self, ih fun m hm => h m (List.mem_cons_of_mem _ hm)]
    refine cg _ _ _ fun m hm => ?_
    have := List.mem_range.mp hm
    have : (((xs.size : Int) - 1) + (m : Int) * -1).toNat = xs.size - 1 - m := by omega
    show xs[(((xs.size : Int) - 1) + (m : Int) * -1).toNat]? = xs[xs.size - 1 - m]?
    rw [this]
  rw [e, ← List.filterMap_map, PySem.W.krv_range, List.filterMap_reverse, PySem.W.krv_all]
theorem getItem_tuple_rev {t sl : Addr} {items : Array Value} {vl vu vs : Value} {Q : Value → Shared → Prop} (ht : IsTup s.heap t items) (hs : s.heap.IsSliceOf sl vl vu vs) (pl : IsPart vl none) (pu : IsPart vu none) (ps : IsPart vs (some (-1)))
    (h : Q (.ref s.heap.objs.size) { s with heap := s.heap.push { cls := .type "tuple", data := .seq items.toList.reverse.toArray } })
    (hsz : items.size ≤ sizeLine) : wpAny (model prog w) A (getItem (.ref t) (.ref sl)) Q E s := by
  have htake : sizeOk (.seq items.toList.reverse.toArray) := by
    show items.toList.reverse.toArray.size ≤ sizeLine
    rw [List.size_toArray, List.length_reverse, Array.length_toList]
    exact hsz
  obtain ⟨os, hos, hcs, hds⟩ := id hs
  have hTs : s.TypeIs (.ref sl) "slice" := ⟨os, hos, hcs⟩
  unfold getItem
  try with_reducible refine wpAny_holding ?_
  first | refine wpAny_bind (wpAny_pure ?_) | skip
  refine wpAny_bind (wpAny_sequenceKey ht.typeIs (by decide) ?_)
  refine wpAny_bind (wpAny_callSpecial?_slot (name := Str.ofString "__getitem__") ht.typeIs PyProof.Rows.slot_tuple_getitem
    (wpAny_call_entry PyProof.Rows.slot_tuple_getitem ht.typeIs entry_tuple_getitem ?_ (args_tuple_getitem _ _)))
  show wpAny _ _ (Builtin.Tuple.tupleItemsOf (.ref t) >>= _) _ _ s
  refine wpAny_bind (tupleItemsOf_ ht ?_)
  refine wpAny_bind (wpAny_typeOf hTs ?_)
  rw [if_pos (by decide)]
  refine wpAny_bind (applied_rev hs pl pu ps ?_)
  show wpAny _ _ (if (((items.size : Int) - 1 == 0) && ((-1 : Int) == 1) && (items.size == items.size)) = true then _ else _) _ _ s
  rw [if_neg (by rw [show ((-1 : Int) == 1) = false by decide, Bool.and_false, Bool.false_and]; exact Bool.false_ne_true), pick_rev]
  first
    | exact wpAny_bind (m := Builtin.Tuple.tupleExact _) (wpAny_newObj_type (wpAny_pure ⟨_, rfl, wpAny_pure h⟩) htake)
    | exact wpAny_bind (m := Builtin.Tuple.tupleExact _) (wpAny_newObj_type (wpAny_bind (wpAny_pure (wpAny_pure ⟨_, rfl, wpAny_pure h⟩))) htake)
    | exact wpAny_bind (wpAny_bind (m := Builtin.Tuple.tupleExact _) (wpAny_newObj_type (wpAny_pure (wpAny_pure ⟨_, rfl, wpAny_pure h⟩)) htake))
    | exact wpAny_bind (wpAny_bind (m := Builtin.Tuple.tupleExact _) (wpAny_newObj_type (wpAny_pure ⟨_, rfl, wpAny_pure h⟩) htake))
end
def rRevT (K : PySem.W.Frag) : V → Hp → VK → Prop := fun x H Q => ∃ a xs, x = .ref a ∧ SqT K H a xs ∧ ∀ p o, H p = none → TupO o → Q (.ref p) (upd H p (.frz o (.tup xs.reverse)))
theorem pe_revT {X : Cx} {e : Expr} {te : TE} {k : Nat} {p1 p2 p3 pos : Pos} (he : PE X e te) : PE X (.Subscript e (.Slice none none (some (.UnaryOp .USub (.Constant (.int 1) k p1) p2)) p3) pos) (tUn (rRevT X.K) te) := by
  refine ⟨fun pins s σ H Q I h => ?_⟩
  refine Subscript_ (thn (he.run pins s σ H _ I h) fun v s1 ⟨x, H1, I1, r1, q1⟩ => ?_)
  obtain ⟨a, xs, ex, hx, q⟩ := q1
  subst ex
  cases r1
  have hst : PO X (some (.UnaryOp .USub (.Constant (.int 1) k p1) p2)) (tPart (tUn (rU fun i => .int (-i)) (tC (.int 1)))) := po_some (pe_un un_neg pe_int)
  refine wpAny_Slice (thn (po_none.run pins s1 σ H1 (fun o H2 => o = none ∧ H2 = H1) I1 ⟨rfl, rfl⟩) fun vl s2 ⟨l, H2, I2, pl, el, e2⟩ => ?_)
  subst el e2
  refine thn (po_none.run pins s2 σ H2 (fun o H3 => o = none ∧ H3 = H2) I2 ⟨rfl, rfl⟩) fun vu s3 ⟨u, H3, I3, pu, eu, e3⟩ => ?_
  subst eu e3
  refine thn (hst.run pins s3 σ H3 (fun o H4 => o = some (-1) ∧ H4 = H3) I3 ⟨1, rfl, -1, rfl, rfl, rfl⟩) fun vs s4 ⟨o, H4, I4, ps, eo, e4⟩ => ?_
  subst eo e4
  have I5 : Inv X pins σ H4 { s4 with heap := s4.heap.push { cls := .type "slice", data := .fields #[vl, vu, vs] } } := I4.kept (t' := s4.toks) fun b ob q => Heap.get?_push_of_some _ q
  obtain ⟨its, r, ht, hz⟩ := I5.tuple hx
  have hlen := r.length
  show wpAny (model X.prog X.w) X.A (subscriptTail e (.Slice none none (some (.UnaryOp .USub (.Constant (.int 1) k p1) p2)) p3) (.ref a) (.ref s4.heap.objs.size)) (EP X pins σ Q) X.xe { s4 with heap := s4.heap.push { cls := .type "slice", data := .fields #[vl, vu, vs] } }
  refine tail_any (ops := [.ref a, .ref s4.heap.objs.size]) ht.typeIs (PyProof.Rows.slot_tuple_getitem.lookup) ?_ (by with_unfolding_all rfl)
  refine getItem_tuple_rev ht (Heap.IsSliceOf.new _ vl vu vs) pl pu ps ?_ (by rw [List.size_toArray]; omega)
  refine ⟨.ref _, _, I5.laid (t' := s4.toks) (o := .frz { cls := .type "tuple", data := .seq its.reverse.toArray } (.tup xs.reverse)) (fun b ob q => Heap.get?_push_of_some _ q) (Nat.le_refl _) ?_, rfl, q _ _ (I5.hok.fresh (Nat.le_refl _)) ⟨rfl, rfl⟩⟩
  exact ⟨Heap.get?_push_size _ rfl, by rw [List.length_reverse]; exact hz, _, r.reverse, IsTup.new _ _⟩
def Tps (K : PySem.W.Frag) (H : Hp) (rs : List (List Int)) (xs : List V) : Prop := PySem.W.EachIs (fun x ns => ∃ t, x = V.ref t ∧ SqT K H t (ns.map V.int)) xs rs
theorem Tps.rf {K : PySem.W.Frag} {F : Addr → Prop} {H : Hp} {rs : List (List Int)} {xs : List V} (h : Tps K H rs xs) : RFs K F H (rs.map tupD) xs := by
  unfold Tps at h
  induction h with
  | nil => exact .nil
  | cons h _ ih =>
    obtain ⟨t, rfl, s⟩ := h
    exact .cons (.tup (.lo s (needT_ints _)) (.ofInts _)) ih
theorem Tps.of {K : PySem.W.Frag} {F : Addr → Prop} {H : Hp} : ∀ {ts : List PyData} {xs : List V} {rs : List (List Int)}, RFs K F H ts xs → tupsD ts = some rs → Tps K H rs xs ∧ ts = rs.map tupD ∧ ∀ r ∈ rs, r ≠ []
  | [], _, _, .nil, e => by cases e; exact ⟨.nil, rfl, fun r h => by cases h⟩
  | d :: ds, _, rs, .cons (v := v) (vs := vs) r t, e => by
    have : ∃ a as, d = .tuple (a :: as) := by
      cases d with
      | tuple ts => match ts, e with
        | a :: as, _ => exact ⟨a, as, rfl⟩
      | _ => cases e
    obtain ⟨a, as, rfl⟩ := this
    replace e : ((intsD (a :: as)).bind fun ns => (tupsD ds).map (ns :: ·)) = some rs := e
    rw [Option.bind_eq_some_iff] at e
    obtain ⟨ns, e1, e2⟩ := e
    rw [Option.map_eq_some_iff] at e2
    obtain ⟨qs, e2, rfl⟩ := e2
    obtain ⟨i1, i2, i3⟩ := Tps.of t e2
    obtain ⟨p, ys, rfl, s, r2⟩ := r.tup_inv
    obtain ⟨rfl, ed⟩ := r2.ints' e1
    refine ⟨.cons ⟨p, rfl, s⟩ i1, ?_, fun r h => ?_⟩
    · rw [List.map_cons, ← i2, ed]; rfl
    · rcases List.mem_cons.mp h with rfl | h
      · intro z
        rw [z] at ed
        cases ed
      · exact i3 r h
section
variable {K : PySem.W.Frag} {Γ : Gm} {N : List Str} {sc : Sco} {ea eb : Expr} {a b : E} {pos p p2 apos : Pos}
theorem ok_revT : Op1Ok K (rRevT K) .revT := fun s d1 d x Q r e f => by
  replace e : revTS d1 = some d := e
  unfold revTS at e
  split at e
  · cases e
    obtain ⟨a, xs, rfl, h1, q1⟩ := r.tup
    exact ⟨a, xs, rfl, h1, fun p o hp ho => f.2 p _ hp (tup_new hp ho q1.reverse)⟩
  · cases e
theorem de_revT {k : Nat} {p1 p2 p3 : Pos} (ha : DB Γ N sc ea a) : DE Γ N sc (.Subscript ea (.Slice none none (some (.UnaryOp .USub (.Constant (.int 1) k p1) p2)) p3) pos) (.op1 .revT a) :=
  de_op1 (r := fun X => rRevT X.K) (fun _ _ _ X g ta h => pe_revT h) (fun _ _ _ X g => ok_revT) ha
end
end Cd
set_option Elab.async false
set_option linter.all false
set_option maxRecDepth 100000
set_option maxHeartbeats 4000000
namespace Cd
open PySem PySem.Spec PyProof.Rows L2
section
variable {Γ : Gm} {N : List Str} {sc : Sco} {ea : Expr} {a : E} {pos p p2 p3 : Pos}
end
end Cd
set_option Elab.async false
set_option linter.all false
set_option maxRecDepth 100000
set_option maxHeartbeats 4000000
namespace PySem.W
open PySem PySem.SeqAt PyProof.Rows
section
variable {prog : Program} {w : World} {A : Around} {E : Value → Shared → Prop} {s : Shared}
end
end PySem.W
namespace Cd
open PySem PySem.Spec PyProof.Rows L2
section
variable {Γ : Gm} {N : List Str} {sc : Sco} {e ea eb ec : Expr} {a b c : E} {pos p p2 p3 : Pos}
def two (o : O1) (cf : Calls) (env : Ev) (h : Hi) (a b : E) : R Val := ((evalE cf env a h).bind unP).bind fun x h1 => ((evalE cf env b h1).bind unP).bind fun y h2 => ofO ((opf1 o (.tuple [x, y])).map Val.p) h2
/-- return None -/
theorem dsu_retN {j : Nat} : DSu Γ N sc [.Return (some (.Constant .none j p)) pos] [.ret (.lit .none)] where
  run := fun n I W X g a oe pn => (pss_cons (ps_ret (pe_non)) pss_nil).imp fun D σ H q => by
    obtain ⟨env, s, eH, hr, er, _, pr⟩ := q
    subst eH
    exact pr s .non (.refl s) rfl hr .non
  nox := fun cf env h e env' h' z => by cases z
end
end Cd
set_option Elab.async false
set_option linter.all false
set_option maxRecDepth 100000
set_option maxHeartbeats 4000000
namespace Cd
open PySem PySem.Spec PyProof.Rows L2
section
variable {Γ : Gm} {N : List Str} {sc : Sco} {e ea eb ec : Expr} {a b c : E} {o : O2} {pos p p2 p3 : Pos}
theorem chain_imp {o o' : O2} {r r' : R2} {n : Nat} {I : Inf} {W : WX} {X : Cx} (ok1 : Op2Pu X.K r o) (ok2 : Op2Pu X.K r' o') (bo : ∀ x y d, opf2 o x y = some d → ∃ k, d = .bool k)
    (ha : DP Γ N sc ea a) (hb : DP Γ N sc eb b) (hc : DP Γ N sc ec c) {σ : L2.St} {H : Hp} {Q : VK} (q : tE X.K I W (fun env h => evalE (callF Γ.fns n) env (.and_ (.op2d o a b) (.op2d o' b c)) h) (VR X.K) σ H Q) :
    tChain r r' (tP X.K I (fun env h => evalE (callF Γ.fns n) env a h)) (tP X.K I (fun env h => evalE (callF Γ.fns n) env b h)) (tP X.K I (fun env h => evalE (callF Γ.fns n) env c h)) σ H Q := by
    obtain ⟨env, s, eH, hr, er, _, pr⟩ := q
    refine ⟨env, s, eH, hr, er, ?_⟩
    replace pr : PR X.K I W s σ ((((evalE (callF Γ.fns n) env a s.h).bind unP).bind fun x h1 => ((evalE (callF Γ.fns n) env b h1).bind unP).bind fun y h2 => ofO ((opf2 o x y).map Val.p) h2).bind fun v h1 => andK (fun h2 => ((evalE (callF Γ.fns n) env b h2).bind unP).bind fun x h3 => ((evalE (callF Γ.fns n) env c h3).bind unP).bind fun y h4 => ofO ((opf2 o' x y).map Val.p) h4) v h1) (VR X.K) Q := pr
    subst eH
    rcases ha.pure (callF Γ.fns n) env s.h with ⟨v, e⟩ | e
    case inr => rw [e] at pr; exact False.elim pr
    rcases hb.pure (callF Γ.fns n) env s.h with ⟨v2, e2⟩ | e2
    case inr =>
      cases v with
      | ref m => rw [e] at pr; exact False.elim pr
      | p d1 =>
        rw [e] at pr
        simp only [R.bind_ok, unP, e2] at pr
        exact False.elim pr
    cases v with
    | ref m => rw [e] at pr; exact False.elim pr
    | p d1 =>
      cases v2 with
      | ref m =>
        rw [e] at pr
        simp only [R.bind_ok, unP, e2] at pr
        exact False.elim pr
      | p d2 =>
        rw [e] at pr
        simp only [R.bind_ok, unP, e2] at pr
        show (match evalE (callF Γ.fns n) env a s.h with
        | .ok (.p d) h' => h' = s.h ∧ ∀ x, RF X.K s.F s.H d x → _
        | _ => False)
        rw [e]
        refine ⟨rfl, fun x rx => ⟨env, s, rfl, hr, er, ?_⟩⟩
        show (match evalE (callF Γ.fns n) env b s.h with
        | .ok (.p d) h' => h' = s.h ∧ ∀ x, RF X.K s.F s.H d x → _
        | _ => False)
        rw [e2]
        refine ⟨rfl, fun y ry => ?_⟩
        cases e3 : opf2 o d1 d2 with
        | none => rw [e3] at pr; exact False.elim pr
        | some d3 =>
          rw [e3] at pr
          obtain ⟨k, rfl⟩ := bo _ _ _ e3
          refine ok1 s d1 d2 _ x y _ (.inl rx) (.inl ry) e3 fun z rz => ?_
          obtain rfl : z = .bl k := RF.bl_inv rz
          refine ⟨k, rfl, ?_⟩
          cases k with
          | false =>
            rw [if_neg (by decide)]
            exact pr s _ (.refl s) rfl hr (.bl _)
          | true =>
            rw [if_pos rfl]
            refine ⟨env, s, rfl, hr, er, ?_⟩
            show (match evalE (callF Γ.fns n) env c s.h with
            | .ok (.p d) h' => h' = s.h ∧ ∀ x, RF X.K s.F s.H d x → _
            | _ => False)
            simp only [Option.map_some, ofO_some, R.bind_ok, andK, e2, unP] at pr
            rcases hc.pure (callF Γ.fns n) env s.h with ⟨v4, e4⟩ | e4
            case inr => rw [e4] at pr; exact False.elim pr
            rw [e4] at pr ⊢
            cases v4 with
            | ref m => exact False.elim pr
            | p d4 =>
              simp only [R.bind_ok, unP] at pr
              refine ⟨rfl, fun w rw' => ?_⟩
              cases e5 : opf2 o' d2 d4 with
              | none => rw [e5] at pr; exact False.elim pr
              | some d5 =>
                rw [e5] at pr
                exact ok2 s d2 d4 d5 y w _ (.inl ry) (.inl rw') e5 fun z rz => pr s _ (.refl s) rfl hr rz
theorem boolE_op2d {o : O2} (hb : ∀ x y d, opf2 o x y = some d → ∃ k, d = .bool k) : BoolE (.op2d o a b) := fun cf env h v h' e => boolR (r := (evalE cf env a h).bind unP) (k := fun x h1 => ((evalE cf env b h1).bind unP).bind fun y h2 => ofO ((opf2 o x y).map Val.p) h2)
  (fun x h1 e => boolR (r := (evalE cf env b h1).bind unP) (k := fun y h2 => ofO ((opf2 o x y).map Val.p) h2) (fun y h2 e => bool_ofO (hb x y) e) e) e
theorem boolE_and (ha : BoolE a) (hb : BoolE b) : BoolE (.and_ a b) := fun cf env h v h' e => by
  replace e : ((evalE cf env a h).bind fun v h1 => andK (fun h2 => evalE cf env b h2) v h1) = .ok v h' := e
  generalize hr : evalE cf env a h = r at e
  cases r with
  | stuck => cases e
  | exc x h1 => cases e
  | ok v1 h1 =>
    obtain ⟨k, rfl⟩ := ha cf env h v1 h1 hr
    cases k with
    | false => cases e; exact ⟨false, rfl⟩
    | true => exact hb cf env h1 v h' e
theorem le_bool {x y d : PyData} (e : opf2 .le x y = some d) : ∃ k, d = .bool k := cmp_bool (show cmpD _ _ x y = some d from e)
theorem dt_leLe (ha : DP Γ N sc ea a) (hb : DP Γ N sc eb b) (hc : DP Γ N sc ec c) : DT Γ N sc (.Compare ea [.LtE, .LtE] [eb, ec] pos) (.val (.and_ (.op2d .le a b) (.op2d .le b c))) := fun n I W X g =>
  (pt_chain (r := rCmp X.K (fun i j => decide (i ≤ j)) fun d e => !PySem.W.dataLt e d) (r' := rCmp X.K (fun i j => decide (i ≤ j)) fun d e => !PySem.W.dataLt e d) (op_le.or (op_leG g.hu)) (op_le.or (op_leG g.hu)) (ha.run n I W X g) (hb.run n I W X g) (hc.run n I W X g) (by simp only [lastMarks]; exact nomark ec)).imp fun σ H Q q =>
    chain_imp (ok_cmp fun _ _ => rfl) (ok_cmp fun _ _ => rfl) (fun _ _ _ e => le_bool e) ha hb hc (test_imp (boolE_and (boolE_op2d fun _ _ _ e => le_bool e) (boolE_op2d fun _ _ _ e => le_bool e)) (fun _ _ => rfl) q)
end
end Cd
set_option Elab.async false
set_option linter.all false
set_option maxRecDepth 100000
set_option maxHeartbeats 4000000
namespace Cd
open PySem PySem.Spec PyProof.Rows L2
section
variable {Γ : Gm} {N : List Str} {sc : Sco} {es : List Expr} {ea : Expr} {a b : E} {pos p2 : Pos} {ts : List Tg}
end
end Cd
set_option Elab.async false
set_option linter.all false
set_option maxRecDepth 100000
set_option maxHeartbeats 4000000
namespace Cd
open PySem PySem.Spec PyProof.Rows L2
section
variable {K : PySem.W.Frag} {Γ : Gm} {N : List Str} {sc : Sco} {ea : Expr} {a : E} {pos p : Pos}
end
end Cd
set_option Elab.async false
set_option linter.all false
set_option maxRecDepth 100000
set_option maxHeartbeats 4000000
namespace Cd
open PySem PySem.Spec PyProof.Rows L2
theorem dedup_le {α : Type} [DecidableEq α] : ∀ l : List α, (dedup l).length ≤ l.length
  | [] => Nat.le_refl _
  | z :: r => by
    unfold dedup
    have := dedup_le r
    split
    · simp; omega
    · simp; omega
section
variable {Γ : Gm} {N : List Str} {sc : Sco} {ea : Expr} {a : E} {pos p p2 : Pos}
end
end Cd
set_option Elab.async false
set_option linter.all false
set_option maxRecDepth 100000
set_option maxHeartbeats 4000000
namespace Cd
open PySem PySem.Spec PyProof.Rows L2
section
variable {prog : Program} {w : World} {A : Around} {E : Value → Shared → Prop} {s : Shared} {z TI TO T i1 i2 : Addr} {fp1 fp2 : List Addr} {n1 n2 i : Nat} {P1 P2 : Nat → Value → Prop} {St1 St2 : Nat → Heap → Prop} {f : Bool} {oT : Obj}
end
section
variable {prog : Program} {w : World} {A : Around} {R : Result → Shared → Prop} {E : Value → Shared → Prop} {S I : Addr} {n : Nat} {J : Nat → Array Value → Shared → Prop} {Fi : Array Value → Shared → Prop}
end
section
variable {prog : Program} {w : World} {A : Around} {E : Value → Shared → Prop} {s : Shared} {z : Addr} {Fi : Array Value → Shared → Prop}
end
/-- H with the pairs laid at Ts, one by one -/
inductive Bt (H0 : Hp) : List (V × V) → List Addr → Hp → Prop where
  | nil : Bt H0 [] [] H0
  | snoc {its : List (V × V)} {Ts : List Addr} {H : Hp} {p : V × V} {T : Addr} : Bt H0 its Ts H → H T = none → Bt H0 (its ++ [p]) (Ts ++ [T]) (upd H T (.tup [p.1, p.2]))
theorem Bt.ext {H0 H : Hp} {its : List (V × V)} {Ts : List Addr} (b : Bt H0 its Ts H) : ∀ a o, H0 a = some o → H a = some o := by
  induction b with
  | nil => exact fun _ _ e => e
  | snoc b h ih =>
    intro a o e
    have e1 := ih a o e
    rw [upd_ne (fun q => by rw [← q, e1] at h; cases h)]
    exact e1
theorem Bt.len {H0 H : Hp} {its : List (V × V)} {Ts : List Addr} (b : Bt H0 its Ts H) : Ts.length = its.length := by
  induction b with
  | nil => rfl
  | snoc b h ih => simp [ih]
theorem SqK.ext {K : PySem.W.Frag} {k : Kd} {x : V} {xs : List V} {H H' : Hp} (h : SqK K k x xs H) (e : ∀ a o, H a = some o → H' a = some o) : SqK K k x xs H' := by
  cases k with
  | l a => exact ⟨h.1, h.2.elim (fun h => .inl (h.elim (fun h => .inl (e _ _ h)) fun ⟨o, h⟩ => .inr ⟨o, e _ _ h⟩)) fun h => .inr h⟩
  | t a => exact ⟨h.1, h.2.elim (fun h => .inl (h.elim (fun h => .inl (e _ _ h)) fun ⟨o, h⟩ => .inr ⟨o, e _ _ h⟩)) fun h => .inr h⟩
  | s y => exact h
section
variable {X : Cx} {pins : List (Addr × Obj)} {σ : L2.St} {s1 : Shared} {H1 : Hp} {z TI TO i1 i2 : Addr} {v1 v2 : Value} {xs ys : List V} {k l : Kd} {x y : V} {own1 own2 : List Addr} {T1 T2 : Addr → Nat → Heap → Prop}
end
end Cd
set_option Elab.async false
set_option linter.all false
set_option maxRecDepth 100000
set_option maxHeartbeats 4000000
namespace Cd
open PySem PySem.Spec PyProof.Rows L2
section
variable {Γ : Gm} {N : List Str} {sc : Sco} {ea eb ec : Expr} {a b c : E} {pos p p2 : Pos} {i j l : Nat} {x y z : Str}
end
section
variable {prog : Program} {w : World} {A : Around} {E : Value → Shared → Prop} {s : Shared} {κ : KeyKind}
section
variable {β : Type} {vs : List Value} {bs : List β} {enc : β → PyData} {R : Value → β → Prop}
end
end
section
variable {K : PySem.W.Frag} {Γ : Gm} {N : List Str} {sc : Sco} {ea eb : Expr} {a b : E} {pos p p2 apos : Pos}
end
end Cd
set_option Elab.async false
set_option linter.all false
set_option maxRecDepth 100000
set_option maxHeartbeats 4000000
namespace Cd
open PySem PySem.Spec PyProof.Rows L2
section
variable {Γ : Gm} {N : List Str} {sc : Sco} {ea eb ek : Expr} {a b c : E} {pos p p2 q : Pos} {i : Nat} {x : Str}
end
section
variable {prog : Program} {w : World} {A : Around} {E : Value → Shared → Prop} {s : Shared}
end
section
variable {K : PySem.W.Frag} {Γ : Gm} {N : List Str} {sc : Sco} {ea : Expr} {a : E} {pos : Pos}
end
end Cd
set_option Elab.async false
set_option linter.all false
set_option maxRecDepth 100000
set_option maxHeartbeats 4000000
namespace Cd
open PySem PySem.Spec PyProof.Rows L2
section
variable {Γ : Gm} {N : List Str} {sc : Sco} {e ea eb : Expr} {a b : E} {pos p p2 apos : Pos} {i j : Nat} {x y z : Str}
end
end Cd
set_option Elab.async false
set_option linter.all false
set_option maxRecDepth 100000
set_option maxHeartbeats 4000000
namespace Cd
open PySem PySem.Spec PyProof.Rows L2
section
variable {Γ : Gm} {N : List Str} {sc : Sco} {e ea eb ec : Expr} {a b c : E} {pos p p2 apos : Pos} {i j : Nat} {x y z : Str}
end
end Cd
set_option Elab.async false
set_option linter.all false
set_option maxRecDepth 100000
set_option maxHeartbeats 4000000
namespace Cd
open PySem PySem.Spec PyProof.Rows L2
section
variable {Γ : Gm} {N : List Str} {sc : Sco} {e ea eb ec ek : Expr} {a b c : E} {pos p p2 apos : Pos} {i j : Nat} {x y z : Str}
/-- a display of ints and what reads nothing -/
inductive LkOk (Γ : Gm) (N : List Str) (sc : Sco) : List (Option Expr) → List Expr → List (Int × PyData) → Prop
  | nil : LkOk Γ N sc [] [] []
  | cons {k : Int} {j : Nat} {q : Pos} {v : Expr} {av : E} {d : PyData} {ks : List (Option Expr)} {vs : List Expr} {r : List (Int × PyData)} (hv : DV Γ N sc v av) (hd : ∀ cf env h, evalE cf env av h = .ok (.p d) h) (t : LkOk Γ N sc ks vs r) :
      LkOk Γ N sc (some (.Constant (.int k) j q) :: ks) (v :: vs) ((k, d) :: r)
theorem LkOk.some {ks : List (Option Expr)} {vs : List Expr} {kvs : List (Int × PyData)} (h : LkOk Γ N sc ks vs kvs) : ks.all (·.isSome) = true ∧ ks.length = vs.length ∧ ks.length = kvs.length := by
  induction h with
  | nil => exact ⟨rfl, rfl, rfl⟩
  | cons hv hd t ih => exact ⟨by simp only [List.all_cons, Option.isSome_some, Bool.true_and]; exact ih.1, by simp [ih.2.1], by rw [List.length_cons, List.length_cons, ih.2.2]⟩
section
variable {K : PySem.W.Frag} {CI : CInf} {s s0 : Sx} {D : Addr} {es xs : List (Key × V)}
end
end
end Cd
set_option Elab.async false
set_option linter.all false
set_option maxRecDepth 100000
set_option maxHeartbeats 4000000
namespace Cd
open PySem PySem.Spec PyProof.Rows L2
section
variable {Γ : Gm} {N : List Str} {sc : Sco} {es : List Expr} {ea : Expr} {a b : E} {pos p2 : Pos} {ts : List Tg}
end
end Cd
set_option Elab.async false
set_option linter.all false
set_option maxRecDepth 100000
set_option maxHeartbeats 4000000
namespace Cd
open PySem PySem.Spec PyProof.Rows L2
section
variable {Γ : Gm} {N : List Str} {sc : Sco} {e ea eb ek : Expr} {a b : E} {pos p p2 apos : Pos} {i j : Nat} {x : Str}
end
end Cd
set_option Elab.async false
set_option linter.all false
set_option maxRecDepth 100000
set_option maxHeartbeats 4000000
namespace Cd
open PySem PySem.Spec PyProof.Rows L2
section
variable {K : PySem.W.Frag} {CI : CInf} {s : Sx} {n j : Nat}
end
section
variable {Γ : Gm} {N : List Str} {sc : Sco} {e ea eb ek : Expr} {a b : E} {pos p p2 apos : Pos} {i : Nat} {x : Str} {k : Key} {d : PyData}
end
end Cd
set_option Elab.async false
set_option linter.all false
set_option maxRecDepth 100000
set_option maxHeartbeats 4000000
namespace Cd
open PySem PySem.Spec PyProof.Rows L2
section
variable {K : PySem.W.Frag} {CI : CInf} {s : Sx} {n : Nat} {kvs : List (Key × Fld)} {xs : List V} {q : Key} {ts : List PyData} {p : Addr}
end
section
variable {Γ : Gm} {N : List Str} {sc : Sco} {ev ek : Expr} {a b c : E} {pos p p2 apos : Pos} {i : Nat} {x : Str} {k : Key} {d : PyData}
end
end Cd
set_option Elab.async false
set_option linter.all false
set_option maxRecDepth 100000
set_option maxHeartbeats 4000000
namespace Cd
open PySem PySem.Spec PyProof.Rows L2
/-- the pairs of a display, as they stand while it is made; B what was kept apart before -/
inductive KR (K : PySem.W.Frag) (s : Sx) : (Addr → Prop) → List (Key × Fld) → List (Key × V) → Prop
  | nil {B} : KR K s B [] []
  | p {B k d v r es} : RF K s.F s.H d v → KR K s B r es → KR K s B ((k, .p d) :: r) ((k, v) :: es)
  | l {B k ts a xs r es} : s.H a = some (.lst xs) → RFs K s.F s.H ts xs → ¬ B a → s.B a → KR K s (fun b => B b ∨ b = a) r es → KR K s B ((k, .l ts) :: r) ((k, .ref a) :: es)
section
variable {K : PySem.W.Frag} {CI : CInf} {s s' : Sx} {B : Addr → Prop} {fl : List (Key × Fld)} {es : List (Key × V)} {a : Addr}
theorem KR.keys (h : KR K s B fl es) : es.map (·.1) = fl.map (·.1) := by
  induction h with
  | nil => rfl
  | p _ _ ih => rw [List.map_cons, List.map_cons, ih]
  | l _ _ _ _ _ ih => rw [List.map_cons, List.map_cons, ih]
end
section
variable {Γ : Gm} {N : List Str} {sc : Sco} {pos p p2 : Pos} {i : Nat} {x : Str}
/-- the pairs of a display: a key that is told, a value; or a list -/
inductive KvOk (Γ : Gm) (N : List Str) (sc : Sco) : List (Option Expr) → List Expr → List (Key × Bool × E) → Prop
  | nil : KvOk Γ N sc [] [] []
  | p {z : Str} {j : Nat} {q : Pos} {v : Expr} {av : E} {ks : List (Option Expr)} {vs : List Expr} {r : List (Key × Bool × E)} (hv : DV Γ N sc v av) (t : KvOk Γ N sc ks vs r) : KvOk Γ N sc (some (.Constant (.str z) j q) :: ks) (v :: vs) ((.inr z, false, av) :: r)
  | l {z : Str} {j : Nat} {q : Pos} {v : Expr} {av : E} {ks : List (Option Expr)} {vs : List Expr} {r : List (Key × Bool × E)} (hv : DN Γ N sc v av) (t : KvOk Γ N sc ks vs r) : KvOk Γ N sc (some (.Constant (.str z) j q) :: ks) (v :: vs) ((.inr z, true, av) :: r)
theorem KvOk.some {ks : List (Option Expr)} {vs : List Expr} {kvs : List (Key × Bool × E)} (h : KvOk Γ N sc ks vs kvs) : ks.all (·.isSome) = true ∧ ks.length = vs.length ∧ ks.length = kvs.length := by
  induction h with
  | nil => exact ⟨rfl, rfl, rfl⟩
  | p _ _ ih => exact ⟨by simp only [List.all_cons, Option.isSome_some, Bool.true_and]; exact ih.1, by simp [ih.2.1], by rw [List.length_cons, List.length_cons, ih.2.2]⟩
  | l _ _ ih => exact ⟨by simp only [List.all_cons, Option.isSome_some, Bool.true_and]; exact ih.1, by simp [ih.2.1], by rw [List.length_cons, List.length_cons, ih.2.2]⟩
end
end Cd
set_option Elab.async false
set_option linter.all false
set_option maxRecDepth 100000
set_option maxHeartbeats 4000000
namespace Cd
open PySem PySem.Spec PyProof.Rows L2
section
variable {Γ : Gm} {N : List Str} {sc : Sco} {e ea eb ek : Expr} {a b : E} {pos p p2 apos : Pos} {i : Nat} {x : Str} {k : Key} {d : PyData}
end
end Cd
set_option Elab.async false
set_option linter.all false
set_option maxRecDepth 100000
set_option maxHeartbeats 4000000
namespace Cd
open PySem PySem.Spec PyProof.Rows L2
section
variable {Γ : Gm} {N : List Str} {sc : Sco} {eb : Expr} {b : E} {pos p q apos apos2 : Pos} {i j fi fc cl : Nat} {x m : Str}
end
end Cd
set_option Elab.async false
set_option linter.all false
set_option maxRecDepth 100000
set_option maxHeartbeats 4000000
namespace Cd
open PySem PySem.Spec PyProof.Rows L2
section
variable {Γ : Gm} {N : List Str} {sc : Sco} {ea eb : Expr} {a b : E} {p apos : Pos} {i j : Nat}
end
end Cd
set_option Elab.async false
set_option linter.all false
set_option maxRecDepth 100000
set_option maxHeartbeats 4000000
namespace Cd
open PySem PySem.Spec PyProof.Rows L2
def rRepr (K : PySem.W.Frag) : List V → Hp → VK → Prop := fun xs H Q => ∃ (a : Addr) (d : PyData), xs = [.ref a] ∧ Dp K H (.ref a) d ∧ d.showable = true ∧ d.hasDict = false ∧ d.depth ≤ 50 ∧ d.shown.length ≤ sizeLine ∧ Q (.str d.shown) H
theorem call_repr_d {X : Cx} (hg : X.A.guards = some []) (hu : X.A.units + 64 < cLine) : CallR X (.builtin "repr") (rRepr X.K) := by
  intro pins s σ H xs us Q I r h
  obtain ⟨a, d, rfl, hd, h1, h2, h3, h4, q⟩ := h
  obtain ⟨u, rfl, rx⟩ := vals1 r
  obtain ⟨as, rd⟩ := Dp.reads I _ _ _ hd rx
  obtain rfl : u = Value.ref a := rx
  exact repr_of_reads' rd h1 (fun e => by rw [h2] at e; cases e) hg (by omega) (fun _ _ e => e) (fun h' u tk hk => ⟨.str d.shown, H, I.kept (t' := tk) hk, ⟨u, rfl⟩, q⟩) h4
/-- a law's def, run where the guards are known: FnOk for one surrounding alone -/
structure FnA (P : Program) (w : World) (K : PySem.W.Frag) (mg : Str → Option Value) (base : Heap) (CX : CXT) (A : Around) (f : Addr) (fd : FuncData) (ps : List Str) (sp : Sp) : Prop where
  len : ∀ vs H Q E, sp vs H Q E → vs.length = ps.length
  run : ∀ (outer : List Env) (s : Shared) (H : Hp) (args : Args) (us : List Value) (vs : List V) (Q : VK) (E : XK), Env0 P w K mg base A outer s H → BindsTo s fd args (ps.zip us) → Vals vs us → sp vs H Q E →
    codeAny (model P w) A (.call (.ref f) args) (CR CX outer P w H s Q E) s
end Cd
set_option Elab.async false
set_option linter.all false
set_option maxRecDepth 100000
set_option maxHeartbeats 4000000
namespace Cd
open PySem PySem.Spec PyProof.Rows L2
section
variable {P : Program} {w : World} {K : PySem.W.Frag} {mg : Str → Option Value} {base : Heap} {I : Inf} {Γ : Gm} {n fi : Nat}
theorem call_one {x qual : Str} {st : Stmt} {f : Addr} {fd : FuncData} {N ps : List Str} {k : Nat} {A : Around} {outer : List Env} {s : Shared} {H : Hp} {args : Args} {us : List Value} {vs : List V} {Q : VK} {E : XK}
    (F : Fun K x qual st f fd) (S : FnScope N ps (defScope st)) (hr : Room (k + 1) A) (e0 : Env0 P w K mg base A outer s H) (hb : BindsTo s fd args (ps.zip us)) (rv : Vals vs us) (hl : vs.length = ps.length)
    (hbody : ∀ cdv : Value, ∃ t, PSs (cxOf (L2.CX P w) P w K mg base N qual (defScope st) f cdv A outer s H E) (defBody st) t ∧ t { nx := fun _ H' => Q .non H', rt := Q } (start N vs) H) :
    codeAny (model P w) A (.call (.ref f) args) (CR (L2.CX P w) outer P w H s Q E) s := by
  obtain ⟨oc, od, kV, doc, pm, an, cdv, ct, osl, rfl, lk, hcd⟩ := F.ex
  have KX : K.In s.heap := e0.mod.kin.keeps fun b o e => (e0.bs b o e).1
  refine codeAny_call_function hr.depth (KX _ _ lk) rfl S.co S.gen rfl (PySem.W.codeRec_of KX hcd) (hb _ _ _ _ (wpAny_newFunctionEnv_cells S.kind (fun y hy => ?_) fun env he s1 x => ?_))
  · have hy' := (List.of_mem_zip (show (y.1, y.2) ∈ ps.zip us from hy)).1
    exact (S.par y.1 hy').imp_right fun q => ⟨q, PySem.W.cellsFrom_some _ _ _ (.inl q)⟩
  · subst he
    obtain ⟨t, ht, hq⟩ := hbody cdv
    refine ⟨(e0.mod.nolimit.keeps fun b o e => (e0.bs b o e).1).keeps x.toInCall.keep, codeAny_func (wpAny_mono (ht.run [] s1 _ H _ (inv_start S hr.hd e0 hl rv x) hq) (fun fl s' hs => ?_) fun e s' hs => hs)⟩
    cases fl with
    | next =>
      obtain ⟨σ', H', J, q⟩ := hs
      exact ⟨.non, H', J.os, J.bare, J.base, J.hok, rfl, q⟩
    | ret u =>
      obtain ⟨v, σ', H', J, r, q⟩ := hs
      exact ⟨v, H', J.os, J.bare, J.base, J.hok, r, q⟩
    | _ => exact hs.elim (fun _ h => h.elim fun _ h => h.elim fun _ h => False.elim h)
/-- the law's def, called by the harness: no guards -/
theorem law_soundA {x qual : Str} {st : Stmt} {a : Addr} {fd : FuncData} {N ps : List Str} {d : FnD} {A : Around} (hg : A.guards = some []) (hr : Room (2 * (n + 1)) A) (G : GD P w K mg base I Γ n) (F : Fun K x qual st a fd) (S : FnScope N ps (defScope st)) (e : Γ.fns fi = some d) (hp : ps.length = d.np) (hns : N.length = d.ns)
    (hb : DSs Γ N (lawSco st) (defBody st) d.body) : FnA P w K mg base (L2.CX P w) A a fd ps (spF K I Γ.fns (n + 1) fi d.np) where
  len := fun vs H Q E ⟨s, args, _, _, r, hl, _⟩ => by rw [← r.length, hl, hp]
  run := fun outer s0 H args' us vs Q E e0 hbi rv ⟨s, args, eH, hR, r, hl, h⟩ => by
    refine call_one (k := 2 * n + 1) F S hr e0 hbi rv (by rw [← r.length, hl, hp]) fun cdv => ?_
    refine ⟨_, hb n I _ _ (gx_ofL hg G S.nd (hr.deeper _)), startE d args, s, eH, hR, er_start hns r, trivial, ?_⟩
    have h' : (match finF s.h.length (evalSs (callF Γ.fns n) d.body (startE d args) s.h) with
      | .ok v h' => ∀ s' x, Le s s' → s'.h = h' → HR K I.ci s' → VR K s' v x → Q x s'.H
      | .exc e h' => ∀ s' cls d, Le s s' → s'.h = h' → HR K I.ci s' → XR K I s' e cls d → E cls d s'.H
      | .stuck => False) := by
      have h2 := h
      unfold callF at h2
      rw [e] at h2
      simp only [hl, if_true] at h2
      exact h2
    show PSt K I (fun cls d _ H => E cls d H) _ s (evalSs (callF Γ.fns n) d.body (startE d args) s.h)
    generalize evalSs (callF Γ.fns n) d.body (startE d args) s.h = rs at h' ⊢
    cases rs with
    | ok fl env1 h1 =>
      cases fl with
      | nx =>
        intro s' σ' l eh hr' er'
        subst eh
        exact h' (s'.cut s.h.length) .non (cut_le l) rfl (hr'.cut _) .non
      | bk => exact False.elim h'
      | ct => exact False.elim h'
      | rt v =>
        cases v with
        | p dd =>
          intro s' y l eh hr' rv
          subst eh
          exact h' (s'.cut s.h.length) y (cut_le l) rfl (hr'.cut _) rv
        | ref m =>
          intro s' y l eh hr' rv
          subst eh
          exact h' s' y l rfl hr' rv
    | exc e2 env1 h1 =>
      intro s' σ' cls dx l eh hr' er' xr
      subst eh
      exact h' (s'.cut s.h.length) cls dx (cut_le l) rfl (hr'.cut _) xr
    | stuck => exact h'
end
section
variable {P : Program} {w : World} {K : PySem.W.Frag} {mg mb : Str → Option Value}
/-- what the harness asks of the call -/
abbrev Told (s₁ : Shared) (r : Except Value Flow) (s' : Shared) : Prop := r = .ok (.ret (.bool true)) ∧ OldK s₁.heap s'.heap ∧ s'.os = s₁.os ∧ AllBare s'.gens
theorem law_callH {fa a : Addr} {fd : FuncData} {x : Str} {sp : Sp} {s₁ : Shared} {H : Hp} {o : Obj}
    (KX : K.In s₁.heap) (hns : s₁.heap.Ns mainGlobals mg) (hb : s₁.heap.Ns builtinsNs mb) (hbb : ∀ x : Str, x ≠ "__name__" → mb x = bootBuiltins x) (hlim : s₁.heap.NoLimit) (hg : s₁.gens = #[])
    (ha : s₁.heap.get? a = some o) (hd : ∀ es ep, o.data ≠ .dict es ep)
    (F : ∀ base : Heap, K.In base → base.Ns mainGlobals mg → FnA P w K mg base (L2.CX P w) callerA fa fd [x] sp) (hbind : ∀ (s : Shared) (u : Value), BindsTo s fd ⟨[u], []⟩ [(x, u)])
    (hsp : sp [.ref a] H (fun v _ => v = .bl true) fun _ _ _ => False) (hO : Only H) (hok : HOk P w H s₁.heap) (hA : ∀ b, H b ≠ none → b = a) (hK : H a ≠ none → K.lookup a = none) :
    codeAny (model P w) callerA (.call (.ref fa) ⟨[.ref a], []⟩) (Told s₁) s₁ := by
  have free : ∀ b, b ≠ a → H b = none := fun b n => Classical.byContradiction fun z => n (hA b z)
  have nsK : ∀ {b : Addr} {m : Str → Option Value}, s₁.heap.Ns b m → (hidT s₁.heap H).Ns b m := fun {b m} ⟨o', es, ep, e, d, r⟩ => by
    refine ⟨o', es, ep, hidT_get e (free b fun z => ?_), d, r⟩
    subst z
    rw [ha] at e
    cases e
    exact hd _ _ d
  have hKb : K.In (hidT s₁.heap H) := fun b o' e => hidT_get (KX b o' e) (by
    by_cases z : H b = none
    · exact z
    · have q := hA b z
      subst q
      rw [hK z] at e
      cases e)
  have e0 : Env0 P w K mg (hidT s₁.heap H) callerA [] s₁ H := ⟨rfl, ⟨hKb, nsK hns, ⟨mb, nsK hb, hbb⟩, let ⟨mc, h1, h2⟩ := hlim; ⟨mc, nsK h1, h2⟩⟩, fun b o e => of_hidT e, Nat.le_of_eq (hidT_size _ _), trivial, fun b hb => absurd (show b ∈ ([] : List Addr) from hb) (by simp), hok, .of_eq hg⟩
  refine codeAny_mono ((F _ hKb (nsK hns)).run [] s₁ H ⟨[.ref a], []⟩ [.ref a] [.ref a] _ _ e0 (hbind s₁ (.ref a)) (.cons rfl .nil) hsp) fun r s' h => ?_
  cases r with
  | error e =>
    obtain ⟨_, _, _, _, _, _, _, _, _, _, _, _, z⟩ := h
    exact z.elim
  | ok fl =>
    cases fl with
    | ret u =>
      obtain ⟨v, H', os, bare, un, hok', r', q⟩ := h
      obtain rfl : v = .bl true := q
      obtain rfl : u = Value.bool true := r'
      refine ⟨rfl, OldK.of_keep fun b o' e => ?_, os, bare⟩
      rcases hO b with z | ⟨ob, xs, z⟩
      · exact un.keep b o' e z (by intro y; exact absurd (show b ∈ ([] : List Addr) from y) (by simp)) (by simp)
      · have e1 := (hok b _ z).1
        rw [e] at e1
        cases e1
        exact (hok' b _ (un.frzs b _ _ z)).1
    | _ => exact False.elim h
theorem law_callA {fa a : Addr} {fd : FuncData} {x : Str} {sp : Sp} {s₁ : Shared} {vs : List Value} {ns : List Int}
    (KX : K.In s₁.heap) (hns : s₁.heap.Ns mainGlobals mg) (hb : s₁.heap.Ns builtinsNs mb) (hbb : ∀ x : Str, x ≠ "__name__" → mb x = bootBuiltins x) (hlim : s₁.heap.NoLimit) (hg : s₁.gens = #[])
    (ha : s₁.heap.get? a = some { cls := .type "list", data := .seq vs.toArray }) (hi : IntsAre vs ns) (hl : ns.length ≤ sizeLine)
    (F : ∀ base : Heap, K.In base → base.Ns mainGlobals mg → FnA P w K mg base (L2.CX P w) callerA fa fd [x] sp) (hbind : ∀ (s : Shared) (u : Value), BindsTo s fd ⟨[u], []⟩ [(x, u)])
    (hsp : ∀ H : Hp, Only H → SqL K H a (ns.map V.int) → sp [.ref a] H (fun v _ => v = .bl true) fun _ _ _ => False) :
    codeAny (model P w) callerA (.call (.ref fa) ⟨[.ref a], []⟩) (Told s₁) s₁ := by
  have nd : ∀ es ep, ({ cls := .type "list", data := .seq vs.toArray } : Obj).data ≠ .dict es ep := fun es ep z => by
    have z' : Data.seq vs.toArray _ = Data.dict es ep := z
    cases z'
  by_cases hk : K.lookup a = none
  · let o : HO := .frz { cls := .type "list", data := .seq vs.toArray } (.lst (ns.map V.int))
    have hat : ∀ b u, upd (fun _ => none) a o b = some u → b = a ∧ u = o := fun b u z => by
      by_cases e : b = a
      · subst e
        rw [upd_same] at z
        cases z
        exact ⟨rfl, rfl⟩
      · rw [upd_ne e] at z
        cases z
    have hne : ∀ b, upd (fun _ => none) a o b ≠ none → b = a := fun b z => by
      cases e : upd (fun _ => none) a o b with
      | none => exact absurd e z
      | some u => exact (hat b u e).1
    have hOn : Only (upd (fun _ => none) a o) := fun b => by
      cases e : upd (fun _ => none) a o b with
      | none => exact .inl rfl
      | some u =>
        obtain ⟨_, rfl⟩ := hat b u e
        exact .inr ⟨_, _, rfl⟩
    refine law_callH (H := upd (fun _ => none) a o) KX hns hb hbb hlim hg ha nd F hbind (hsp _ hOn (.inl (.inr ⟨_, upd_same⟩))) hOn (fun b u z => ?_) hne fun _ => hk
    obtain ⟨rfl, rfl⟩ := hat b u z
    exact ⟨ha, by rw [List.length_map]; exact hl, vs, _, vals_ints hi, ha⟩
  · obtain ⟨ob, hob⟩ := Option.ne_none_iff_exists'.mp hk
    have e := KX a ob hob
    rw [ha] at e
    cases e
    exact law_callH (H := fun _ => none) KX hns hb hbb hlim hg ha nd F hbind (hsp _ (fun _ => .inl rfl) (.inr ⟨_, vs.toArray, _, hob, rfl, rfl, rfl, by rw [List.size_toArray, hi.length]; exact hl, by simpa using vals_ints hi⟩)) (fun _ => .inl rfl) (fun b u z => by cases z) (fun b z => absurd rfl z) fun z => absurd rfl z
end
/-- THE END, for a law whose own def may ask for a text (repr): its kinds over lawSco -/
theorem walk_endG {l : PySem.W.OpenLaw} {m : Nat} {q : Program} {loose : List Str} {XP : (Str → Option Value) → Heap → Prop} {YP : World → Heap → Prop} {d : DefRec} {Γ : Gm} {fi n : Nat} {K : Params → PySem.W.Frag} (x : Str)
    (hn : l.most = some m) (hn2 : m ≤ sizeLine) (hdf : d.params.defaults = []) (hr : Room (2 * (n + 1)) callerA) (hm : ∀ ns : List Int, ns.length ≤ m → okTrue (callF Γ.fns (n + 1) fi [scriptD ns] []) = true) (hY : ∀ (w : World) (h : Heap), YP w h → (K w.params).In h)
    (F : ∀ (w : World) (mg : Str → Option Value) (fa : Addr) (h : Heap), (K w.params).In h → h.Ns mainGlobals mg → mg d.name = some (.ref fa) →
      ∃ (I : Inf) (fd : FuncData), (∀ (s : Shared) (u : Value), BindsTo s fd ⟨[u], []⟩ [(x, u)]) ∧ GS (K w.params) mg I Γ ∧ ∃ (x' qual : Str) (st : Stmt) (N : List Str) (dd : FnD), Fun (K w.params) x' qual st fa fd ∧ FnScope N [x] (defScope st) ∧ Γ.fns fi = some dd ∧ dd.np = 1 ∧ N.length = dd.ns ∧ DSs Γ N (lawSco st) (defBody st) dd.body) :
    PySem.W.WalkO q loose XP YP l.row.toRowW d [] (fun f vs => PySem.call f vs) := by
  refine Att.attach_call hn hdf fun w s₀ s₁ mg mb fa o pm cd doc a vs ns G Y ho hd hcd hmg hobj hints hlen hg => ?_
  have KX := hY w _ Y
  obtain ⟨I, fd, hb, g, x', qual, st, N, dd, hF, S, e, hp, hns, ds⟩ := F w mg fa _ KX G.T.g hmg
  refine law_callA (sp := spF (K w.params) I Γ.fns (n + 1) fi dd.np) KX G.T.g G.T.b G.T.builtins G.T.nolimit hg hobj hints (Nat.le_trans hlen hn2) (fun base _ _ => law_soundA rfl hr (gd_all g n) hF S e (by rw [hp]; rfl) hns ds) hb fun H hO hS => ?_
  rw [hp]
  exact law_sp hS (hm ns hlen)
end Cd
set_option Elab.async false
set_option linter.all false
set_option maxRecDepth 100000
set_option maxHeartbeats 4000000
namespace Cd
open PySem PySem.Spec PyProof.Rows L2
section
variable {Γ : Gm} {N : List Str} {sc : Sco} {e ea : Expr} {a : E} {pos p : Pos} {K : PySem.W.Frag}
def rReprN : List V → Hp → VK → Prop := fun xs H Q => xs = [.non] ∧ Q (.str "None") H
theorem call_repr_none {X : Cx} : CallR X (.builtin "repr") rReprN := by
  intro pins s σ H xs us Q I r h
  obtain ⟨rfl, q⟩ := h
  obtain ⟨u, rfl, rx⟩ := vals1 r
  obtain rfl : u = Value.none := rx
  exact PySem.P.repr_of_none ⟨.str "None", H, I.tok _, ⟨_, rfl⟩, q⟩
theorem ok_repr : Op1Ok K (one fun xs H Q => rRepr K xs H Q ∨ rReprN xs H Q) .repr := fun s d1 d x Q r e f => by
  replace e : reprS d1 = some d := e
  unfold reprS at e
  split at e
  · rename_i hn
    cases e
    cases d1 with
    | none => exact .inr ⟨by rw [r.non], f.1 _ (.str _)⟩
    | _ => cases hn
  split at e
  · rename_i hc
    left
    simp only [Bool.and_eq_true, Bool.not_eq_true', decide_eq_true_eq] at hc
    obtain ⟨⟨⟨⟨h0, h1⟩, h2⟩, h3⟩, h4⟩ := hc
    cases e
    have hd := r.dp
    have key : ∃ q, x = .ref q := by
      cases hd with
      | lst _ _ => exact ⟨_, rfl⟩
      | tup _ _ => exact ⟨_, rfl⟩
      | _ => cases h0
    obtain ⟨q, rfl⟩ := key
    exact ⟨q, d1, rfl, hd, h1, h2, h3, h4, f.1 _ (.str _)⟩
  · cases e
theorem de_repr (hs : sc.gd = true) (v : NB Γ sc "repr") (ha : DB Γ N sc ea a) (se : Se1 ea := by intro _; rfl) : DE Γ N sc (.Call (.Name "repr" p) [ea] [] pos) (.op1 .repr a) :=
  de_op1 (r := fun X => one fun xs H Q => rRepr X.K xs H Q ∨ rReprN xs H Q) (fun _ _ _ X g ta h => pe_bi1 g ((call_repr_d (g.gd hs) (by have := g.room.un; omega)).or call_repr_none) v (by decide +kernel) h se) (fun _ _ _ X g => ok_repr) ha
end
end Cd
set_option Elab.async false
set_option linter.all false
set_option maxRecDepth 100000
set_option maxHeartbeats 4000000
namespace Cd
open PySem PySem.Spec PyProof.Rows L2
section
variable {Γ : Gm} {N : List Str} {sc : Sco} {ea eb : Expr} {a b : E} {pos : Pos} {K : PySem.W.Frag}
end
end Cd
set_option Elab.async false
set_option linter.all false
set_option maxRecDepth 100000
set_option maxHeartbeats 4000000
namespace Cd
open PySem PySem.Spec PyProof.Rows L2
def tChain3 (r : R2) (ta tb tc td : TE) : TE := fun σ H Q => ta σ H fun x H1 => tb σ H1 fun y H2 => r x y H2 fun z H3 => ∃ k, z = .bl k ∧ (if k = true then tc σ H3 fun w H4 => r y w H4 fun z' H5 => ∃ k', z' = .bl k' ∧ (if k' = true then td σ H5 fun v H6 => r w v H6 Q else Q (.bl false) H5) else Q (.bl false) H3)
section
variable {X : Cx} {a b c d : Expr} {pos : Pos} {ta tb tc td : TE} {op : CmpOp} {r : R2}
theorem pt_chain3 (ho : OpR X (compareOp op) r) (ha : PE X a ta) (hb : PE X b tb) (hc : PE X c tc) (hd : PE X d td) (hm : lastMarks [op, op, op] [b, c, d] = false) : PT X (.Compare a [op, op, op] [b, c, d] pos) (tTest (tChain3 r ta tb tc td)) := by
  refine ⟨fun pins s σ H Q I h => ?_⟩
  refine isTrue_chain (thn (ha.run pins s σ H _ I h) fun v s1 ⟨x, H1, I1, r1, q1⟩ => test_link (thn (hb.run pins s1 σ H1 _ I1 q1) fun u s2 ⟨y, H2, I2, r2, q2⟩ =>
    thn (ho pins s2 σ H2 x y v u _ I2 r1 r2 q2) fun e1 s3 ⟨z, H3, I3, r3, k, e, q3⟩ => ?_)) hm
  subst e
  cases r3
  refine wpAny_truthy_bool ?_
  cases k with
  | false =>
    obtain ⟨k', e', q'⟩ := q3
    cases e'
    exact ite_ff ⟨H3, I3, q'⟩
  | true =>
    refine ite_tt (test_link (thn (hc.run pins s3 σ H3 _ I3 q3) fun w s4 ⟨z2, H4, I4, r4, q4⟩ => thn (ho pins s4 σ H4 y z2 u w _ I4 r2 r4 q4) fun e2 s5 ⟨z3, H5, I5, r5, k2, e, q5⟩ => ?_))
    subst e
    cases r5
    refine wpAny_truthy_bool ?_
    cases k2 with
    | false =>
      obtain ⟨k', e', q'⟩ := q5
      cases e'
      exact ite_ff ⟨H5, I5, q'⟩
    | true =>
      refine ite_tt (test_last (thn (hd.run pins s5 σ H5 _ I5 q5) fun w2 s6 ⟨z4, H6, I6, r6, q6⟩ => thn (ho pins s6 σ H6 z2 z4 w w2 _ I6 r4 r6 q6) fun e3 s7 ⟨z5, H7, I7, r7, k3, e, q7⟩ => ?_))
      subst e
      cases r7
      exact wpAny_truthy_bool ⟨H7, I7, q7⟩
end
section
variable {Γ : Gm} {N : List Str} {sc : Sco} {ea eb ec ed : Expr} {a b c d : E} {pos p : Pos} {i : Nat} {x : Str}
theorem DP.un {e : Expr} {a : E} (h : DP Γ N sc e a) (cf : Calls) (env : Ev) (hp : Hi) : (∃ v, evalE cf env a hp = .ok (.p v) hp) ∨ (evalE cf env a hp).bind unP = .stuck := by
  rcases h.pure cf env hp with ⟨v, e⟩ | e
  · cases v with
    | p v => exact .inl ⟨v, e⟩
    | ref m => exact .inr (by rw [e]; rfl)
  · exact .inr (by rw [e]; rfl)
abbrev le3 (a b c d : E) : E := .and_ (.op2d .le a b) (.and_ (.op2d .le b c) (.op2d .le c d))
variable {n : Nat} {I : Inf} {W : WX} {X : Cx}
theorem tP_ok {cf : Calls} {env : Ev} {s : Sx} {σ : L2.St} {v : PyData} {Q : VK} (e : evalE cf env a s.h = .ok (.p v) s.h) (hr : HR X.K I.ci s) (er : ER X.K s env σ) (h : ∀ x, RF X.K s.F s.H v x → Q x s.H) : tP X.K I (fun env h => evalE cf env a h) σ s.H Q :=
  ⟨env, s, rfl, hr, er, by
    show (match evalE cf env a s.h with
      | .ok (.p d) h' => h' = s.h ∧ ∀ x, RF X.K s.F s.H d x → Q x s.H
      | _ => False)
    rw [e]
    exact ⟨rfl, h⟩⟩
theorem chain3_imp {r : R2} (ok : Op2Pu X.K r .le) (ha : DP Γ N sc ea a) (hb : DP Γ N sc eb b) (hc : DP Γ N sc ec c) (hd : DP Γ N sc ed d) {σ : L2.St} {H : Hp} {Q : VK} (q : tE X.K I W (fun env h => evalE (callF Γ.fns n) env (le3 a b c d) h) (VR X.K) σ H Q) :
    tChain3 r (tP X.K I (fun env h => evalE (callF Γ.fns n) env a h)) (tP X.K I (fun env h => evalE (callF Γ.fns n) env b h)) (tP X.K I (fun env h => evalE (callF Γ.fns n) env c h)) (tP X.K I (fun env h => evalE (callF Γ.fns n) env d h)) σ H Q := by
  obtain ⟨env, s, eH, hr, er, _, pr⟩ := q
  subst eH
  replace pr : PR X.K I W s σ ((((evalE (callF Γ.fns n) env a s.h).bind unP).bind fun x h1 => ((evalE (callF Γ.fns n) env b h1).bind unP).bind fun y h2 => ofO ((opf2 .le x y).map Val.p) h2).bind fun v h1 => andK (fun h2 => (((evalE (callF Γ.fns n) env b h2).bind unP).bind fun x h1 => ((evalE (callF Γ.fns n) env c h1).bind unP).bind fun y h2 => ofO ((opf2 .le x y).map Val.p) h2).bind fun v h1 => andK (fun h2 => ((evalE (callF Γ.fns n) env c h2).bind unP).bind fun x h1 => ((evalE (callF Γ.fns n) env d h1).bind unP).bind fun y h2 => ofO ((opf2 .le x y).map Val.p) h2) v h1) v h1) (VR X.K) Q := pr
  rcases ha.un (callF Γ.fns n) env s.h with ⟨d1, e1⟩ | e1
  case inr => rw [e1] at pr; exact False.elim pr
  rcases hb.un (callF Γ.fns n) env s.h with ⟨d2, e2⟩ | e2
  case inr =>
    simp only [e1, R.bind_ok, unP, e2] at pr
    exact False.elim pr
  refine tP_ok e1 hr er fun x rx => tP_ok e2 hr er fun y ry => ?_
  cases e3 : opf2 .le d1 d2 with
  | none =>
    simp only [e1, R.bind_ok, unP, e2, e3] at pr
    exact False.elim pr
  | some d3 =>
    obtain ⟨k, rfl⟩ := le_bool e3
    simp only [e1, R.bind_ok, unP, e2, e3, Option.map_some, ofO_some] at pr
    refine ok s d1 d2 _ x y _ (.inl rx) (.inl ry) e3 fun z rz => ?_
    obtain rfl : z = .bl k := RF.bl_inv rz
    refine ⟨k, rfl, ?_⟩
    cases k with
    | false =>
      rw [if_neg (by decide)]
      exact pr s _ (.refl s) rfl hr (.bl _)
    | true =>
      rw [if_pos rfl]
      simp only [andK, e2, R.bind_ok, unP] at pr
      rcases hc.un (callF Γ.fns n) env s.h with ⟨d4, e4⟩ | e4
      case inr =>
        simp only [e4] at pr
        exact False.elim pr
      simp only [e4, R.bind_ok, unP] at pr
      refine tP_ok e4 hr er fun w rw' => ?_
      cases e5 : opf2 .le d2 d4 with
      | none =>
        simp only [e5] at pr
        exact False.elim pr
      | some d5 =>
        obtain ⟨k2, rfl⟩ := le_bool e5
        simp only [e5, Option.map_some, ofO_some, R.bind_ok] at pr
        refine ok s d2 d4 _ y w _ (.inl ry) (.inl rw') e5 fun z2 rz2 => ?_
        obtain rfl : z2 = .bl k2 := RF.bl_inv rz2
        refine ⟨k2, rfl, ?_⟩
        cases k2 with
        | false =>
          rw [if_neg (by decide)]
          exact pr s _ (.refl s) rfl hr (.bl _)
        | true =>
          rw [if_pos rfl]
          rcases hd.un (callF Γ.fns n) env s.h with ⟨d6, e6⟩ | e6
          case inr =>
            simp only [andK, e4, R.bind_ok, unP, e6] at pr
            exact False.elim pr
          simp only [andK, e4, e6, R.bind_ok, unP] at pr
          refine tP_ok e6 hr er fun w2 rw2 => ?_
          cases e7 : opf2 .le d4 d6 with
          | none =>
            simp only [e7] at pr
            exact False.elim pr
          | some d7 =>
            simp only [e7, Option.map_some, ofO_some] at pr
            exact ok s d4 d6 d7 w w2 _ (.inl rw') (.inl rw2) e7 fun z rz => pr s _ (.refl s) rfl hr rz
theorem dt_leLe3 (ha : DP Γ N sc ea a) (hb : DP Γ N sc eb b) (hc : DP Γ N sc ec c) (hd : DP Γ N sc ed d) : DT Γ N sc (.Compare ea [.LtE, .LtE, .LtE] [eb, ec, ed] pos) (.val (le3 a b c d)) := fun n I W X g =>
  (pt_chain3 (r := rCmp X.K (fun i j => decide (i ≤ j)) fun d e => !PySem.W.dataLt e d) (op_le.or (op_leG g.hu)) (ha.run n I W X g) (hb.run n I W X g) (hc.run n I W X g) (hd.run n I W X g) (by simp only [lastMarks]; exact nomark ed)).imp fun σ H Q q =>
    chain3_imp (ok_cmp fun _ _ => rfl) ha hb hc hd (test_imp (boolE_and (boolE_op2d fun _ _ _ e => le_bool e) (boolE_and (boolE_op2d fun _ _ _ e => le_bool e) (boolE_op2d fun _ _ _ e => le_bool e))) (fun _ _ => rfl) q)
end
end Cd
set_option Elab.async false
set_option linter.all false
set_option maxRecDepth 100000
set_option maxHeartbeats 4000000
namespace Cd
open PySem PySem.Spec PyProof.Rows L2
section
variable {Γ : Gm} {N : List Str} {sc : Sco} {e ea : Expr} {a : E} {pos p p2 : Pos} {i : Nat} {x : Str} {K : PySem.W.Frag}
/-- an operation that makes nothing -/
def Op1Pu (K : PySem.W.Frag) (r : V → Hp → VK → Prop) (o : O1) : Prop := ∀ (s : Sx) d1 d x (Q : VK), RB K s d1 x → opf1 o d1 = some d → (∀ z, RF K s.F s.H d z → Q z s.H) → r x s.H Q
theorem ok_bestP {f : PyData → List PyData → PyData} {g : List PyData → Option PyData} {o : O1} (ho : ∀ d, opf1 o d = (seqD d).bind g) (hg : ∀ x xs, g (x :: xs) = if maxOk (x :: xs) then some (f x xs) else none) (h0 : g [] = none) : Op1Pu K (one (rBest K f)) o := fun s d1 d x Q r e q => by
  rw [ho] at e
  have fin : ∀ {a : Addr} {xs : List V} {ts : List PyData}, (SqL K s.H a xs ∨ SqT K s.H a xs) → RFs K s.F s.H ts xs → g ts = some d → x = .ref a → one (rBest K f) x s.H Q := fun {a xs ts} hs q1 e ex => by
    subst ex
    cases ts with
    | nil => rw [h0] at e; cases e
    | cons y ys =>
      rw [hg] at e
      split at e
      · rename_i ok
        cases e
        refine ⟨a, xs, y, ys, rfl, hs, q1.dp, ok, fun i z hz e => ?_⟩
        obtain ⟨d', e1, rz⟩ := q1.get' hz
        rw [e] at e1
        cases e1
        exact q _ rz
      · cases e
  cases d1 with
  | list ts =>
    obtain ⟨a, xs, ex, h1, q1⟩ := r.lst
    exact fin (.inl h1) q1 e ex
  | tuple ts =>
    obtain ⟨a, xs, ex, h1, q1⟩ := r.tup
    exact fin (.inr h1) q1 e ex
  | _ => cases e
/-- an operation on a name's value, that makes nothing -/
theorem dp_var1 {o : O1} {r : Cx → V → Hp → VK → Prop} (vv : VOk N sc i x) (hpe : ∀ n I W X, GX Γ n I N sc W X → ∀ ta, PE X (.Name x p2) ta → PE X e (tUn (r X) ta)) (ok : ∀ X : Cx, Op1Pu X.K (r X) o) : DP Γ N sc e (.op1 o (.var i)) where
  run := fun n I W X g => (hpe n I W X g _ (vv.pe g)).imp fun σ H Q q => by
    obtain ⟨env, s, eH, hr, er, pr⟩ := q
    subst eH
    replace pr : (match (bor env s.h (.var i) (ofO (slot env i) s.h)).bind fun x h1 => ofO ((opf1 o x).map Val.p) h1 with
      | .ok (.p d) h' => h' = s.h ∧ ∀ x, RF X.K s.F s.H d x → Q x s.H
      | _ => False) := pr
    cases e : slot env i with
    | none =>
      simp only [bor, peek, lstOf, slotRef, e, Option.bind_none, Option.map_none, ofO_none, R.bind_stuck] at pr
    | some w =>
      obtain ⟨y, h1, h2⟩ := er.at_ i _ e
      refine ⟨y, h1, ?_⟩
      cases w with
      | p d =>
        simp only [bor, peek, lstOf, slotRef, e, Option.bind_none, Option.map_none, ofO_some, R.bind_ok, unP] at pr
        cases e1 : opf1 o d with
        | none => rw [e1] at pr; exact False.elim pr
        | some k =>
          rw [e1] at pr
          exact ok X s d k y Q (.inl h2) e1 fun z r => pr.2 z r
      | ref m =>
        cases e2 : listAt s.h m with
        | none =>
          simp only [bor, peek, lstOf, slotRef, e, e2, Option.bind_some, Option.map_none, ofO_some, R.bind_ok, unP, R.bind_stuck] at pr
        | some ts =>
          simp only [bor, peek, lstOf, slotRef, e, e2, Option.bind_some, Option.map_some, R.bind_ok] at pr
          obtain ⟨xs, k1, k2⟩ := hr.ob _ _ (listAt_of e2)
          obtain ⟨_, rfl⟩ := h2
          cases e1 : opf1 o (.list ts) with
          | none => rw [e1] at pr; exact False.elim pr
          | some k =>
            rw [e1] at pr
            exact ok X s _ k _ Q (.inr ⟨ts, _, xs, rfl, rfl, Rd.of k1, k2⟩) e1 fun z r => pr.2 z r
  pure := fun cf env h => by
    show (∃ v, ((bor env h (.var i) (ofO (slot env i) h)).bind fun x h1 => ofO ((opf1 o x).map Val.p) h1) = .ok v h) ∨ ((bor env h (.var i) (ofO (slot env i) h)).bind fun x h1 => ofO ((opf1 o x).map Val.p) h1) = .stuck
    have key : ∀ d, (∃ v, (ofO ((opf1 o d).map Val.p) h) = .ok v h) ∨ (ofO ((opf1 o d).map Val.p) h) = .stuck := fun d => by
      cases opf1 o d with
      | none => exact .inr rfl
      | some k => exact .inl ⟨_, rfl⟩
    unfold bor
    cases peek env h (.var i) with
    | some d => exact key d
    | none =>
      cases slot env i with
      | none => exact .inr rfl
      | some w =>
        cases w with
        | p d => exact key d
        | ref m => exact .inr rfl
theorem dp_max1 (v : NB Γ sc "max") (vv : VOk N sc i x) (se : Se1 (.Name x p2) := by intro _; rfl) : DP Γ N sc (.Call (.Name "max" p) [.Name x p2] [] pos) (.op1 .max (.var i)) :=
  dp_var1 (r := fun X => one (rBest X.K PySem.W.maxD)) vv (fun _ _ _ X g ta h => pe_bi1 g (cr_maxG g.calm g.hu) v (by decide +kernel) h se) fun X => ok_bestP (fun _ => rfl) (fun _ _ => rfl) rfl
theorem dp_min1 (v : NB Γ sc "min") (vv : VOk N sc i x) (se : Se1 (.Name x p2) := by intro _; rfl) : DP Γ N sc (.Call (.Name "min" p) [.Name x p2] [] pos) (.op1 .min (.var i)) :=
  dp_var1 (r := fun X => one (rBest X.K PySem.W.minD)) vv (fun _ _ _ X g ta h => pe_bi1 g (cr_minG g.calm g.hu) v (by decide +kernel) h se) fun X => ok_bestP (fun _ => rfl) (fun _ _ => rfl) rfl
def rStr : List V → Hp → VK → Prop := fun xs H Q => ∃ i, xs = [.int i] ∧ i.natAbs.log2 < 1920 ∧ Q (.str (toString i)) H
theorem ok_strI : Op1Ok K (one rStr) .strI := fun s d1 d x Q r e f => by
  replace e : strIS d1 = some d := e
  unfold strIS at e
  split at e
  · split at e
    · rename_i i hi
      cases e
      exact ⟨i, by rw [r.int], hi, f.1 _ (.str _)⟩
    · cases e
  · cases e
theorem de_strI (v : NB Γ sc "str") (ha : DB Γ N sc ea a) (se : Se1 ea := by intro _; rfl) : DE Γ N sc (.Call (.Name "str" p) [ea] [] pos) (.op1 .strI a) := de_op1 (fun _ _ _ X g ta h => pe_ty1 g call_str_int v (by decide +kernel) h se) (fun _ _ _ X g => ok_strI) ha
variable {eb : Expr} {b : E}
def rNotInS2 : R2 := fun x y H Q => ∃ i j, x = .str i ∧ y = .str j ∧ Q (.bl (!(!(Builtin.Str.occurrences j i 0 j.length 1).isEmpty))) H
theorem ok_notInS {K : PySem.W.Frag} : Op2Ok K rNotInS2 .notInS := fun s d1 d2 d x y Q r1 r2 e f => by
  replace e : notInSD d1 d2 = some d := e
  unfold notInSD at e
  split at e
  · cases e
    have e1 := (r1.strict (fun _ z => nomatch z)).str_inv
    have e2 := (r2.strict (fun _ z => nomatch z)).str_inv
    subst e1 e2
    exact ⟨_, _, rfl, rfl, f.1 _ (.bl _)⟩
  · cases e
theorem notInS_bool {x y d : PyData} (e : opf2 .notInS x y = some d) : ∃ b, d = .bool b := by
  replace e : notInSD x y = some d := e
  unfold notInSD at e
  split at e
  · cases e; exact ⟨_, rfl⟩
  · cases e
theorem dt_notInS (ha : DV Γ N sc ea a) (hb : DB Γ N sc eb b) (hm : behindInMarks .NotIn eb = false := by with_unfolding_all rfl) : DT Γ N sc (.Compare ea [.NotIn] [eb] pos) (.val (.op2 .notInS a b)) := dt_op2 (r := fun _ => rNotInS2) (fun _ _ _ X g ta tb h1 h2 => pt_cmpR op_notin_str h1 h2 hm) (fun _ _ _ X g => ok_notInS) (fun _ _ _ e => notInS_bool e) ha hb
end
end Cd
set_option Elab.async false
set_option linter.all false
set_option maxRecDepth 100000
set_option maxHeartbeats 4000000
namespace Cd
open PySem L2
/-- Round.__init__: 0 self, 1 chips, 2 forced, 3 first, 4 many, 5 bet -/
def b0 : List S := [.newFld 0 0 (.comp [4, 5] (.tup [(.name 4), (.name 5)]) (.zip (.var 1) (.var 2)) [] (.op2d .sub (.var 4) (.var 5))), .newFld 0 1 (.op1 .list (.var 2)), .newFld 0 2 (.op2b .rep (.lst [(.lit (.bool false))]) (.op1 .len (.var 1))), .newFld 0 3 (.op2b .rep (.lst [(.lit (.bool false))]) (.op1 .len (.var 1))), .setFld 0 4 (.op1 .max (.var 2)), .setFld 0 5 (.op2 .max2 (.op1 .max (.var 2)) (.lit (.int 1))), .setFld 0 6 (.var 3), .expr (.meth 0 2 0 [])]
def d0 : FnD := ⟨4, 6, b0⟩
/-- Round.must_act: 0 self, 1 seat -/
def b1 : List S := [.if_ (.or_ (.val (.op2b .ix (.fld 0 2) (.var 1))) (.val (.op2 .eq (.op2b .ix (.fld 0 0) (.var 1)) (.lit (.int 0))))) [.ret (.lit (.bool false))] [], .ret (.or_ (.not_ (.op2b .ix (.fld 0 3) (.var 1))) (.op2 .lt (.op2b .ix (.fld 0 1) (.var 1)) (.fld 0 4)))]
def d1 : FnD := ⟨2, 2, b1⟩
/-- Round.find_turn: 0 self, 1 many, 2 here, 3 seats, 4 asked, 5 seat -/
def b2 : List S := [.set 1 (.op1 .len (.fld 0 1)), .set 2 (.fld 0 6), .setFld 0 6 (.lit .none), .if_ (.val (.op2 .gt (.op2b .count (.fld 0 2) (.lit (.bool false))) (.lit (.int 1)))) [.set 3 (.op2d .add (.op2d .from_ (.var 2) (.var 1)) (.op1 .range (.var 2))), .set 4 (.comp [5] (.name 5) (.e (.var 3)) [(.val (.meth 0 1 0 [(.var 5)]))] (.var 5)), .if_ (.val (.var 4)) [.setFld 0 6 (.op2b .ix (.var 4) (.lit (.int 0)))] []] []]
def d2 : FnD := ⟨1, 6, b2⟩
/-- Round.turn: 0 self -/
def b3 : List S := [.ret (.fld 0 6)]
def d3 : FnD := ⟨1, 1, b3⟩
/-- Round.seat_now: 0 self -/
def b4 : List S := [.if_ (.val (.op1 .isNone (.fld 0 6))) [.raise_ 4 []] [], .ret (.fld 0 6)]
def d4 : FnD := ⟨1, 1, b4⟩
/-- Round.end_turn: 0 self, 1 seat -/
def b5 : List S := [.setIx (.fld 0 3) (.var 1) (.lit (.bool true)), .setFld 0 6 (.op2d .add (.var 1) (.lit (.int 1))), .if_ (.val (.op2 .eq (.fld 0 6) (.op1 .len (.fld 0 1)))) [.setFld 0 6 (.lit (.int 0))] [], .expr (.meth 0 2 0 [])]
def d5 : FnD := ⟨2, 2, b5⟩
/-- Round.lay: 0 self, 1 seat, 2 many -/
def b6 : List S := [.setIx (.fld 0 0) (.var 1) (.op2d .sub (.op2b .ix (.fld 0 0) (.var 1)) (.var 2)), .setIx (.fld 0 1) (.var 1) (.op2d .add (.op2b .ix (.fld 0 1) (.var 1)) (.var 2))]
def d6 : FnD := ⟨3, 3, b6⟩
/-- Round.fold: 0 self, 1 seat -/
def b7 : List S := [.set 1 (.meth 0 4 0 []), .setIx (.fld 0 2) (.var 1) (.lit (.bool true)), .expr (.meth 0 5 0 [(.var 1)])]
def d7 : FnD := ⟨1, 2, b7⟩
/-- Round.call: 0 self, 1 seat -/
def b8 : List S := [.set 1 (.meth 0 4 0 []), .expr (.meth 0 6 0 [(.var 1), (.op2 .min2 (.op2d .sub (.fld 0 4) (.op2b .ix (.fld 0 1) (.var 1))) (.op2b .ix (.fld 0 0) (.var 1)))]), .expr (.meth 0 5 0 [(.var 1)])]
/-- Round.raise_to: 0 self, 1 bet, 2 seat, 3 more -/
def b9 : List S := [.set 2 (.meth 0 4 0 []), .set 3 (.op2d .sub (.var 1) (.op2b .ix (.fld 0 1) (.var 2))), .if_ (.or_ (.val (.op2 .le (.var 1) (.fld 0 4))) (.val (.op2 .gt (.var 3) (.op2b .ix (.fld 0 0) (.var 2))))) [.raise_ 3 []] [], .if_ (.and_ (.val (.op2 .lt (.var 1) (.op2d .add (.fld 0 4) (.fld 0 5)))) (.val (.op2 .lt (.var 3) (.op2b .ix (.fld 0 0) (.var 2))))) [.raise_ 3 []] [], .setFld 0 5 (.op2 .max2 (.fld 0 5) (.op2d .sub (.var 1) (.fld 0 4))), .setFld 0 4 (.var 1), .expr (.meth 0 6 0 [(.var 2), (.var 3)]), .newFld 0 3 (.op2b .rep (.lst [(.lit (.bool false))]) (.op1 .len (.fld 0 1))), .expr (.meth 0 5 0 [(.var 2)])]
/-- Round.bets: 0 self -/
def b10 : List S := [.ret (.op1 .tuple (.fld 0 1))]
/-- _law_draw: 0 _law_script, 1 _law_town, 2 _law_many, 3 _law_k, 4 _law_cell, 5 _law_number, 6 _law_more -/
def b13 : List S := [.app (.var 1) (.lit (.int 0)), .set 3 (.op1 .len (.var 1)), .set 4 (.lit (.int 0)), .if_ (.val (.var 0)) [.set 4 (.op2b .ix (.var 0) (.op2d .mod (.var 3) (.op1 .len (.var 0))))] [], .set 5 (.op2d .mod (.op2d .add (.var 4) (.op2d .mul (.lit (.int 104729)) (.var 3))) (.lit (.int 4294967291))), .set 5 (.op2d .mod (.op2d .mul (.op2d .mod (.op2d .mul (.var 5) (.var 5)) (.lit (.int 4294967279))) (.lit (.int 48271))) (.lit (.int 4294967291))), .set 6 (.op2d .mod (.op2d .mul (.op2d .mod (.op2d .mul (.var 5) (.var 5)) (.lit (.int 4294967279))) (.lit (.int 69621))) (.lit (.int 4294967291))), .ret (.op2d .mod (.op2d .add (.op2d .mul (.op2d .fdiv (.var 5) (.lit (.int 64))) (.lit (.int 67108864))) (.op2d .fdiv (.var 6) (.lit (.int 64)))) (.var 2))]
def d13 : FnD := ⟨3, 7, b13⟩
/-- _law_pick: 0 _law_script, 1 _law_town, 2 _law_some -/
def b14 : List S := [.ret (.op2 .ix (.var 2) (.call 13 [(.var 0), (.var 1), (.op1 .len (.var 2))]))]
def d14 : FnD := ⟨3, 3, b14⟩
/-- row_top: 0 ranks, 1 k -/
def b48 : List S := [.if_ (.val (.op2 .eq (.var 0) (.lit (.tuple [(.int 14), (.int 5), (.int 4), (.int 3), (.int 2)])))) [.ret (.lit (.int 5))] [], .if_ (.val (.op2 .eq (.var 0) (.op1 .tuple (.comp [1] (.name 1) (.rng1 (.lit (.int 5))) [] (.op2d .sub (.op2b .ix (.var 0) (.lit (.int 0))) (.var 1)))))) [.ret (.op2b .ix (.var 0) (.lit (.int 0)))] [], .ret (.lit (.int 0))]
def d48 : FnD := ⟨1, 2, b48⟩
/-- grouped: 0 five, 1 often, 2 rank, 3 suit, 4 rows, 5 many -/
def b49 : List S := [.newD 1 [], .for_ (.tup [(.name 2), (.name 3)]) (.e (.var 0)) [.setKeyD 1 (.var 2) (.op2d .add (.dgetD 1 (.var 2) (.lit (.int 0))) (.lit (.int 1)))], .set 4 (.op1 .rev (.op1 .sorted (.compI 1 [2, 5] (.tup [(.name 2), (.name 5)]) [] (.tup [(.var 5), (.var 2)])))), .ret (.tup [(.op1 .tuple (.comp [5, 2] (.tup [(.name 5), (.name 2)]) (.e (.var 4)) [] (.var 2))), (.op1 .tuple (.comp [5, 2] (.tup [(.name 5), (.name 2)]) (.e (.var 4)) [] (.var 5)))])]
def d49 : FnD := ⟨1, 6, b49⟩
/-- rank_of: 0 five, 1 ranks, 2 shape, 3 top, 4 alike, 5 rank, 6 suit -/
def b50 : List S := [.unpack (.tup [(.name 1), (.name 2)]) (.call 49 [(.var 0)]), .if_ (.val (.op2 .lt (.op1 .len (.var 1)) (.lit (.int 5)))) [.ret (.tup [(.op1 (.look [([2, 1, 1, 1], 1), ([2, 2, 1], 2), ([3, 1, 1], 3), ([3, 2], 6), ([4, 1], 7)]) (.var 2)), (.var 1)])] [], .set 3 (.call 48 [(.var 1)]), .set 4 (.op2 .eq (.op1 .lenSet (.comp [5, 6] (.tup [(.name 5), (.name 6)]) (.e (.var 0)) [] (.var 6))) (.lit (.int 1))), .if_ (.and_ (.val (.op2 .gt (.var 3) (.lit (.int 0)))) (.val (.var 4))) [.ret (.tup [(.lit (.int 8)), (.tup [(.var 3)])])] [], .if_ (.val (.var 4)) [.ret (.tup [(.lit (.int 5)), (.var 1)])] [], .if_ (.val (.op2 .gt (.var 3) (.lit (.int 0)))) [.ret (.tup [(.lit (.int 4)), (.tup [(.var 3)])])] [], .ret (.tup [(.lit (.int 0)), (.var 1)])]
def d50 : FnD := ⟨1, 7, b50⟩
/-- _law_cards: 0 _law_script, 1 _law_town, 2 _law_many, 3 _law_every, 4 _law_ranks_here, 5 _law_left, 6 _law_got, 7 _law_rank, 8 _law_k, 9 _law_suit -/
def b51 : List S := [.set 3 (.tup [(.lit (.int 2)), (.lit (.int 3)), (.lit (.int 4)), (.lit (.int 5)), (.lit (.int 6)), (.lit (.int 7)), (.lit (.int 8)), (.lit (.int 9)), (.lit (.int 10)), (.lit (.int 11)), (.lit (.int 12)), (.lit (.int 13)), (.lit (.int 14))]), .set 4 (.call 14 [(.var 0), (.var 1), (.lst [(.var 3), (.var 3), (.tup [(.lit (.int 2)), (.lit (.int 3)), (.lit (.int 4)), (.lit (.int 5)), (.lit (.int 14))]), (.tup [(.lit (.int 9)), (.lit (.int 10)), (.lit (.int 11)), (.lit (.int 12)), (.lit (.int 13))]), (.tup [(.lit (.int 6)), (.lit (.int 7)), (.lit (.int 8)), (.lit (.int 9))])])]), .set2 5 6 (.mk (.lst [])) (.tup []), .for_ (.name 7) (.e (.var 4)) [.ext (.var 5) (.comp [9] (.name 9) (.e (.lit (.str ("cdhs" : Str)))) [] (.tup [(.var 7), (.var 9)]))], .for_ (.name 8) (.rng1 (.var 2)) [.set 6 (.op2d .add (.var 6) (.tup [(.pop 5 (.call 13 [(.var 0), (.var 1), (.op1 .len (.var 5))]))]))], .ret (.var 6)]
def d51 : FnD := ⟨3, 10, b51⟩
/-- _law_cards: 0 _law_script, 1 _law_town, 2 _law_many, 3 _law_every, 4 _law_ranks, 5 _law_left, 6 _law_got, 7 _law_rank, 8 _law_k, 9 _law_suit -/
def b59 : List S := [.set 3 (.tup [(.lit (.int 2)), (.lit (.int 3)), (.lit (.int 4)), (.lit (.int 5)), (.lit (.int 6)), (.lit (.int 7)), (.lit (.int 8)), (.lit (.int 9)), (.lit (.int 10)), (.lit (.int 11)), (.lit (.int 12)), (.lit (.int 13)), (.lit (.int 14))]), .set 4 (.call 14 [(.var 0), (.var 1), (.lst [(.var 3), (.var 3), (.tup [(.lit (.int 2)), (.lit (.int 3)), (.lit (.int 4)), (.lit (.int 5)), (.lit (.int 14))]), (.tup [(.lit (.int 9)), (.lit (.int 10)), (.lit (.int 11)), (.lit (.int 12)), (.lit (.int 13))]), (.tup [(.lit (.int 6)), (.lit (.int 7)), (.lit (.int 8)), (.lit (.int 9))])])]), .set2 5 6 (.mk (.lst [])) (.tup []), .for_ (.name 7) (.e (.var 4)) [.ext (.var 5) (.comp [9] (.name 9) (.e (.lit (.str ("cdhs" : Str)))) [] (.tup [(.var 7), (.var 9)]))], .for_ (.name 8) (.rng1 (.var 2)) [.set 6 (.op2d .add (.var 6) (.tup [(.pop 5 (.call 13 [(.var 0), (.var 1), (.op1 .len (.var 5))]))]))], .ret (.var 6)]
def d59 : FnD := ⟨3, 10, b59⟩
/-- ways: 0 many, 1 few, 2 found, 3 k -/
def b93 : List S := [.set 2 (.lit (.int 1)), .for_ (.name 3) (.rng1 (.var 1)) [.set 2 (.op2d .fdiv (.op2d .mul (.var 2) (.op2d .sub (.var 0) (.var 3))) (.op2d .add (.var 3) (.lit (.int 1))))], .ret (.var 2)]
def d93 : FnD := ⟨2, 4, b93⟩
/-- is_falling: 0 ranks, 1 many, 2 one, 3 two -/
def b94 : List S := [.if_ (.or_ (.not_ (.val (.isi (.var 0) .tuple))) (.val (.op2 .ne (.op1 .len (.var 0)) (.var 1)))) [.ret (.lit (.bool false))] [], .if_ (.not_ (.val (.op1 .all (.comp [2] (.name 2) (.e (.var 0)) [] (.and_ (.isi (.var 2) .int) (.and_ (.not_ (.isi (.var 2) .bool)) (.and_ (.op2d .le (.lit (.int 2)) (.var 2)) (.op2d .le (.var 2) (.lit (.int 14)))))))))) [.ret (.lit (.bool false))] [], .ret (.op1 .all (.comp [2, 3] (.tup [(.name 2), (.name 3)]) (.zip (.op3b (.slice false true) (.var 0) (.lit .none) (.op1 .neg (.lit (.int 1)))) (.op3b (.slice true false) (.var 0) (.lit (.int 1)) (.lit .none))) [] (.op2 .gt (.var 2) (.var 3))))]
def d94 : FnD := ⟨2, 4, b94⟩
/-- is_rank: 0 thing, 1 kind, 2 ranks, 3 first, 4 more, 5 one -/
def b95 : List S := [.if_ (.or_ (.not_ (.val (.isi (.var 0) .tuple))) (.or_ (.val (.op2 .ne (.op1 .len (.var 0)) (.lit (.int 2)))) (.not_ (.val (.isi (.op2b .ix (.var 0) (.lit (.int 1))) .tuple))))) [.ret (.lit (.bool false))] [], .unpack (.tup [(.name 1), (.name 2)]) (.var 0), .if_ (.or_ (.not_ (.val (.isi (.var 1) .int))) (.or_ (.val (.isi (.var 1) .bool)) (.not_ (.val (.and_ (.op2d .le (.lit (.int 0)) (.var 1)) (.op2d .le (.var 1) (.lit (.int 8)))))))) [.ret (.lit (.bool false))] [], .if_ (.val (.op2 .isIn (.var 1) (.tup [(.lit (.int 4)), (.lit (.int 8))]))) [.ret (.and_ (.call 94 [(.var 2), (.lit (.int 1))]) (.op2 .isIn (.op2b .ix (.var 2) (.lit (.int 0))) (.lit (.tuple [(.int 5), (.int 6), (.int 7), (.int 8), (.int 9), (.int 10), (.int 11), (.int 12), (.int 13), (.int 14)]))))] [], .if_ (.val (.op2 .isIn (.var 1) (.tup [(.lit (.int 0)), (.lit (.int 5))]))) [.ret (.and_ (.call 94 [(.var 2), (.lit (.int 5))]) (.op2 .eq (.call 48 [(.var 2)]) (.lit (.int 0))))] [], .unpack (.tup [(.name 3), (.name 4)]) (.op2b .ix (.lit (.tuple [(.tuple []), (.tuple [(.int 1), (.int 3)]), (.tuple [(.int 2), (.int 1)]), (.tuple [(.int 1), (.int 2)]), (.tuple []), (.tuple []), (.tuple [(.int 1), (.int 1)]), (.tuple [(.int 1), (.int 1)]), (.tuple [])])) (.var 1)), .if_ (.or_ (.not_ (.val (.call 94 [(.op3b (.slice false true) (.var 2) (.lit .none) (.var 3)), (.var 3)]))) (.not_ (.val (.call 94 [(.op3b (.slice true false) (.var 2) (.var 3) (.lit .none)), (.var 4)])))) [.ret (.lit (.bool false))] [], .ret (.not_ (.op1 .any (.comp [5] (.name 5) (.e (.op3b (.slice true false) (.var 2) (.var 3) (.lit .none))) [] (.op2 .isIn (.var 5) (.op3b (.slice false true) (.var 2) (.lit .none) (.var 3))))))]
def d95 : FnD := ⟨1, 6, b95⟩
/-- place_of_falling: 0 ranks, 1 gone, 2 found, 3 many, 4 k, 5 rank, 6 lower, 7 one -/
def b96 : List S := [.set 2 (.lit (.int 0)), .set 3 (.op1 .len (.var 0)), .for_ (.tup [(.name 4), (.name 5)]) (.enum (.var 0)) [.set 6 (.op2d .sub (.op2d .sub (.var 5) (.lit (.int 2))) (.op1 .len (.comp [7] (.name 7) (.e (.var 1)) [(.val (.op2 .lt (.var 7) (.var 5)))] (.var 7)))), .set 2 (.op2d .add (.var 2) (.call 93 [(.var 6), (.op2d .sub (.var 3) (.var 4))]))], .ret (.var 2)]
def d96 : FnD := ⟨2, 8, b96⟩
/-- place_in_kind: 0 rank, 1 kind, 2 ranks, 3 first, 4 more, 5 behind, 6 rows, 7 top, 8 row, 9 k -/
def b97 : List S := [.unpack (.tup [(.name 1), (.name 2)]) (.var 0), .if_ (.val (.op2 .isIn (.var 1) (.tup [(.lit (.int 4)), (.lit (.int 8))]))) [.ret (.op2d .sub (.op2b .ix (.var 2) (.lit (.int 0))) (.lit (.int 5)))] [], .if_ (.val (.op2 .isIn (.var 1) (.tup [(.lit (.int 0)), (.lit (.int 5))]))) [.set 6 (.op2d .add (.comp [7] (.name 7) (.rng2 (.lit (.int 6)) (.lit (.int 15))) [] (.op1 .tuple (.comp [9] (.name 9) (.rng1 (.lit (.int 5))) [] (.op2d .sub (.var 7) (.var 9))))) (.lst [(.tup [(.lit (.int 14)), (.lit (.int 5)), (.lit (.int 4)), (.lit (.int 3)), (.lit (.int 2))])])), .ret (.op2d .sub (.call 96 [(.var 2), (.tup [])]) (.op1 .len (.comp [8] (.name 8) (.e (.var 6)) [(.val (.op2 .lt (.var 8) (.var 2)))] (.var 8))))] [], .unpack (.tup [(.name 3), (.name 4)]) (.op2b .ix (.lit (.tuple [(.tuple []), (.tuple [(.int 1), (.int 3)]), (.tuple [(.int 2), (.int 1)]), (.tuple [(.int 1), (.int 2)]), (.tuple []), (.tuple []), (.tuple [(.int 1), (.int 1)]), (.tuple [(.int 1), (.int 1)]), (.tuple [])])) (.var 1)), .set 5 (.call 96 [(.op3b (.slice true false) (.var 2) (.var 3) (.lit .none)), (.op3b (.slice false true) (.var 2) (.lit .none) (.var 3))]), .ret (.op2d .add (.op2d .mul (.call 96 [(.op3b (.slice false true) (.var 2) (.lit .none) (.var 3)), (.tup [])]) (.call 93 [(.op2d .sub (.lit (.int 13)) (.var 3)), (.var 4)])) (.var 5))]
def d97 : FnD := ⟨1, 10, b97⟩
/-- place_of: 0 rank -/
def b98 : List S := [.if_ (.not_ (.val (.call 95 [(.var 0)]))) [.raise_ 2 []] [], .ret (.op2d .add (.op1 .sum (.op3b (.slice false true) (.lit (.tuple [(.int 1277), (.int 2860), (.int 858), (.int 858), (.int 10), (.int 1277), (.int 156), (.int 156), (.int 10)])) (.lit .none) (.op2d .ix (.var 0) (.lit (.int 0))))) (.call 97 [(.var 0)]))]
def d98 : FnD := ⟨1, 1, b98⟩
/-- _law_place: 0 _law_thing -/
def b164 : List S := [.try_ [.ret (.call 98 [(.var 0)])] [(2, [.ret (.lit .none)])]]
def d164 : FnD := ⟨1, 1, b164⟩
/-- _law_fits: 0 _law_kind, 1 _law_ranks, 2 _law_sizes, 3 _law_first, 4 _law_part, 5 _law_one -/
def b165 : List S := [.set 2 (.tup [(.lit (.int 5)), (.lit (.int 4)), (.lit (.int 3)), (.lit (.int 3)), (.lit (.int 1)), (.lit (.int 5)), (.lit (.int 2)), (.lit (.int 2)), (.lit (.int 1))]), .if_ (.or_ (.val (.op2 .ne (.op1 .len (.var 1)) (.op2b .ix (.var 2) (.var 0)))) (.val (.op2 .ne (.op1 .lenDict (.comp [5] (.name 5) (.e (.var 1)) [] (.tup [(.var 5), (.lit (.int 0))]))) (.op1 .len (.var 1))))) [.ret (.lit (.bool false))] [], .set 3 (.op2b .ix (.tup [(.lit (.int 5)), (.lit (.int 1)), (.lit (.int 2)), (.lit (.int 1)), (.lit (.int 1)), (.lit (.int 5)), (.lit (.int 1)), (.lit (.int 1)), (.lit (.int 1))]) (.var 0)), .for_ (.name 4) (.e (.tup [(.op3b (.slice false true) (.var 1) (.lit .none) (.var 3)), (.op3b (.slice true false) (.var 1) (.var 3) (.lit .none))])) [.if_ (.or_ (.val (.op2 .ne (.op1 .list (.var 4)) (.op1 .rev (.op1 .sorted (.var 4))))) (.and_ (.val (.var 4)) (.not_ (.val (.and_ (.op2d .le (.lit (.int 2)) (.op1 .min (.var 4))) (.and_ (.op2d .le (.op1 .min (.var 4)) (.op1 .max (.var 4))) (.op2d .le (.op1 .max (.var 4)) (.lit (.int 14))))))))) [.ret (.lit (.bool false))] []], .if_ (.val (.op2 .isIn (.var 0) (.tup [(.lit (.int 4)), (.lit (.int 8))]))) [.ret (.op2 .ge (.op2b .ix (.var 1) (.lit (.int 0))) (.lit (.int 5)))] [], .ret (.or_ (.op2 .notIn (.var 0) (.tup [(.lit (.int 0)), (.lit (.int 5))])) (.and_ (.op2 .ne (.op2d .sub (.op2b .ix (.var 1) (.lit (.int 0))) (.op2b .ix (.var 1) (.lit (.int 4)))) (.lit (.int 4))) (.op2 .ne (.op1 .tuple (.var 1)) (.tup [(.lit (.int 14)), (.lit (.int 5)), (.lit (.int 4)), (.lit (.int 3)), (.lit (.int 2))]))))]
def d165 : FnD := ⟨2, 6, b165⟩
/-- _law_bent: 0 _law_rank, 1 _law_kind, 2 _law_ranks, 3 _law_found, 4 _law_at, 5 _law_bad -/
def b166 : List S := [.unpack (.tup [(.name 1), (.name 2)]) (.var 0), .set 3 (.mk (.lst [(.tup [(.var 1)]), (.tup [(.var 1), (.var 2), (.lit (.int 1))]), (.lst [(.var 1), (.var 2)]), (.tup [(.var 1), (.op1 .list (.var 2))]), (.tup [(.lit (.bool true)), (.var 2)]), (.tup [(.lit (.int 9)), (.var 2)]), (.tup [(.op1 .neg (.lit (.int 1))), (.var 2)])])), .ext (.var 3) (.lst [(.tup [(.var 1), (.op2d .add (.var 2) (.op3b (.slice true false) (.var 2) (.op1 .neg (.lit (.int 1))) (.lit .none)))]), (.tup [(.var 1), (.op3b (.slice false true) (.var 2) (.lit .none) (.op1 .neg (.lit (.int 1))))]), (.tup [(.op1 .strI (.var 1)), (.var 2)]), (.tup [(.var 1), (.tup [])]), (.lit .none), (.tup [])]), .for_ (.name 4) (.rng1 (.op1 .len (.var 2))) [.for_ (.name 5) (.e (.tup [(.lit (.int 1)), (.lit (.int 15)), (.lit (.bool true)), (.tup [(.lit (.int 5))])])) [.app (.var 3) (.tup [(.var 1), (.op2d .add (.op2d .add (.op3b (.slice false true) (.var 2) (.lit .none) (.var 4)) (.tup [(.var 5)])) (.op3b (.slice true false) (.var 2) (.op2d .addI (.var 4) (.lit (.int 1))) (.lit .none)))])]], .ret (.freeze 3)]
def d166 : FnD := ⟨1, 6, b166⟩
/-- law: 0 _law_script, 1 _law_town, 2 _law_k, 3 _law_rank, 4 _law_kind, 5 _law_ranks, 6 _law_bad, 7 _law_other, 8 _law_drawn, 9 _law_top, 10 _law_row, 11 _law_j, 12 _law_by -/
def b167 : List S := [.set 1 (.mk (.lst [])), .for_ (.name 2) (.rng1 (.lit (.int 2))) [.set 3 (.call 50 [(.call 59 [(.var 0), (.var 1), (.lit (.int 5))])]), .unpack (.tup [(.name 4), (.name 5)]) (.var 3), .if_ (.or_ (.not_ (.val (.call 95 [(.var 3)]))) (.or_ (.val (.op1 .isNone (.call 164 [(.var 3)]))) (.not_ (.val (.call 165 [(.var 4), (.var 5)]))))) [.ret (.lit (.bool false))] [], .for_ (.name 6) (.e (.call 166 [(.var 3)])) [.if_ (.or_ (.val (.call 95 [(.var 6)])) (.and_ (.val (.op2 .notInS (.lit (.str ("[" : Str))) (.op1 .repr (.var 6)))) (.val (.op1 .notNone (.call 164 [(.var 6)]))))) [.ret (.lit (.bool false))] []], .for_ (.name 7) (.rng1 (.lit (.int 9))) [.for_ (.name 10) (.e (.tup [(.var 5), (.op1 .revT (.var 5))])) [.if_ (.val (.op2 .ne (.call 95 [(.tup [(.var 7), (.var 10)])]) (.call 165 [(.var 7), (.var 10)]))) [.ret (.lit (.bool false))] []]], .set 8 (.op1 .tuple (.comp [11] (.name 11) (.rng1 (.call 14 [(.var 0), (.var 1), (.lst [(.lit (.int 1)), (.lit (.int 2)), (.lit (.int 3)), (.lit (.int 4)), (.lit (.int 5))])])) [] (.op2d .add (.lit (.int 2)) (.call 13 [(.var 0), (.var 1), (.lit (.int 13))])))), .for_ (.name 7) (.rng1 (.lit (.int 9))) [.if_ (.val (.op2 .ne (.call 95 [(.tup [(.var 7), (.var 8)])]) (.call 165 [(.var 7), (.var 8)]))) [.ret (.lit (.bool false))] []], .for_ (.name 9) (.e (.tup [(.lit (.int 6)), (.lit (.int 14))])) [.set 10 (.op1 .tuple (.comp [12] (.name 12) (.rng1 (.lit (.int 5))) [] (.op2d .sub (.var 9) (.var 12)))), .if_ (.or_ (.val (.call 95 [(.tup [(.lit (.int 0)), (.var 10)])])) (.or_ (.val (.call 95 [(.tup [(.lit (.int 5)), (.var 10)])])) (.not_ (.val (.call 95 [(.tup [(.lit (.int 4)), (.tup [(.var 9)])])]))))) [.ret (.lit (.bool false))] []]], .ret (.and_ (.not_ (.call 95 [(.tup [(.lit (.int 4)), (.tup [(.lit (.int 4))])])])) (.and_ (.not_ (.call 95 [(.tup [(.lit (.int 8)), (.tup [(.lit (.int 2))])])])) (.not_ (.call 95 [(.tup [(.lit (.int 0)), (.tup [(.lit (.int 14)), (.lit (.int 5)), (.lit (.int 4)), (.lit (.int 3)), (.lit (.int 2))])])]))))]
def d167 : FnD := ⟨1, 13, b167⟩
end Cd
set_option Elab.async false
set_option linter.all false
set_option maxRecDepth 100000
set_option maxHeartbeats 4000000
namespace Cd
def fns : Nat → Option FnD
  | 48 => some d48
  | 49 => some d49
  | 50 => some d50
  | 93 => some d93
  | 94 => some d94
  | 95 => some d95
  | 96 => some d96
  | 97 => some d97
  | 98 => some d98
  | 13 => some d13
  | 14 => some d14
  | 59 => some d59
  | 164 => some d164
  | 165 => some d165
  | 166 => some d166
  | 167 => some d167
  | _ => none
end Cd
set_option Elab.async false
set_option linter.all false
set_option maxRecDepth 100000
set_option maxHeartbeats 4000000
namespace Cd
open PySem PySem.Spec PyProof.Rows L2
def top (i : Nat) : Stmt := PySem.Challenge.pw_cardhands_k19_whole_ranks_bent.main.body.getD i (.Pass ⟨0, 0, 0, 0⟩)
abbrev s48 : Stmt := top 6
abbrev N48 : List Str := [("ranks" : Str), ("k" : Str)]
abbrev s49 : Stmt := top 7
abbrev N49 : List Str := [("five" : Str), ("often" : Str), ("rank" : Str), ("suit" : Str), ("rows" : Str), ("many" : Str)]
abbrev s50 : Stmt := top 8
abbrev N50 : List Str := [("five" : Str), ("ranks" : Str), ("shape" : Str), ("top" : Str), ("alike" : Str), ("rank" : Str), ("suit" : Str)]
abbrev s93 : Stmt := top 13
abbrev N93 : List Str := [("many" : Str), ("few" : Str), ("found" : Str), ("k" : Str)]
abbrev s94 : Stmt := top 14
abbrev N94 : List Str := [("ranks" : Str), ("many" : Str), ("one" : Str), ("two" : Str)]
abbrev s95 : Stmt := top 15
abbrev N95 : List Str := [("thing" : Str), ("kind" : Str), ("ranks" : Str), ("first" : Str), ("more" : Str), ("one" : Str)]
abbrev s96 : Stmt := top 16
abbrev N96 : List Str := [("ranks" : Str), ("gone" : Str), ("found" : Str), ("many" : Str), ("k" : Str), ("rank" : Str), ("lower" : Str), ("one" : Str)]
abbrev s97 : Stmt := top 17
abbrev N97 : List Str := [("rank" : Str), ("kind" : Str), ("ranks" : Str), ("first" : Str), ("more" : Str), ("behind" : Str), ("rows" : Str), ("top" : Str), ("row" : Str), ("k" : Str)]
abbrev s98 : Stmt := top 18
abbrev N98 : List Str := [("rank" : Str)]
abbrev s13 : Stmt := top 20
abbrev N13 : List Str := [("_law_script" : Str), ("_law_town" : Str), ("_law_many" : Str), ("_law_k" : Str), ("_law_cell" : Str), ("_law_number" : Str), ("_law_more" : Str)]
abbrev s14 : Stmt := top 21
abbrev N14 : List Str := [("_law_script" : Str), ("_law_town" : Str), ("_law_some" : Str)]
abbrev s59 : Stmt := top 22
abbrev N59 : List Str := [("_law_script" : Str), ("_law_town" : Str), ("_law_many" : Str), ("_law_every" : Str), ("_law_ranks" : Str), ("_law_left" : Str), ("_law_got" : Str), ("_law_rank" : Str), ("_law_k" : Str), ("_law_suit" : Str)]
abbrev s164 : Stmt := top 23
abbrev N164 : List Str := [("_law_thing" : Str)]
abbrev s165 : Stmt := top 24
abbrev N165 : List Str := [("_law_kind" : Str), ("_law_ranks" : Str), ("_law_sizes" : Str), ("_law_first" : Str), ("_law_part" : Str), ("_law_one" : Str)]
abbrev s166 : Stmt := top 25
abbrev N166 : List Str := [("_law_rank" : Str), ("_law_kind" : Str), ("_law_ranks" : Str), ("_law_found" : Str), ("_law_at" : Str), ("_law_bad" : Str)]
abbrev s167 : Stmt := top 26
abbrev N167 : List Str := [("_law_script" : Str), ("_law_town" : Str), ("_law_k" : Str), ("_law_rank" : Str), ("_law_kind" : Str), ("_law_ranks" : Str), ("_law_bad" : Str), ("_law_other" : Str), ("_law_drawn" : Str), ("_law_top" : Str), ("_law_row" : Str), ("_law_j" : Str), ("_law_by" : Str)]
def Γ0 : Gm where
  fns := fns
  defs := [(("row_top" : Str), 48), (("grouped" : Str), 49), (("rank_of" : Str), 50), (("ways" : Str), 93), (("is_falling" : Str), 94), (("is_rank" : Str), 95), (("place_of_falling" : Str), 96), (("place_in_kind" : Str), 97), (("place_of" : Str), 98), (("_law_draw" : Str), 13), (("_law_pick" : Str), 14), (("_law_cards" : Str), 59), (("_law_place" : Str), 164), (("_law_fits" : Str), 165), (("_law_bent" : Str), 166)]
  nobs := [("all" : Str), ("any" : Str), ("bool" : Str), ("dict" : Str), ("enumerate" : Str), ("int" : Str), ("isinstance" : Str), ("len" : Str), ("list" : Str), ("max" : Str), ("min" : Str), ("range" : Str), ("repr" : Str), ("set" : Str), ("sorted" : Str), ("str" : Str), ("sum" : Str), ("tuple" : Str), ("zip" : Str)]
  cons := [(("LOW_ROW" : Str), (.tuple [(.int 14), (.int 5), (.int 4), (.int 3), (.int 2)])), (("ROW_TOPS" : Str), (.tuple [(.int 5), (.int 6), (.int 7), (.int 8), (.int 9), (.int 10), (.int 11), (.int 12), (.int 13), (.int 14)])), (("SIZES" : Str), (.tuple [(.int 1277), (.int 2860), (.int 858), (.int 858), (.int 10), (.int 1277), (.int 156), (.int 156), (.int 10)])), (("SHARED" : Str), (.tuple [(.tuple []), (.tuple [(.int 1), (.int 3)]), (.tuple [(.int 2), (.int 1)]), (.tuple [(.int 1), (.int 2)]), (.tuple []), (.tuple []), (.tuple [(.int 1), (.int 1)]), (.tuple [(.int 1), (.int 1)]), (.tuple [])]))]
  cls := []
  meths := []
  flds := []
  excs := [(("CardError" : Str), 0), (("BadRank" : Str), 2)]
  tabs := [(("SHAPES" : Str), [([2, 1, 1, 1], 1), ([2, 2, 1], 2), ([3, 1, 1], 3), ([3, 2], 6), ([4, 1], 7)])]
theorem ds48 : DSs Γ0 N48 (fnSco s48) (defBody s48) b48 := by exact
  (dss_cons (ds_if (dt_eq (DE.v (de_var (vo (by decide +kernel)))) (DV.b (DP.v (dp_con (go (by decide +kernel)) (.head _))))) (dss_cons (ds_ret (DP.toE dp_int))
  dss_nil) dss_nil)
  (dss_cons (ds_if (dt_eq (DE.v (de_var (vo (by decide +kernel)))) (DV.b (DE.v (de_tuple (nb (by decide +kernel)) (DV.b (DN.v (dn_comp (own := [(("k" : Str), 1)]) (di_rng1 (nb (by decide +kernel)) (DP.v dp_int)) (bo (by decide +kernel)) (dg_name (to (by decide +kernel))) dts_nil (DE.v (de_subD (DE.v (de_ixB (db_var (vo (by decide +kernel))) dp_int)) (DE.v (de_var (vo (by decide +kernel)))))) (by decide +kernel)))))))) (dss_cons (ds_ret (de_ixB (db_var (vo (by decide +kernel))) dp_int))
  dss_nil) dss_nil)
  (dss_cons (ds_ret (DP.toE dp_int))
  dss_nil)))
theorem ds49 : DSs Γ0 N49 (fnSco s49) (defBody s49) b49 := by exact
  (dss_cons (ds_newD0 (to (by decide +kernel)))
  (dss_cons (ds_for (di_e (DE.v (de_var (vo (by decide +kernel))))) (dg_tup (dgs_cons (dg_name (to (by decide +kernel))) (dgs_cons (dg_name (to (by decide +kernel))) dgs_nil))) (dss_cons (ds_setKeyD (vo (by decide +kernel)) (DE.v (de_addD (DE.v (de_dgetD (vo (by decide +kernel)) (dp_var (vo (by decide +kernel))) dp_int (fun X => ⟨rfl, rfl, rfl, rfl⟩))) (DP.v dp_int))) (dp_var (vo (by decide +kernel))))
  dss_nil))
  (dss_cons (ds_set (to (by decide +kernel)) (DN.toE (dn_rev (DV.b (DN.v (dn_sorted (nb (by decide +kernel)) (DV.b (DN.v (dn_compI (own := [(("rank" : Str), 2), (("many" : Str), 5)]) (vo (by decide +kernel)) (bo (by decide +kernel)) (dg_tup (dgs_cons (dg_name (to (by decide +kernel))) (dgs_cons (dg_name (to (by decide +kernel))) dgs_nil))) dts_nil (DE.v (de_tup (dps_cons (DE.v (de_var (vo (by decide +kernel)))) (dps_cons (DE.v (de_var (vo (by decide +kernel)))) dps_nil)))) (by decide +kernel)))))))) dat_op1))
  (dss_cons (ds_ret (de_tup (dps_cons (DE.v (de_tuple (nb (by decide +kernel)) (DV.b (DN.v (dn_comp (own := [(("many" : Str), 5), (("rank" : Str), 2)]) (di_e (DE.v (de_var (vo (by decide +kernel))))) (bo (by decide +kernel)) (dg_tup (dgs_cons (dg_name (to (by decide +kernel))) (dgs_cons (dg_name (to (by decide +kernel))) dgs_nil))) dts_nil (DE.v (de_var (vo (by decide +kernel)))) (by decide +kernel)))))) (dps_cons (DE.v (de_tuple (nb (by decide +kernel)) (DV.b (DN.v (dn_comp (own := [(("many" : Str), 5), (("rank" : Str), 2)]) (di_e (DE.v (de_var (vo (by decide +kernel))))) (bo (by decide +kernel)) (dg_tup (dgs_cons (dg_name (to (by decide +kernel))) (dgs_cons (dg_name (to (by decide +kernel))) dgs_nil))) dts_nil (DE.v (de_var (vo (by decide +kernel)))) (by decide +kernel)))))) dps_nil))))
  dss_nil))))
theorem ds50 : DSs Γ0 N50 (fnSco s50) (defBody s50) b50 := by exact
  (dss_cons (ds_unpack (dg_tup (dgs_cons (dg_name (to (by decide +kernel))) (dgs_cons (dg_name (to (by decide +kernel))) dgs_nil))) (DE.v (de_call (go (by decide +kernel)) (mo (by decide +kernel)) (das_cons (de_var (vo (by decide +kernel))) das_nil))))
  (dss_cons (ds_if (dt_lt (DE.v (de_len (nb (by decide +kernel)) (db_var (vo (by decide +kernel))))) (DV.b (DP.v dp_int))) (dss_cons (ds_ret (de_tup (dps_cons (DE.v (de_look (go (by decide +kernel)) (by decide) (db_var (vo (by decide +kernel))))) (dps_cons (DE.v (de_var (vo (by decide +kernel)))) dps_nil))))
  dss_nil) dss_nil)
  (dss_cons (ds_set (to (by decide +kernel)) (de_call (go (by decide +kernel)) (mo (by decide +kernel)) (das_cons (de_var (vo (by decide +kernel))) das_nil)))
  (dss_cons (ds_set (to (by decide +kernel)) (de_eq (DE.v (de_lenSet (nb (by decide +kernel)) (nb (by decide +kernel)) (DV.b (DN.v (dn_comp (own := [(("rank" : Str), 5), (("suit" : Str), 6)]) (di_e (DE.v (de_var (vo (by decide +kernel))))) (bo (by decide +kernel)) (dg_tup (dgs_cons (dg_name (to (by decide +kernel))) (dgs_cons (dg_name (to (by decide +kernel))) dgs_nil))) dts_nil (DE.v (de_var (vo (by decide +kernel)))) (by decide +kernel)))))) (DV.b (DP.v dp_int))))
  (dss_cons (ds_if (DW.t (dw_and (dt_gt (DE.v (de_var (vo (by decide +kernel)))) (DV.b (DP.v dp_int))) (dw_and1 (dt_val (db_var (vo (by decide +kernel))))))) (dss_cons (ds_ret (de_tup (dps_cons (DP.v dp_int) (dps_cons (DE.v (de_tup (dps_cons (DE.v (de_var (vo (by decide +kernel)))) dps_nil))) dps_nil))))
  dss_nil) dss_nil)
  (dss_cons (ds_if (dt_val (db_var (vo (by decide +kernel)))) (dss_cons (ds_ret (de_tup (dps_cons (DP.v dp_int) (dps_cons (DE.v (de_var (vo (by decide +kernel)))) dps_nil))))
  dss_nil) dss_nil)
  (dss_cons (ds_if (dt_gt (DE.v (de_var (vo (by decide +kernel)))) (DV.b (DP.v dp_int))) (dss_cons (ds_ret (de_tup (dps_cons (DP.v dp_int) (dps_cons (DE.v (de_tup (dps_cons (DE.v (de_var (vo (by decide +kernel)))) dps_nil))) dps_nil))))
  dss_nil) dss_nil)
  (dss_cons (ds_ret (de_tup (dps_cons (DP.v dp_int) (dps_cons (DE.v (de_var (vo (by decide +kernel)))) dps_nil))))
  dss_nil))))))))
theorem ds93 : DSs Γ0 N93 (fnSco s93) (defBody s93) b93 := by exact
  (dss_cons (ds_set (to (by decide +kernel)) (DP.toE dp_int))
  (dss_cons (ds_for (di_rng1 (nb (by decide +kernel)) (DE.v (de_var (vo (by decide +kernel))))) (dg_name (to (by decide +kernel))) (dss_cons (ds_set (to (by decide +kernel)) (de_divD (DE.v (de_mulD (DE.v (de_var (vo (by decide +kernel)))) (DE.v (de_subD (DE.v (de_var (vo (by decide +kernel)))) (DE.v (de_var (vo (by decide +kernel)))))))) (DE.v (de_addD (DE.v (de_var (vo (by decide +kernel)))) (DP.v dp_int)))))
  dss_nil))
  (dss_cons (ds_ret (de_var (vo (by decide +kernel))))
  dss_nil)))
theorem ds94 : DSs Γ0 N94 (fnSco s94) (defBody s94) b94 := by exact
  (dss_cons (ds_if (DW.t (dw_or (dt_not (dt_val (DV.b (DE.v (de_isi (ty := .tuple) (nb (by decide +kernel)) (nb (by decide +kernel)) (DE.v (de_var (vo (by decide +kernel)))) (by decide +kernel)))))) (dw_or1 (dt_ne (DE.v (de_len (nb (by decide +kernel)) (db_var (vo (by decide +kernel))))) (db_var (vo (by decide +kernel))))))) (dss_cons (ds_ret (DP.toE dp_bool))
  dss_nil) dss_nil)
  (dss_cons (ds_if (dt_not (dt_val (DV.b (DE.v (de_all (nb (by decide +kernel)) (DV.b (DN.v (dn_comp (own := [(("one" : Str), 2)]) (di_e (DE.v (de_var (vo (by decide +kernel))))) (bo (by decide +kernel)) (dg_name (to (by decide +kernel))) dts_nil (DE.v (de_and (de_isi (ty := .int) (nb (by decide +kernel)) (nb (by decide +kernel)) (DE.v (de_var (vo (by decide +kernel)))) (by decide +kernel)) (de_and (de_not (de_isi (ty := .bool) (nb (by decide +kernel)) (nb (by decide +kernel)) (DE.v (de_var (vo (by decide +kernel)))) (by decide +kernel))) (de_one (de_leLe dp_int (dp_var (vo (by decide +kernel))) dp_int))))) (by decide +kernel))))))))) (dss_cons (ds_ret (DP.toE dp_bool))
  dss_nil) dss_nil)
  (dss_cons (ds_ret (de_all (nb (by decide +kernel)) (DV.b (DN.v (dn_comp (own := [(("one" : Str), 2), (("two" : Str), 3)]) (di_zip (nb (by decide +kernel)) (DE.v (de_slice (db_var (vo (by decide +kernel))) do_none (do_some (dp_neg dp_int)))) (DE.v (de_slice (db_var (vo (by decide +kernel))) (do_some dp_int) do_none))) (bo (by decide +kernel)) (dg_tup (dgs_cons (dg_name (to (by decide +kernel))) (dgs_cons (dg_name (to (by decide +kernel))) dgs_nil))) dts_nil (DE.v (de_gt (DE.v (de_var (vo (by decide +kernel)))) (db_var (vo (by decide +kernel))))) (by decide +kernel))))))
  dss_nil)))
theorem ds95 : DSs Γ0 N95 (fnSco s95) (defBody s95) b95 := by exact
  (dss_cons (ds_if (DW.t (dw_or (dt_not (dt_val (DV.b (DE.v (de_isi (ty := .tuple) (nb (by decide +kernel)) (nb (by decide +kernel)) (DE.v (de_var (vo (by decide +kernel)))) (by decide +kernel)))))) (dw_or (dt_ne (DE.v (de_len (nb (by decide +kernel)) (db_var (vo (by decide +kernel))))) (DV.b (DP.v dp_int))) (dw_or1 (dt_not (dt_val (DV.b (DE.v (de_isi (ty := .tuple) (nb (by decide +kernel)) (nb (by decide +kernel)) (DE.v (de_ixB (db_var (vo (by decide +kernel))) dp_int)) (by decide +kernel)))))))))) (dss_cons (ds_ret (DP.toE dp_bool))
  dss_nil) dss_nil)
  (dss_cons (ds_unpack (dg_tup (dgs_cons (dg_name (to (by decide +kernel))) (dgs_cons (dg_name (to (by decide +kernel))) dgs_nil))) (DE.v (de_var (vo (by decide +kernel)))))
  (dss_cons (ds_if (DW.t (dw_or (dt_not (dt_val (DV.b (DE.v (de_isi (ty := .int) (nb (by decide +kernel)) (nb (by decide +kernel)) (DE.v (de_var (vo (by decide +kernel)))) (by decide +kernel)))))) (dw_or (dt_val (DV.b (DE.v (de_isi (ty := .bool) (nb (by decide +kernel)) (nb (by decide +kernel)) (DE.v (de_var (vo (by decide +kernel)))) (by decide +kernel))))) (dw_or1 (dt_not (dt_leLe dp_int (dp_var (vo (by decide +kernel))) dp_int)))))) (dss_cons (ds_ret (DP.toE dp_bool))
  dss_nil) dss_nil)
  (dss_cons (ds_if (dt_in (DE.v (de_var (vo (by decide +kernel)))) (DV.b (DE.v (de_tup (dps_cons (DP.v dp_int) (dps_cons (DP.v dp_int) dps_nil)))))) (dss_cons (ds_ret (de_and (de_call (go (by decide +kernel)) (mo (by decide +kernel)) (das_cons (de_var (vo (by decide +kernel))) (das_cons (DP.toE dp_int) das_nil))) (de_one (de_in (DE.v (de_ixB (db_var (vo (by decide +kernel))) dp_int)) (DV.b (DP.v (dp_con (go (by decide +kernel)) (.tail _ (.head _)))))))))
  dss_nil) dss_nil)
  (dss_cons (ds_if (dt_in (DE.v (de_var (vo (by decide +kernel)))) (DV.b (DE.v (de_tup (dps_cons (DP.v dp_int) (dps_cons (DP.v dp_int) dps_nil)))))) (dss_cons (ds_ret (de_and (de_call (go (by decide +kernel)) (mo (by decide +kernel)) (das_cons (de_var (vo (by decide +kernel))) (das_cons (DP.toE dp_int) das_nil))) (de_one (de_eq (DE.v (de_call (go (by decide +kernel)) (mo (by decide +kernel)) (das_cons (de_var (vo (by decide +kernel))) das_nil))) (DV.b (DP.v dp_int))))))
  dss_nil) dss_nil)
  (dss_cons (ds_unpack (dg_tup (dgs_cons (dg_name (to (by decide +kernel))) (dgs_cons (dg_name (to (by decide +kernel))) dgs_nil))) (DE.v (de_ixB (DV.b (DP.v (dp_con (go (by decide +kernel)) (.tail _ (.tail _ (.tail _ (.head _))))))) (dp_var (vo (by decide +kernel))))))
  (dss_cons (ds_if (DW.t (dw_or (dt_not (dt_val (DV.b (DE.v (de_call (go (by decide +kernel)) (mo (by decide +kernel)) (das_cons (de_slice (db_var (vo (by decide +kernel))) do_none (do_some (dp_var (vo (by decide +kernel))))) (das_cons (de_var (vo (by decide +kernel))) das_nil))))))) (dw_or1 (dt_not (dt_val (DV.b (DE.v (de_call (go (by decide +kernel)) (mo (by decide +kernel)) (das_cons (de_slice (db_var (vo (by decide +kernel))) (do_some (dp_var (vo (by decide +kernel)))) do_none) (das_cons (de_var (vo (by decide +kernel))) das_nil)))))))))) (dss_cons (ds_ret (DP.toE dp_bool))
  dss_nil) dss_nil)
  (dss_cons (ds_ret (de_not (de_any (nb (by decide +kernel)) (DV.b (DN.v (dn_comp (own := [(("one" : Str), 5)]) (di_e (DE.v (de_slice (db_var (vo (by decide +kernel))) (do_some (dp_var (vo (by decide +kernel)))) do_none))) (bo (by decide +kernel)) (dg_name (to (by decide +kernel))) dts_nil (DE.v (de_in (DE.v (de_var (vo (by decide +kernel)))) (DV.b (DE.v (de_slice (db_var (vo (by decide +kernel))) do_none (do_some (dp_var (vo (by decide +kernel))))))))) (by decide +kernel)))))))
  dss_nil))))))))
theorem ds96 : DSs Γ0 N96 (fnSco s96) (defBody s96) b96 := by exact
  (dss_cons (ds_set (to (by decide +kernel)) (DP.toE dp_int))
  (dss_cons (ds_set (to (by decide +kernel)) (de_len (nb (by decide +kernel)) (db_var (vo (by decide +kernel)))))
  (dss_cons (ds_for (di_enum (nb (by decide +kernel)) (DE.v (de_var (vo (by decide +kernel))))) (dg_tup (dgs_cons (dg_name (to (by decide +kernel))) (dgs_cons (dg_name (to (by decide +kernel))) dgs_nil))) (dss_cons (ds_set (to (by decide +kernel)) (de_subD (DE.v (de_subD (DE.v (de_var (vo (by decide +kernel)))) (DP.v dp_int))) (DE.v (de_len (nb (by decide +kernel)) (DV.b (DN.v (dn_comp (own := [(("one" : Str), 7)]) (di_e (DE.v (de_var (vo (by decide +kernel))))) (bo (by decide +kernel)) (dg_name (to (by decide +kernel))) (dts_one (dt_lt (DE.v (de_var (vo (by decide +kernel)))) (db_var (vo (by decide +kernel))))) (DE.v (de_var (vo (by decide +kernel)))) (by decide +kernel))))))))
  (dss_cons (ds_set (to (by decide +kernel)) (de_addD (DE.v (de_var (vo (by decide +kernel)))) (DE.v (de_call (go (by decide +kernel)) (mo (by decide +kernel)) (das_cons (de_var (vo (by decide +kernel))) (das_cons (de_subD (DE.v (de_var (vo (by decide +kernel)))) (DE.v (de_var (vo (by decide +kernel))))) das_nil))))))
  dss_nil)))
  (dss_cons (ds_ret (de_var (vo (by decide +kernel))))
  dss_nil))))
theorem ds97 : DSs Γ0 N97 (fnSco s97) (defBody s97) b97 := by exact
  (dss_cons (ds_unpack (dg_tup (dgs_cons (dg_name (to (by decide +kernel))) (dgs_cons (dg_name (to (by decide +kernel))) dgs_nil))) (DE.v (de_var (vo (by decide +kernel)))))
  (dss_cons (ds_if (dt_in (DE.v (de_var (vo (by decide +kernel)))) (DV.b (DE.v (de_tup (dps_cons (DP.v dp_int) (dps_cons (DP.v dp_int) dps_nil)))))) (dss_cons (ds_ret (de_subD (DE.v (de_ixB (db_var (vo (by decide +kernel))) dp_int)) (DP.v dp_int)))
  dss_nil) dss_nil)
  (dss_cons (ds_if (dt_in (DE.v (de_var (vo (by decide +kernel)))) (DV.b (DE.v (de_tup (dps_cons (DP.v dp_int) (dps_cons (DP.v dp_int) dps_nil)))))) (dss_cons (ds_set (to (by decide +kernel)) (de_addD (DN.v (dn_comp (own := [(("top" : Str), 7)]) (di_rng2 (nb (by decide +kernel)) (DP.v dp_int) (DP.v dp_int)) (bo (by decide +kernel)) (dg_name (to (by decide +kernel))) dts_nil (DE.v (de_tuple (nb (by decide +kernel)) (DV.b (DN.v (dn_comp (own := [(("k" : Str), 9)]) (di_rng1 (nb (by decide +kernel)) (DP.v dp_int)) (bo (by decide +kernel)) (dg_name (to (by decide +kernel))) dts_nil (DE.v (de_subD (DE.v (de_var (vo (by decide +kernel)))) (DE.v (de_var (vo (by decide +kernel)))))) (by decide +kernel)))))) (by decide +kernel))) (DN.v (dn_lst (dps_cons (DE.v (de_tup (dps_cons (DP.v dp_int) (dps_cons (DP.v dp_int) (dps_cons (DP.v dp_int) (dps_cons (DP.v dp_int) (dps_cons (DP.v dp_int) dps_nil))))))) dps_nil)))))
  (dss_cons (ds_ret (de_subD (DE.v (de_call (go (by decide +kernel)) (mo (by decide +kernel)) (das_cons (de_var (vo (by decide +kernel))) (das_cons (de_tup dps_nil) das_nil)))) (DE.v (de_len (nb (by decide +kernel)) (DV.b (DN.v (dn_comp (own := [(("row" : Str), 8)]) (di_e (DE.v (de_var (vo (by decide +kernel))))) (bo (by decide +kernel)) (dg_name (to (by decide +kernel))) (dts_one (dt_lt (DE.v (de_var (vo (by decide +kernel)))) (db_var (vo (by decide +kernel))))) (DE.v (de_var (vo (by decide +kernel)))) (by decide +kernel))))))))
  dss_nil)) dss_nil)
  (dss_cons (ds_unpack (dg_tup (dgs_cons (dg_name (to (by decide +kernel))) (dgs_cons (dg_name (to (by decide +kernel))) dgs_nil))) (DE.v (de_ixB (DV.b (DP.v (dp_con (go (by decide +kernel)) (.tail _ (.tail _ (.tail _ (.head _))))))) (dp_var (vo (by decide +kernel))))))
  (dss_cons (ds_set (to (by decide +kernel)) (de_call (go (by decide +kernel)) (mo (by decide +kernel)) (das_cons (de_slice (db_var (vo (by decide +kernel))) (do_some (dp_var (vo (by decide +kernel)))) do_none) (das_cons (de_slice (db_var (vo (by decide +kernel))) do_none (do_some (dp_var (vo (by decide +kernel))))) das_nil))))
  (dss_cons (ds_ret (de_addD (DE.v (de_mulD (DE.v (de_call (go (by decide +kernel)) (mo (by decide +kernel)) (das_cons (de_slice (db_var (vo (by decide +kernel))) do_none (do_some (dp_var (vo (by decide +kernel))))) (das_cons (de_tup dps_nil) das_nil)))) (DE.v (de_call (go (by decide +kernel)) (mo (by decide +kernel)) (das_cons (de_subD (DP.v dp_int) (DE.v (de_var (vo (by decide +kernel))))) (das_cons (de_var (vo (by decide +kernel))) das_nil)))))) (DE.v (de_var (vo (by decide +kernel))))))
  dss_nil))))))
theorem ds98 : DSs Γ0 N98 (fnSco s98) (defBody s98) b98 := by exact
  (dss_cons (ds_if (dt_not (dt_val (DV.b (DE.v (de_call (go (by decide +kernel)) (mo (by decide +kernel)) (das_cons (de_var (vo (by decide +kernel))) das_nil)))))) (dss_cons (ds_raise0 (go (by decide +kernel)) (mo (by decide +kernel)))
  dss_nil) dss_nil)
  (dss_cons (ds_ret (de_addD (DE.v (de_sum (nb (by decide +kernel)) (DV.b (DE.v (de_slice (DV.b (DP.v (dp_con (go (by decide +kernel)) (.tail _ (.tail _ (.head _)))))) do_none (do_some (dp_ix (dp_var (vo (by decide +kernel))) dp_int))))))) (DE.v (de_call (go (by decide +kernel)) (mo (by decide +kernel)) (das_cons (de_var (vo (by decide +kernel))) das_nil)))))
  dss_nil))
theorem ds13 : DSs Γ0 N13 (fnSco s13) (defBody s13) b13 := by exact
  (dss_cons (ds_app (vo (by decide +kernel)) (DP.v dp_int) ⟨rfl⟩)
  (dss_cons (ds_set (to (by decide +kernel)) (de_len (nb (by decide +kernel)) (db_var (vo (by decide +kernel)))))
  (dss_cons (ds_set (to (by decide +kernel)) (DP.toE dp_int))
  (dss_cons (ds_if (dt_val (db_var (vo (by decide +kernel)))) (dss_cons (ds_set (to (by decide +kernel)) (de_ixB (db_var (vo (by decide +kernel))) (dp_mod (dp_var (vo (by decide +kernel))) (dp_len1 (nb (by decide +kernel)) (vo (by decide +kernel))))))
  dss_nil) dss_nil)
  (dss_cons (ds_set (to (by decide +kernel)) (de_modD (DE.v (de_addD (DE.v (de_var (vo (by decide +kernel)))) (DE.v (de_mulD (DP.v dp_int) (DE.v (de_var (vo (by decide +kernel)))))))) (DP.v dp_int)))
  (dss_cons (ds_set (to (by decide +kernel)) (de_modD (DE.v (de_mulD (DE.v (de_modD (DE.v (de_mulD (DE.v (de_var (vo (by decide +kernel)))) (DE.v (de_var (vo (by decide +kernel)))))) (DP.v dp_int))) (DP.v dp_int))) (DP.v dp_int)))
  (dss_cons (ds_set (to (by decide +kernel)) (de_modD (DE.v (de_mulD (DE.v (de_modD (DE.v (de_mulD (DE.v (de_var (vo (by decide +kernel)))) (DE.v (de_var (vo (by decide +kernel)))))) (DP.v dp_int))) (DP.v dp_int))) (DP.v dp_int)))
  (dss_cons (ds_ret (de_modD (DE.v (de_addD (DE.v (de_mulD (DE.v (de_divD (DE.v (de_var (vo (by decide +kernel)))) (DP.v dp_int))) (DP.v dp_int))) (DE.v (de_divD (DE.v (de_var (vo (by decide +kernel)))) (DP.v dp_int))))) (DE.v (de_var (vo (by decide +kernel))))))
  dss_nil))))))))
theorem ds14 : DSs Γ0 N14 (fnSco s14) (defBody s14) b14 := by exact
  (dss_cons (ds_ret (de_ix (DE.v (de_var (vo (by decide +kernel)))) (DV.b (DE.v (de_call (go (by decide +kernel)) (mo (by decide +kernel)) (das_cons (de_var (vo (by decide +kernel))) (das_cons (de_var (vo (by decide +kernel))) (das_cons (de_len (nb (by decide +kernel)) (db_var (vo (by decide +kernel)))) das_nil))))))))
  dss_nil)
theorem ds59 : DSs Γ0 N59 (fnSco s59) (defBody s59) b59 := by exact
  (dss_cons (ds_set (to (by decide +kernel)) (de_tup (dps_cons (DP.v dp_int) (dps_cons (DP.v dp_int) (dps_cons (DP.v dp_int) (dps_cons (DP.v dp_int) (dps_cons (DP.v dp_int) (dps_cons (DP.v dp_int) (dps_cons (DP.v dp_int) (dps_cons (DP.v dp_int) (dps_cons (DP.v dp_int) (dps_cons (DP.v dp_int) (dps_cons (DP.v dp_int) (dps_cons (DP.v dp_int) (dps_cons (DP.v dp_int) dps_nil)))))))))))))))
  (dss_cons (ds_set (to (by decide +kernel)) (de_call (go (by decide +kernel)) (mo (by decide +kernel)) (das_cons (de_var (vo (by decide +kernel))) (das_cons (de_var (vo (by decide +kernel))) (das_cons (DN.toE (dn_lst (dps_cons (DE.v (de_var (vo (by decide +kernel)))) (dps_cons (DE.v (de_var (vo (by decide +kernel)))) (dps_cons (DE.v (de_tup (dps_cons (DP.v dp_int) (dps_cons (DP.v dp_int) (dps_cons (DP.v dp_int) (dps_cons (DP.v dp_int) (dps_cons (DP.v dp_int) dps_nil))))))) (dps_cons (DE.v (de_tup (dps_cons (DP.v dp_int) (dps_cons (DP.v dp_int) (dps_cons (DP.v dp_int) (dps_cons (DP.v dp_int) (dps_cons (DP.v dp_int) dps_nil))))))) (dps_cons (DE.v (de_tup (dps_cons (DP.v dp_int) (dps_cons (DP.v dp_int) (dps_cons (DP.v dp_int) (dps_cons (DP.v dp_int) dps_nil)))))) dps_nil)))))) dat_lst) das_nil)))))
  (dss_cons (ds_set2 (lo (by decide +kernel)) (lo (by decide +kernel)) (by decide) (de_mk (dn_lst dps_nil)) (de_tup dps_nil) (by rfl))
  (dss_cons (ds_for (di_e (DE.v (de_var (vo (by decide +kernel))))) (dg_name (to (by decide +kernel))) (dss_cons (ds_ext (vo (by decide +kernel)) (dn_comp (own := [(("_law_suit" : Str), 9)]) (di_e (DP.v dp_str)) (bo (by decide +kernel)) (dg_name (to (by decide +kernel))) dts_nil (DE.v (de_tup (dps_cons (DE.v (de_var (vo (by decide +kernel)))) (dps_cons (DE.v (de_var (vo (by decide +kernel)))) dps_nil)))) (by decide +kernel)) ⟨rfl⟩)
  dss_nil))
  (dss_cons (ds_for (di_rng1 (nb (by decide +kernel)) (DE.v (de_var (vo (by decide +kernel))))) (dg_name (to (by decide +kernel))) (dss_cons (ds_set (to (by decide +kernel)) (de_addD (DE.v (de_var (vo (by decide +kernel)))) (DE.v (de_tup (dps_cons (DE.v (de_pop (vo (by decide +kernel)) (DE.v (de_call (go (by decide +kernel)) (mo (by decide +kernel)) (das_cons (de_var (vo (by decide +kernel))) (das_cons (de_var (vo (by decide +kernel))) (das_cons (de_len (nb (by decide +kernel)) (db_var (vo (by decide +kernel)))) das_nil))))) ⟨rfl⟩)) dps_nil)))))
  dss_nil))
  (dss_cons (ds_ret (de_var (vo (by decide +kernel))))
  dss_nil))))))
theorem ds164 : DSs Γ0 N164 (fnSco s164) (defBody s164) b164 := by exact
  (dss_cons (ds_try (dss_cons (ds_ret (de_call (go (by decide +kernel)) (mo (by decide +kernel)) (das_cons (de_var (vo (by decide +kernel))) das_nil)))
  dss_nil) (DHs.cons (go (by decide +kernel)) (mo (by decide +kernel)) dsu_retN DHs.nil))
  dss_nil)
theorem ds165 : DSs Γ0 N165 (fnSco s165) (defBody s165) b165 := by exact
  (dss_cons (ds_set (to (by decide +kernel)) (de_tup (dps_cons (DP.v dp_int) (dps_cons (DP.v dp_int) (dps_cons (DP.v dp_int) (dps_cons (DP.v dp_int) (dps_cons (DP.v dp_int) (dps_cons (DP.v dp_int) (dps_cons (DP.v dp_int) (dps_cons (DP.v dp_int) (dps_cons (DP.v dp_int) dps_nil)))))))))))
  (dss_cons (ds_if (DW.t (dw_or (dt_ne (DE.v (de_len (nb (by decide +kernel)) (db_var (vo (by decide +kernel))))) (DV.b (DE.v (de_ixB (db_var (vo (by decide +kernel))) (dp_var (vo (by decide +kernel))))))) (dw_or1 (dt_ne (DE.v (de_lenDict (nb (by decide +kernel)) (nb (by decide +kernel)) (DV.b (DN.v (dn_comp (own := [(("_law_one" : Str), 5)]) (di_e (DE.v (de_var (vo (by decide +kernel))))) (bo (by decide +kernel)) (dg_name (to (by decide +kernel))) dts_nil (DE.v (de_tup (dps_cons (DE.v (de_var (vo (by decide +kernel)))) (dps_cons (DP.v dp_int) dps_nil)))) (by decide +kernel)))))) (DV.b (DE.v (de_len (nb (by decide +kernel)) (db_var (vo (by decide +kernel)))))))))) (dss_cons (ds_ret (DP.toE dp_bool))
  dss_nil) dss_nil)
  (dss_cons (ds_set (to (by decide +kernel)) (de_ixB (DV.b (DE.v (de_tup (dps_cons (DP.v dp_int) (dps_cons (DP.v dp_int) (dps_cons (DP.v dp_int) (dps_cons (DP.v dp_int) (dps_cons (DP.v dp_int) (dps_cons (DP.v dp_int) (dps_cons (DP.v dp_int) (dps_cons (DP.v dp_int) (dps_cons (DP.v dp_int) dps_nil)))))))))))) (dp_var (vo (by decide +kernel)))))
  (dss_cons (ds_for (di_e (DE.v (de_tup (dps_cons (DE.v (de_slice (db_var (vo (by decide +kernel))) do_none (do_some (dp_var (vo (by decide +kernel)))))) (dps_cons (DE.v (de_slice (db_var (vo (by decide +kernel))) (do_some (dp_var (vo (by decide +kernel)))) do_none)) dps_nil))))) (dg_name (to (by decide +kernel))) (dss_cons (ds_if (DW.t (dw_or (dt_ne (DN.v (dn_list (nb (by decide +kernel)) (db_var (vo (by decide +kernel))))) (DV.b (DN.v (dn_rev (DV.b (DN.v (dn_sorted (nb (by decide +kernel)) (db_var (vo (by decide +kernel)))))))))) (dw_or1 (DW.t (dw_and (dt_val (db_var (vo (by decide +kernel)))) (dw_and1 (dt_not (dt_leLe3 dp_int (dp_min1 (nb (by decide +kernel)) (vo (by decide +kernel))) (dp_max1 (nb (by decide +kernel)) (vo (by decide +kernel))) dp_int)))))))) (dss_cons (ds_ret (DP.toE dp_bool))
  dss_nil) dss_nil)
  dss_nil))
  (dss_cons (ds_if (dt_in (DE.v (de_var (vo (by decide +kernel)))) (DV.b (DE.v (de_tup (dps_cons (DP.v dp_int) (dps_cons (DP.v dp_int) dps_nil)))))) (dss_cons (ds_ret (de_ge (DE.v (de_ixB (db_var (vo (by decide +kernel))) dp_int)) (DV.b (DP.v dp_int))))
  dss_nil) dss_nil)
  (dss_cons (ds_ret (de_or (de_notIn (DE.v (de_var (vo (by decide +kernel)))) (DV.b (DE.v (de_tup (dps_cons (DP.v dp_int) (dps_cons (DP.v dp_int) dps_nil)))))) (de_one (de_and (de_ne (DE.v (de_subD (DE.v (de_ixB (db_var (vo (by decide +kernel))) dp_int)) (DE.v (de_ixB (db_var (vo (by decide +kernel))) dp_int)))) (DV.b (DP.v dp_int))) (de_one (de_ne (DE.v (de_tuple (nb (by decide +kernel)) (db_var (vo (by decide +kernel))))) (DV.b (DE.v (de_tup (dps_cons (DP.v dp_int) (dps_cons (DP.v dp_int) (dps_cons (DP.v dp_int) (dps_cons (DP.v dp_int) (dps_cons (DP.v dp_int) dps_nil))))))))))))))
  dss_nil))))))
theorem ds166 : DSs Γ0 N166 (fnSco s166) (defBody s166) b166 := by exact
  (dss_cons (ds_unpack (dg_tup (dgs_cons (dg_name (to (by decide +kernel))) (dgs_cons (dg_name (to (by decide +kernel))) dgs_nil))) (DE.v (de_var (vo (by decide +kernel)))))
  (dss_cons (ds_set (to (by decide +kernel)) (de_mk (dn_lst (dps_cons (DE.v (de_tup (dps_cons (DE.v (de_var (vo (by decide +kernel)))) dps_nil))) (dps_cons (DE.v (de_tup (dps_cons (DE.v (de_var (vo (by decide +kernel)))) (dps_cons (DE.v (de_var (vo (by decide +kernel)))) (dps_cons (DP.v dp_int) dps_nil))))) (dps_cons (DN.v (dn_lst (dps_cons (DE.v (de_var (vo (by decide +kernel)))) (dps_cons (DE.v (de_var (vo (by decide +kernel)))) dps_nil)))) (dps_cons (DE.v (de_tup (dps_cons (DE.v (de_var (vo (by decide +kernel)))) (dps_cons (DN.v (dn_list (nb (by decide +kernel)) (db_var (vo (by decide +kernel))))) dps_nil)))) (dps_cons (DE.v (de_tup (dps_cons (DP.v dp_bool) (dps_cons (DE.v (de_var (vo (by decide +kernel)))) dps_nil)))) (dps_cons (DE.v (de_tup (dps_cons (DP.v dp_int) (dps_cons (DE.v (de_var (vo (by decide +kernel)))) dps_nil)))) (dps_cons (DE.v (de_tup (dps_cons (DE.v (de_neg (DV.b (DP.v dp_int)))) (dps_cons (DE.v (de_var (vo (by decide +kernel)))) dps_nil)))) dps_nil))))))))))
  (dss_cons (ds_ext (vo (by decide +kernel)) (dn_lst (dps_cons (DE.v (de_tup (dps_cons (DE.v (de_var (vo (by decide +kernel)))) (dps_cons (DE.v (de_addD (DE.v (de_var (vo (by decide +kernel)))) (DE.v (de_slice (db_var (vo (by decide +kernel))) (do_some (dp_neg dp_int)) do_none)))) dps_nil)))) (dps_cons (DE.v (de_tup (dps_cons (DE.v (de_var (vo (by decide +kernel)))) (dps_cons (DE.v (de_slice (db_var (vo (by decide +kernel))) do_none (do_some (dp_neg dp_int)))) dps_nil)))) (dps_cons (DE.v (de_tup (dps_cons (DE.v (de_strI (nb (by decide +kernel)) (db_var (vo (by decide +kernel))))) (dps_cons (DE.v (de_var (vo (by decide +kernel)))) dps_nil)))) (dps_cons (DE.v (de_tup (dps_cons (DE.v (de_var (vo (by decide +kernel)))) (dps_cons (DE.v (de_tup dps_nil)) dps_nil)))) (dps_cons (DP.v dp_none) (dps_cons (DE.v (de_tup dps_nil)) dps_nil))))))) ⟨rfl⟩)
  (dss_cons (ds_for (di_rng1 (nb (by decide +kernel)) (DE.v (de_len (nb (by decide +kernel)) (db_var (vo (by decide +kernel)))))) (dg_name (to (by decide +kernel))) (dss_cons (ds_for (di_e (DE.v (de_tup (dps_cons (DP.v dp_int) (dps_cons (DP.v dp_int) (dps_cons (DP.v dp_bool) (dps_cons (DE.v (de_tup (dps_cons (DP.v dp_int) dps_nil))) dps_nil))))))) (dg_name (to (by decide +kernel))) (dss_cons (ds_app (vo (by decide +kernel)) (DE.v (de_tup (dps_cons (DE.v (de_var (vo (by decide +kernel)))) (dps_cons (DE.v (de_addD (DE.v (de_addD (DE.v (de_slice (db_var (vo (by decide +kernel))) do_none (do_some (dp_var (vo (by decide +kernel)))))) (DE.v (de_tup (dps_cons (DE.v (de_var (vo (by decide +kernel)))) dps_nil))))) (DE.v (de_slice (db_var (vo (by decide +kernel))) (do_some (dp_add (dp_var (vo (by decide +kernel))) dp_int)) do_none)))) dps_nil)))) ⟨rfl⟩)
  dss_nil))
  dss_nil))
  (dss_cons (ds_ret (de_freeze (vo (by decide +kernel))))
  dss_nil)))))
theorem ds167 : DSs Γ0 N167 (lawSco s167) (defBody s167) b167 := by exact
  (dss_cons (ds_set (to (by decide +kernel)) (de_mk (dn_lst dps_nil)))
  (dss_cons (ds_for (di_rng1 (nb (by decide +kernel)) (DP.v dp_int)) (dg_name (to (by decide +kernel))) (dss_cons (ds_set (to (by decide +kernel)) (de_call (go (by decide +kernel)) (mo (by decide +kernel)) (das_cons (de_call (go (by decide +kernel)) (mo (by decide +kernel)) (das_cons (de_var (vo (by decide +kernel))) (das_cons (de_var (vo (by decide +kernel))) (das_cons (DP.toE dp_int) das_nil)))) das_nil)))
  (dss_cons (ds_unpack (dg_tup (dgs_cons (dg_name (to (by decide +kernel))) (dgs_cons (dg_name (to (by decide +kernel))) dgs_nil))) (DE.v (de_var (vo (by decide +kernel)))))
  (dss_cons (ds_if (DW.t (dw_or (dt_not (dt_val (DV.b (DE.v (de_call (go (by decide +kernel)) (mo (by decide +kernel)) (das_cons (de_var (vo (by decide +kernel))) das_nil)))))) (dw_or (dt_isNone (DV.b (DE.v (de_call (go (by decide +kernel)) (mo (by decide +kernel)) (das_cons (de_var (vo (by decide +kernel))) das_nil))))) (dw_or1 (dt_not (dt_val (DV.b (DE.v (de_call (go (by decide +kernel)) (mo (by decide +kernel)) (das_cons (de_var (vo (by decide +kernel))) (das_cons (de_var (vo (by decide +kernel))) das_nil))))))))))) (dss_cons (ds_ret (DP.toE dp_bool))
  dss_nil) dss_nil)
  (dss_cons (ds_for (di_e (DE.v (de_call (go (by decide +kernel)) (mo (by decide +kernel)) (das_cons (de_var (vo (by decide +kernel))) das_nil)))) (dg_name (to (by decide +kernel))) (dss_cons (ds_if (DW.t (dw_or (dt_val (DV.b (DE.v (de_call (go (by decide +kernel)) (mo (by decide +kernel)) (das_cons (de_var (vo (by decide +kernel))) das_nil))))) (dw_or1 (DW.t (dw_and (dt_notInS (DP.v dp_str) (DV.b (DE.v (de_repr rfl (nb (by decide +kernel)) (db_var (vo (by decide +kernel))))))) (dw_and1 (dt_notNone (DV.b (DE.v (de_call (go (by decide +kernel)) (mo (by decide +kernel)) (das_cons (de_var (vo (by decide +kernel))) das_nil))))))))))) (dss_cons (ds_ret (DP.toE dp_bool))
  dss_nil) dss_nil)
  dss_nil))
  (dss_cons (ds_for (di_rng1 (nb (by decide +kernel)) (DP.v dp_int)) (dg_name (to (by decide +kernel))) (dss_cons (ds_for (di_e (DE.v (de_tup (dps_cons (DE.v (de_var (vo (by decide +kernel)))) (dps_cons (DE.v (de_revT (db_var (vo (by decide +kernel))))) dps_nil))))) (dg_name (to (by decide +kernel))) (dss_cons (ds_if (dt_ne (DE.v (de_call (go (by decide +kernel)) (mo (by decide +kernel)) (das_cons (de_tup (dps_cons (DE.v (de_var (vo (by decide +kernel)))) (dps_cons (DE.v (de_var (vo (by decide +kernel)))) dps_nil))) das_nil))) (DV.b (DE.v (de_call (go (by decide +kernel)) (mo (by decide +kernel)) (das_cons (de_var (vo (by decide +kernel))) (das_cons (de_var (vo (by decide +kernel))) das_nil)))))) (dss_cons (ds_ret (DP.toE dp_bool))
  dss_nil) dss_nil)
  dss_nil))
  dss_nil))
  (dss_cons (ds_set (to (by decide +kernel)) (de_tuple (nb (by decide +kernel)) (DV.b (DN.v (dn_comp (own := [(("_law_j" : Str), 11)]) (di_rng1 (nb (by decide +kernel)) (DE.v (de_call (go (by decide +kernel)) (mo (by decide +kernel)) (das_cons (de_var (vo (by decide +kernel))) (das_cons (de_var (vo (by decide +kernel))) (das_cons (DN.toE (dn_lst (dps_cons (DP.v dp_int) (dps_cons (DP.v dp_int) (dps_cons (DP.v dp_int) (dps_cons (DP.v dp_int) (dps_cons (DP.v dp_int) dps_nil)))))) dat_lst) das_nil)))))) (bo (by decide +kernel)) (dg_name (to (by decide +kernel))) dts_nil (DE.v (de_addD (DP.v dp_int) (DE.v (de_call (go (by decide +kernel)) (mo (by decide +kernel)) (das_cons (de_var (vo (by decide +kernel))) (das_cons (de_var (vo (by decide +kernel))) (das_cons (DP.toE dp_int) das_nil))))))) (by decide +kernel))))))
  (dss_cons (ds_for (di_rng1 (nb (by decide +kernel)) (DP.v dp_int)) (dg_name (to (by decide +kernel))) (dss_cons (ds_if (dt_ne (DE.v (de_call (go (by decide +kernel)) (mo (by decide +kernel)) (das_cons (de_tup (dps_cons (DE.v (de_var (vo (by decide +kernel)))) (dps_cons (DE.v (de_var (vo (by decide +kernel)))) dps_nil))) das_nil))) (DV.b (DE.v (de_call (go (by decide +kernel)) (mo (by decide +kernel)) (das_cons (de_var (vo (by decide +kernel))) (das_cons (de_var (vo (by decide +kernel))) das_nil)))))) (dss_cons (ds_ret (DP.toE dp_bool))
  dss_nil) dss_nil)
  dss_nil))
  (dss_cons (ds_for (di_e (DE.v (de_tup (dps_cons (DP.v dp_int) (dps_cons (DP.v dp_int) dps_nil))))) (dg_name (to (by decide +kernel))) (dss_cons (ds_set (to (by decide +kernel)) (de_tuple (nb (by decide +kernel)) (DV.b (DN.v (dn_comp (own := [(("_law_by" : Str), 12)]) (di_rng1 (nb (by decide +kernel)) (DP.v dp_int)) (bo (by decide +kernel)) (dg_name (to (by decide +kernel))) dts_nil (DE.v (de_subD (DE.v (de_var (vo (by decide +kernel)))) (DE.v (de_var (vo (by decide +kernel)))))) (by decide +kernel))))))
  (dss_cons (ds_if (DW.t (dw_or (dt_val (DV.b (DE.v (de_call (go (by decide +kernel)) (mo (by decide +kernel)) (das_cons (de_tup (dps_cons (DP.v dp_int) (dps_cons (DE.v (de_var (vo (by decide +kernel)))) dps_nil))) das_nil))))) (dw_or (dt_val (DV.b (DE.v (de_call (go (by decide +kernel)) (mo (by decide +kernel)) (das_cons (de_tup (dps_cons (DP.v dp_int) (dps_cons (DE.v (de_var (vo (by decide +kernel)))) dps_nil))) das_nil))))) (dw_or1 (dt_not (dt_val (DV.b (DE.v (de_call (go (by decide +kernel)) (mo (by decide +kernel)) (das_cons (de_tup (dps_cons (DP.v dp_int) (dps_cons (DE.v (de_tup (dps_cons (DE.v (de_var (vo (by decide +kernel)))) dps_nil))) dps_nil))) das_nil)))))))))) (dss_cons (ds_ret (DP.toE dp_bool))
  dss_nil) dss_nil)
  dss_nil)))
  dss_nil)))))))))
  (dss_cons (ds_ret (de_and (de_not (de_call (go (by decide +kernel)) (mo (by decide +kernel)) (das_cons (de_tup (dps_cons (DP.v dp_int) (dps_cons (DE.v (de_tup (dps_cons (DP.v dp_int) dps_nil))) dps_nil))) das_nil))) (de_and (de_not (de_call (go (by decide +kernel)) (mo (by decide +kernel)) (das_cons (de_tup (dps_cons (DP.v dp_int) (dps_cons (DE.v (de_tup (dps_cons (DP.v dp_int) dps_nil))) dps_nil))) das_nil))) (de_one (de_not (de_call (go (by decide +kernel)) (mo (by decide +kernel)) (das_cons (de_tup (dps_cons (DP.v dp_int) (dps_cons (DE.v (de_tup (dps_cons (DP.v dp_int) (dps_cons (DP.v dp_int) (dps_cons (DP.v dp_int) (dps_cons (DP.v dp_int) (dps_cons (DP.v dp_int) dps_nil))))))) dps_nil))) das_nil)))))))
  dss_nil)))
theorem all_mk {K : PySem.W.Frag} {h : Heap} {mg : Str → Option Value} {fa f48 f49 f50 f93 f94 f95 f96 f97 f98 f13 f14 f59 f164 f165 f166 f167 ECardError EBadRank : Addr} (X : K.In h) (G : h.Ns mainGlobals mg) (hfa : mg "law" = some (.ref fa))
    {tT0_0_0 : Tok} {tT0_0_1 : Tok} {tT0_0_2 : Tok} {tT0_0_3 : Tok} {tA0_0 : Addr} {tN0_0 : Nat} {tH0_0 : Int} {tV0_0 : Tok} {tT0_1_0 : Tok} {tT0_1_1 : Tok} {tT0_1_2 : Tok} {tA0_1 : Addr} {tN0_1 : Nat} {tH0_1 : Int} {tV0_1 : Tok} {tT0_2_0 : Tok} {tT0_2_1 : Tok} {tT0_2_2 : Tok} {tA0_2 : Addr} {tN0_2 : Nat} {tH0_2 : Int} {tV0_2 : Tok} {tT0_3_0 : Tok} {tT0_3_1 : Tok} {tA0_3 : Addr} {tN0_3 : Nat} {tH0_3 : Int} {tV0_3 : Tok} {tT0_4_0 : Tok} {tT0_4_1 : Tok} {tA0_4 : Addr} {tN0_4 : Nat} {tH0_4 : Int} {tV0_4 : Tok} {tB0 : Addr} {tM0 : Nat} {cT0_0 : Tok} {cT0_1 : Tok} {cT0_2 : Tok} {cT0_3 : Tok} {cT0_4 : Tok} {cA0 : Addr} {cN0 : Nat} {cT1_0 : Tok} {cT1_1 : Tok} {cT1_2 : Tok} {cT1_3 : Tok} {cT1_4 : Tok} {cT1_5 : Tok} {cT1_6 : Tok} {cT1_7 : Tok} {cT1_8 : Tok} {cT1_9 : Tok} {cA1 : Addr} {cN1 : Nat} {cT2_0 : Tok} {cT2_1 : Tok} {cT2_2 : Tok} {cT2_3 : Tok} {cT2_4 : Tok} {cT2_5 : Tok} {cT2_6 : Tok} {cT2_7 : Tok} {cT2_8 : Tok} {cA2 : Addr} {cN2 : Nat} {cA3_0 : Addr} {cN3_0 : Nat} {cT3_1_0 : Tok} {cT3_1_1 : Tok} {cA3_1 : Addr} {cN3_1 : Nat} {cT3_2_0 : Tok} {cT3_2_1 : Tok} {cA3_2 : Addr} {cN3_2 : Nat} {cT3_3_0 : Tok} {cT3_3_1 : Tok} {cA3_3 : Addr} {cN3_3 : Nat} {cA3_4 : Addr} {cN3_4 : Nat} {cA3_5 : Addr} {cN3_5 : Nat} {cT3_6_0 : Tok} {cT3_6_1 : Tok} {cA3_6 : Addr} {cN3_6 : Nat} {cT3_7_0 : Tok} {cT3_7_1 : Tok} {cA3_7 : Addr} {cN3_7 : Nat} {cA3_8 : Addr} {cN3_8 : Nat} {cA3 : Addr} {cN3 : Nat}
    {od48 an48 od49 an49 od50 an50 od93 an93 od94 an94 od95 an95 od96 an96 od97 an97 od98 an98 od13 an13 od14 an14 od59 an59 od164 an164 od165 an165 od166 an166 od167 an167 : Option Addr} {sl48 sl49 sl50 sl93 sl94 sl95 sl96 sl97 sl98 sl13 sl14 sl59 sl164 sl165 sl166 sl167 : Array (Option Value)} {oc48 kV48 dc48 pm48 cd48 ct48 oc49 kV49 dc49 pm49 cd49 ct49 oc50 kV50 dc50 pm50 cd50 ct50 oc93 kV93 dc93 pm93 cd93 ct93 oc94 kV94 dc94 pm94 cd94 ct94 oc95 kV95 dc95 pm95 cd95 ct95 oc96 kV96 dc96 pm96 cd96 ct96 oc97 kV97 dc97 pm97 cd97 ct97 oc98 kV98 dc98 pm98 cd98 ct98 oc13 kV13 dc13 pm13 cd13 ct13 oc14 kV14 dc14 pm14 cd14 ct14 oc59 kV59 dc59 pm59 cd59 ct59 oc164 kV164 dc164 pm164 cd164 ct164 oc165 kV165 dc165 pm165 cd165 ct165 oc166 kV166 dc166 pm166 cd166 ct166 oc167 kV167 dc167 pm167 cd167 ct167 : Value}
    (tn0 : PySem.W.nsIn K mainGlobals "SHAPES" = some (some (.ref tB0)))
    (tb0 : K.lookup tB0 = some ⟨.type "dict", none, .dict [⟨tH0_0, .ref tA0_0, .int 1 tV0_0⟩, ⟨tH0_1, .ref tA0_1, .int 2 tV0_1⟩, ⟨tH0_2, .ref tA0_2, .int 3 tV0_2⟩, ⟨tH0_3, .ref tA0_3, .int 6 tV0_3⟩, ⟨tH0_4, .ref tA0_4, .int 7 tV0_4⟩].toArray tM0, #[]⟩)
    (a48 : PySem.W.nsIn K mainGlobals "row_top" = some (some (.ref f48)))
    (i48 : PySem.W.isFn K (.ref f48) = true)
    (l48 : K.lookup f48 = some ⟨oc48, od48, .func (PySem.W.fnOf "row_top" "row_top" (defArgs s48) (defBody s48) (defScope s48) .none kV48 dc48 pm48 an48 cd48 ct48), sl48⟩)
    (c48 : PySem.W.codeIn K cd48 "row_top" = true)
    (k48 : PySem.W.keepIn K (.ref f48) = true)
    (a49 : PySem.W.nsIn K mainGlobals "grouped" = some (some (.ref f49)))
    (i49 : PySem.W.isFn K (.ref f49) = true)
    (l49 : K.lookup f49 = some ⟨oc49, od49, .func (PySem.W.fnOf "grouped" "grouped" (defArgs s49) (defBody s49) (defScope s49) .none kV49 dc49 pm49 an49 cd49 ct49), sl49⟩)
    (c49 : PySem.W.codeIn K cd49 "grouped" = true)
    (k49 : PySem.W.keepIn K (.ref f49) = true)
    (a50 : PySem.W.nsIn K mainGlobals "rank_of" = some (some (.ref f50)))
    (i50 : PySem.W.isFn K (.ref f50) = true)
    (l50 : K.lookup f50 = some ⟨oc50, od50, .func (PySem.W.fnOf "rank_of" "rank_of" (defArgs s50) (defBody s50) (defScope s50) .none kV50 dc50 pm50 an50 cd50 ct50), sl50⟩)
    (c50 : PySem.W.codeIn K cd50 "rank_of" = true)
    (k50 : PySem.W.keepIn K (.ref f50) = true)
    (a93 : PySem.W.nsIn K mainGlobals "ways" = some (some (.ref f93)))
    (i93 : PySem.W.isFn K (.ref f93) = true)
    (l93 : K.lookup f93 = some ⟨oc93, od93, .func (PySem.W.fnOf "ways" "ways" (defArgs s93) (defBody s93) (defScope s93) .none kV93 dc93 pm93 an93 cd93 ct93), sl93⟩)
    (c93 : PySem.W.codeIn K cd93 "ways" = true)
    (k93 : PySem.W.keepIn K (.ref f93) = true)
    (a94 : PySem.W.nsIn K mainGlobals "is_falling" = some (some (.ref f94)))
    (i94 : PySem.W.isFn K (.ref f94) = true)
    (l94 : K.lookup f94 = some ⟨oc94, od94, .func (PySem.W.fnOf "is_falling" "is_falling" (defArgs s94) (defBody s94) (defScope s94) .none kV94 dc94 pm94 an94 cd94 ct94), sl94⟩)
    (c94 : PySem.W.codeIn K cd94 "is_falling" = true)
    (k94 : PySem.W.keepIn K (.ref f94) = true)
    (a95 : PySem.W.nsIn K mainGlobals "is_rank" = some (some (.ref f95)))
    (i95 : PySem.W.isFn K (.ref f95) = true)
    (l95 : K.lookup f95 = some ⟨oc95, od95, .func (PySem.W.fnOf "is_rank" "is_rank" (defArgs s95) (defBody s95) (defScope s95) .none kV95 dc95 pm95 an95 cd95 ct95), sl95⟩)
    (c95 : PySem.W.codeIn K cd95 "is_rank" = true)
    (k95 : PySem.W.keepIn K (.ref f95) = true)
    (a96 : PySem.W.nsIn K mainGlobals "place_of_falling" = some (some (.ref f96)))
    (i96 : PySem.W.isFn K (.ref f96) = true)
    (l96 : K.lookup f96 = some ⟨oc96, od96, .func (PySem.W.fnOf "place_of_falling" "place_of_falling" (defArgs s96) (defBody s96) (defScope s96) .none kV96 dc96 pm96 an96 cd96 ct96), sl96⟩)
    (c96 : PySem.W.codeIn K cd96 "place_of_falling" = true)
    (k96 : PySem.W.keepIn K (.ref f96) = true)
    (a97 : PySem.W.nsIn K mainGlobals "place_in_kind" = some (some (.ref f97)))
    (i97 : PySem.W.isFn K (.ref f97) = true)
    (l97 : K.lookup f97 = some ⟨oc97, od97, .func (PySem.W.fnOf "place_in_kind" "place_in_kind" (defArgs s97) (defBody s97) (defScope s97) .none kV97 dc97 pm97 an97 cd97 ct97), sl97⟩)
    (c97 : PySem.W.codeIn K cd97 "place_in_kind" = true)
    (k97 : PySem.W.keepIn K (.ref f97) = true)
    (a98 : PySem.W.nsIn K mainGlobals "place_of" = some (some (.ref f98)))
    (i98 : PySem.W.isFn K (.ref f98) = true)
    (l98 : K.lookup f98 = some ⟨oc98, od98, .func (PySem.W.fnOf "place_of" "place_of" (defArgs s98) (defBody s98) (defScope s98) .none kV98 dc98 pm98 an98 cd98 ct98), sl98⟩)
    (c98 : PySem.W.codeIn K cd98 "place_of" = true)
    (k98 : PySem.W.keepIn K (.ref f98) = true)
    (a13 : PySem.W.nsIn K mainGlobals "_law_draw" = some (some (.ref f13)))
    (i13 : PySem.W.isFn K (.ref f13) = true)
    (l13 : K.lookup f13 = some ⟨oc13, od13, .func (PySem.W.fnOf "_law_draw" "_law_draw" (defArgs s13) (defBody s13) (defScope s13) .none kV13 dc13 pm13 an13 cd13 ct13), sl13⟩)
    (c13 : PySem.W.codeIn K cd13 "_law_draw" = true)
    (k13 : PySem.W.keepIn K (.ref f13) = true)
    (a14 : PySem.W.nsIn K mainGlobals "_law_pick" = some (some (.ref f14)))
    (i14 : PySem.W.isFn K (.ref f14) = true)
    (l14 : K.lookup f14 = some ⟨oc14, od14, .func (PySem.W.fnOf "_law_pick" "_law_pick" (defArgs s14) (defBody s14) (defScope s14) .none kV14 dc14 pm14 an14 cd14 ct14), sl14⟩)
    (c14 : PySem.W.codeIn K cd14 "_law_pick" = true)
    (k14 : PySem.W.keepIn K (.ref f14) = true)
    (a59 : PySem.W.nsIn K mainGlobals "_law_cards" = some (some (.ref f59)))
    (i59 : PySem.W.isFn K (.ref f59) = true)
    (l59 : K.lookup f59 = some ⟨oc59, od59, .func (PySem.W.fnOf "_law_cards" "_law_cards" (defArgs s59) (defBody s59) (defScope s59) .none kV59 dc59 pm59 an59 cd59 ct59), sl59⟩)
    (c59 : PySem.W.codeIn K cd59 "_law_cards" = true)
    (k59 : PySem.W.keepIn K (.ref f59) = true)
    (a164 : PySem.W.nsIn K mainGlobals "_law_place" = some (some (.ref f164)))
    (i164 : PySem.W.isFn K (.ref f164) = true)
    (l164 : K.lookup f164 = some ⟨oc164, od164, .func (PySem.W.fnOf "_law_place" "_law_place" (defArgs s164) (defBody s164) (defScope s164) .none kV164 dc164 pm164 an164 cd164 ct164), sl164⟩)
    (c164 : PySem.W.codeIn K cd164 "_law_place" = true)
    (k164 : PySem.W.keepIn K (.ref f164) = true)
    (a165 : PySem.W.nsIn K mainGlobals "_law_fits" = some (some (.ref f165)))
    (i165 : PySem.W.isFn K (.ref f165) = true)
    (l165 : K.lookup f165 = some ⟨oc165, od165, .func (PySem.W.fnOf "_law_fits" "_law_fits" (defArgs s165) (defBody s165) (defScope s165) .none kV165 dc165 pm165 an165 cd165 ct165), sl165⟩)
    (c165 : PySem.W.codeIn K cd165 "_law_fits" = true)
    (k165 : PySem.W.keepIn K (.ref f165) = true)
    (a166 : PySem.W.nsIn K mainGlobals "_law_bent" = some (some (.ref f166)))
    (i166 : PySem.W.isFn K (.ref f166) = true)
    (l166 : K.lookup f166 = some ⟨oc166, od166, .func (PySem.W.fnOf "_law_bent" "_law_bent" (defArgs s166) (defBody s166) (defScope s166) .none kV166 dc166 pm166 an166 cd166 ct166), sl166⟩)
    (c166 : PySem.W.codeIn K cd166 "_law_bent" = true)
    (k166 : PySem.W.keepIn K (.ref f166) = true)
    (a167 : PySem.W.nsIn K mainGlobals "law" = some (some (.ref f167)))
    (i167 : PySem.W.isFn K (.ref f167) = true)
    (l167 : K.lookup f167 = some ⟨oc167, od167, .func (PySem.W.fnOf "law" "law" (defArgs s167) (defBody s167) (defScope s167) .none kV167 dc167 pm167 an167 cd167 ct167), sl167⟩)
    (c167 : PySem.W.codeIn K cd167 "law" = true)
    (k167 : PySem.W.keepIn K (.ref f167) = true)
    (z0 : PySem.W.nsIn K mainGlobals "all" = some none)
    (z1 : PySem.W.nsIn K mainGlobals "any" = some none)
    (z2 : PySem.W.nsIn K mainGlobals "bool" = some none)
    (z3 : PySem.W.nsIn K mainGlobals "dict" = some none)
    (z4 : PySem.W.nsIn K mainGlobals "enumerate" = some none)
    (z5 : PySem.W.nsIn K mainGlobals "int" = some none)
    (z6 : PySem.W.nsIn K mainGlobals "isinstance" = some none)
    (z7 : PySem.W.nsIn K mainGlobals "len" = some none)
    (z8 : PySem.W.nsIn K mainGlobals "list" = some none)
    (z9 : PySem.W.nsIn K mainGlobals "max" = some none)
    (z10 : PySem.W.nsIn K mainGlobals "min" = some none)
    (z11 : PySem.W.nsIn K mainGlobals "range" = some none)
    (z12 : PySem.W.nsIn K mainGlobals "repr" = some none)
    (z13 : PySem.W.nsIn K mainGlobals "set" = some none)
    (z14 : PySem.W.nsIn K mainGlobals "sorted" = some none)
    (z15 : PySem.W.nsIn K mainGlobals "str" = some none)
    (z16 : PySem.W.nsIn K mainGlobals "sum" = some none)
    (z17 : PySem.W.nsIn K mainGlobals "tuple" = some none)
    (z18 : PySem.W.nsIn K mainGlobals "zip" = some none)
    (tk0_0 : K.lookup tA0_0 = some ⟨.type "tuple", none, .seq [.int 2 tT0_0_0, .int 1 tT0_0_1, .int 1 tT0_0_2, .int 1 tT0_0_3].toArray tN0_0, #[]⟩)
    (th0_0 : tH0_0 = hashT [2, 1, 1, 1])
    (tk0_1 : K.lookup tA0_1 = some ⟨.type "tuple", none, .seq [.int 2 tT0_1_0, .int 2 tT0_1_1, .int 1 tT0_1_2].toArray tN0_1, #[]⟩)
    (th0_1 : tH0_1 = hashT [2, 2, 1])
    (tk0_2 : K.lookup tA0_2 = some ⟨.type "tuple", none, .seq [.int 3 tT0_2_0, .int 1 tT0_2_1, .int 1 tT0_2_2].toArray tN0_2, #[]⟩)
    (th0_2 : tH0_2 = hashT [3, 1, 1])
    (tk0_3 : K.lookup tA0_3 = some ⟨.type "tuple", none, .seq [.int 3 tT0_3_0, .int 2 tT0_3_1].toArray tN0_3, #[]⟩)
    (th0_3 : tH0_3 = hashT [3, 2])
    (tk0_4 : K.lookup tA0_4 = some ⟨.type "tuple", none, .seq [.int 4 tT0_4_0, .int 1 tT0_4_1].toArray tN0_4, #[]⟩)
    (th0_4 : tH0_4 = hashT [4, 1])
    (cn0 : PySem.W.nsIn K mainGlobals "LOW_ROW" = some (some (.ref cA0)))
    (ct0 : K.lookup cA0 = some ⟨.type "tuple", none, .seq [.int 14 cT0_0, .int 5 cT0_1, .int 4 cT0_2, .int 3 cT0_3, .int 2 cT0_4].toArray cN0, #[]⟩)
    (cn1 : PySem.W.nsIn K mainGlobals "ROW_TOPS" = some (some (.ref cA1)))
    (ct1 : K.lookup cA1 = some ⟨.type "tuple", none, .seq [.int 5 cT1_0, .int 6 cT1_1, .int 7 cT1_2, .int 8 cT1_3, .int 9 cT1_4, .int 10 cT1_5, .int 11 cT1_6, .int 12 cT1_7, .int 13 cT1_8, .int 14 cT1_9].toArray cN1, #[]⟩)
    (cn2 : PySem.W.nsIn K mainGlobals "SIZES" = some (some (.ref cA2)))
    (ct2 : K.lookup cA2 = some ⟨.type "tuple", none, .seq [.int 1277 cT2_0, .int 2860 cT2_1, .int 858 cT2_2, .int 858 cT2_3, .int 10 cT2_4, .int 1277 cT2_5, .int 156 cT2_6, .int 156 cT2_7, .int 10 cT2_8].toArray cN2, #[]⟩)
    (cn3 : PySem.W.nsIn K mainGlobals "SHARED" = some (some (.ref cA3)))
    (ct3 : K.lookup cA3 = some ⟨.type "tuple", none, .seq [.ref cA3_0, .ref cA3_1, .ref cA3_2, .ref cA3_3, .ref cA3_4, .ref cA3_5, .ref cA3_6, .ref cA3_7, .ref cA3_8].toArray cN3, #[]⟩)
    (ct3_8 : K.lookup cA3_8 = some ⟨.type "tuple", none, .seq [].toArray cN3_8, #[]⟩)
    (ct3_7 : K.lookup cA3_7 = some ⟨.type "tuple", none, .seq [.int 1 cT3_7_0, .int 1 cT3_7_1].toArray cN3_7, #[]⟩)
    (ct3_6 : K.lookup cA3_6 = some ⟨.type "tuple", none, .seq [.int 1 cT3_6_0, .int 1 cT3_6_1].toArray cN3_6, #[]⟩)
    (ct3_5 : K.lookup cA3_5 = some ⟨.type "tuple", none, .seq [].toArray cN3_5, #[]⟩)
    (ct3_4 : K.lookup cA3_4 = some ⟨.type "tuple", none, .seq [].toArray cN3_4, #[]⟩)
    (ct3_3 : K.lookup cA3_3 = some ⟨.type "tuple", none, .seq [.int 1 cT3_3_0, .int 2 cT3_3_1].toArray cN3_3, #[]⟩)
    (ct3_2 : K.lookup cA3_2 = some ⟨.type "tuple", none, .seq [.int 2 cT3_2_0, .int 1 cT3_2_1].toArray cN3_2, #[]⟩)
    (ct3_1 : K.lookup cA3_1 = some ⟨.type "tuple", none, .seq [.int 1 cT3_1_0, .int 3 cT3_1_1].toArray cN3_1, #[]⟩)
    (ct3_0 : K.lookup cA3_0 = some ⟨.type "tuple", none, .seq [].toArray cN3_0, #[]⟩)
    (eaCardError : PySem.W.nsIn K mainGlobals "CardError" = some (some (.ref ECardError)))
    (eqCardError : PySem.W.excIn K ECardError [.type "ValueError", .type "Exception", .type "BaseException", .type "object"] "ValueError.__new__" = true)
    (ekCardError : PySem.W.keepIn K (.ref ECardError) = true)
    (esCardError : PySem.W.subIn K (.ref ECardError) (.type "BaseException") = some true)
    (etCardError : PySem.W.typeIn K (.ref ECardError) = some (.type "type"))
    (eaBadRank : PySem.W.nsIn K mainGlobals "BadRank" = some (some (.ref EBadRank)))
    (eqBadRank : PySem.W.excIn K EBadRank [.type "ValueError", .type "Exception", .type "BaseException", .type "object"] "ValueError.__new__" = true)
    (ekBadRank : PySem.W.keepIn K (.ref EBadRank) = true)
    (esBadRank : PySem.W.subIn K (.ref EBadRank) (.type "BaseException") = some true)
    (etBadRank : PySem.W.typeIn K (.ref EBadRank) = some (.type "type"))
    (emCardErrorCardError : PySem.W.exmOne K (.ref ECardError) (.ref ECardError) = some true)
    (emCardErrorBadRank : PySem.W.exmOne K (.ref ECardError) (.ref EBadRank) = some false)
    (emBadRankCardError : PySem.W.exmOne K (.ref EBadRank) (.ref ECardError) = some true)
    (emBadRankBadRank : PySem.W.exmOne K (.ref EBadRank) (.ref EBadRank) = some true)
    : ∃ (I : Inf) (fd : FuncData), (∀ (s : Shared) (u : Value), BindsTo s fd ⟨[u], []⟩ [(("_law_script" : Str), u)]) ∧ GS K mg I Γ0 ∧ ∃ (x qual : Str) (st : Stmt) (N : List Str) (dd : FnD), Fun K x qual st fa fd ∧ FnScope N [("_law_script" : Str)] (defScope st) ∧ Γ0.fns 167 = some dd ∧ dd.np = 1 ∧ N.length = dd.ns ∧ DSs Γ0 N (lawSco st) (defBody st) dd.body := by
  have e := hfa.symm.trans (PySem.W.mg_of X G a167)
  cases e
  have F48 := fun_mk (st := s48) l48 c48 k48
  have B48 := F48.binds (ps := [("ranks" : Str)]) fun _ _ _ _ _ _ us hl => match us, hl with | [_], _ => rfl
  have S48 : FnScope N48 [("ranks" : Str)] (defScope s48) := fs (by decide +kernel)
  have g48 : FnSt Γ0 K 48 _ := ⟨k48, i48, _, _, s48, _, N48, _, _, F48, S48, B48, rfl, rfl, rfl, ds48⟩
  have F49 := fun_mk (st := s49) l49 c49 k49
  have B49 := F49.binds (ps := [("five" : Str)]) fun _ _ _ _ _ _ us hl => match us, hl with | [_], _ => rfl
  have S49 : FnScope N49 [("five" : Str)] (defScope s49) := fs (by decide +kernel)
  have g49 : FnSt Γ0 K 49 _ := ⟨k49, i49, _, _, s49, _, N49, _, _, F49, S49, B49, rfl, rfl, rfl, ds49⟩
  have F50 := fun_mk (st := s50) l50 c50 k50
  have B50 := F50.binds (ps := [("five" : Str)]) fun _ _ _ _ _ _ us hl => match us, hl with | [_], _ => rfl
  have S50 : FnScope N50 [("five" : Str)] (defScope s50) := fs (by decide +kernel)
  have g50 : FnSt Γ0 K 50 _ := ⟨k50, i50, _, _, s50, _, N50, _, _, F50, S50, B50, rfl, rfl, rfl, ds50⟩
  have F93 := fun_mk (st := s93) l93 c93 k93
  have B93 := F93.binds (ps := [("many" : Str), ("few" : Str)]) fun _ _ _ _ _ _ us hl => match us, hl with | [_, _], _ => rfl
  have S93 : FnScope N93 [("many" : Str), ("few" : Str)] (defScope s93) := fs (by decide +kernel)
  have g93 : FnSt Γ0 K 93 _ := ⟨k93, i93, _, _, s93, _, N93, _, _, F93, S93, B93, rfl, rfl, rfl, ds93⟩
  have F94 := fun_mk (st := s94) l94 c94 k94
  have B94 := F94.binds (ps := [("ranks" : Str), ("many" : Str)]) fun _ _ _ _ _ _ us hl => match us, hl with | [_, _], _ => rfl
  have S94 : FnScope N94 [("ranks" : Str), ("many" : Str)] (defScope s94) := fs (by decide +kernel)
  have g94 : FnSt Γ0 K 94 _ := ⟨k94, i94, _, _, s94, _, N94, _, _, F94, S94, B94, rfl, rfl, rfl, ds94⟩
  have F95 := fun_mk (st := s95) l95 c95 k95
  have B95 := F95.binds (ps := [("thing" : Str)]) fun _ _ _ _ _ _ us hl => match us, hl with | [_], _ => rfl
  have S95 : FnScope N95 [("thing" : Str)] (defScope s95) := fs (by decide +kernel)
  have g95 : FnSt Γ0 K 95 _ := ⟨k95, i95, _, _, s95, _, N95, _, _, F95, S95, B95, rfl, rfl, rfl, ds95⟩
  have F96 := fun_mk (st := s96) l96 c96 k96
  have B96 := F96.binds (ps := [("ranks" : Str), ("gone" : Str)]) fun _ _ _ _ _ _ us hl => match us, hl with | [_, _], _ => rfl
  have S96 : FnScope N96 [("ranks" : Str), ("gone" : Str)] (defScope s96) := fs (by decide +kernel)
  have g96 : FnSt Γ0 K 96 _ := ⟨k96, i96, _, _, s96, _, N96, _, _, F96, S96, B96, rfl, rfl, rfl, ds96⟩
  have F97 := fun_mk (st := s97) l97 c97 k97
  have B97 := F97.binds (ps := [("rank" : Str)]) fun _ _ _ _ _ _ us hl => match us, hl with | [_], _ => rfl
  have S97 : FnScope N97 [("rank" : Str)] (defScope s97) := fs (by decide +kernel)
  have g97 : FnSt Γ0 K 97 _ := ⟨k97, i97, _, _, s97, _, N97, _, _, F97, S97, B97, rfl, rfl, rfl, ds97⟩
  have F98 := fun_mk (st := s98) l98 c98 k98
  have B98 := F98.binds (ps := [("rank" : Str)]) fun _ _ _ _ _ _ us hl => match us, hl with | [_], _ => rfl
  have S98 : FnScope N98 [("rank" : Str)] (defScope s98) := fs (by decide +kernel)
  have g98 : FnSt Γ0 K 98 _ := ⟨k98, i98, _, _, s98, _, N98, _, _, F98, S98, B98, rfl, rfl, rfl, ds98⟩
  have F13 := fun_mk (st := s13) l13 c13 k13
  have B13 := F13.binds (ps := [("_law_script" : Str), ("_law_town" : Str), ("_law_many" : Str)]) fun _ _ _ _ _ _ us hl => match us, hl with | [_, _, _], _ => rfl
  have S13 : FnScope N13 [("_law_script" : Str), ("_law_town" : Str), ("_law_many" : Str)] (defScope s13) := fs (by decide +kernel)
  have g13 : FnSt Γ0 K 13 _ := ⟨k13, i13, _, _, s13, _, N13, _, _, F13, S13, B13, rfl, rfl, rfl, ds13⟩
  have F14 := fun_mk (st := s14) l14 c14 k14
  have B14 := F14.binds (ps := [("_law_script" : Str), ("_law_town" : Str), ("_law_some" : Str)]) fun _ _ _ _ _ _ us hl => match us, hl with | [_, _, _], _ => rfl
  have S14 : FnScope N14 [("_law_script" : Str), ("_law_town" : Str), ("_law_some" : Str)] (defScope s14) := fs (by decide +kernel)
  have g14 : FnSt Γ0 K 14 _ := ⟨k14, i14, _, _, s14, _, N14, _, _, F14, S14, B14, rfl, rfl, rfl, ds14⟩
  have F59 := fun_mk (st := s59) l59 c59 k59
  have B59 := F59.binds (ps := [("_law_script" : Str), ("_law_town" : Str), ("_law_many" : Str)]) fun _ _ _ _ _ _ us hl => match us, hl with | [_, _, _], _ => rfl
  have S59 : FnScope N59 [("_law_script" : Str), ("_law_town" : Str), ("_law_many" : Str)] (defScope s59) := fs (by decide +kernel)
  have g59 : FnSt Γ0 K 59 _ := ⟨k59, i59, _, _, s59, _, N59, _, _, F59, S59, B59, rfl, rfl, rfl, ds59⟩
  have F164 := fun_mk (st := s164) l164 c164 k164
  have B164 := F164.binds (ps := [("_law_thing" : Str)]) fun _ _ _ _ _ _ us hl => match us, hl with | [_], _ => rfl
  have S164 : FnScope N164 [("_law_thing" : Str)] (defScope s164) := fs (by decide +kernel)
  have g164 : FnSt Γ0 K 164 _ := ⟨k164, i164, _, _, s164, _, N164, _, _, F164, S164, B164, rfl, rfl, rfl, ds164⟩
  have F165 := fun_mk (st := s165) l165 c165 k165
  have B165 := F165.binds (ps := [("_law_kind" : Str), ("_law_ranks" : Str)]) fun _ _ _ _ _ _ us hl => match us, hl with | [_, _], _ => rfl
  have S165 : FnScope N165 [("_law_kind" : Str), ("_law_ranks" : Str)] (defScope s165) := fs (by decide +kernel)
  have g165 : FnSt Γ0 K 165 _ := ⟨k165, i165, _, _, s165, _, N165, _, _, F165, S165, B165, rfl, rfl, rfl, ds165⟩
  have F166 := fun_mk (st := s166) l166 c166 k166
  have B166 := F166.binds (ps := [("_law_rank" : Str)]) fun _ _ _ _ _ _ us hl => match us, hl with | [_], _ => rfl
  have S166 : FnScope N166 [("_law_rank" : Str)] (defScope s166) := fs (by decide +kernel)
  have g166 : FnSt Γ0 K 166 _ := ⟨k166, i166, _, _, s166, _, N166, _, _, F166, S166, B166, rfl, rfl, rfl, ds166⟩
  have F167 := fun_mk (st := s167) l167 c167 k167
  have B167 := F167.binds (ps := [("_law_script" : Str)]) fun _ _ _ _ _ _ us hl => match us, hl with | [_], _ => rfl
  have S167 : FnScope N167 [("_law_script" : Str)] (defScope s167) := fs (by decide +kernel)
  have exq : ∀ c D, (match c with | 0 => some ECardError | 2 => some EBadRank | _ => none : Option Addr) = some D → (c = 0 ∧ D = ECardError) ∨ (c = 2 ∧ D = EBadRank) := by
    intro c D h
    split at h
    · cases h; exact .inl ⟨rfl, rfl⟩
    · cases h; exact .inr (⟨rfl, rfl⟩)
    · cases h
  refine ⟨⟨fun c => none, fun c => match c with | 0 => some ECardError | 2 => some EBadRank | _ => none⟩, _, fun s v => .of_eq rfl, ⟨(List.forall_mem_cons.mpr ⟨⟨_, PySem.W.mg_of X G a48, g48⟩, (List.forall_mem_cons.mpr ⟨⟨_, PySem.W.mg_of X G a49, g49⟩, (List.forall_mem_cons.mpr ⟨⟨_, PySem.W.mg_of X G a50, g50⟩, (List.forall_mem_cons.mpr ⟨⟨_, PySem.W.mg_of X G a93, g93⟩, (List.forall_mem_cons.mpr ⟨⟨_, PySem.W.mg_of X G a94, g94⟩, (List.forall_mem_cons.mpr ⟨⟨_, PySem.W.mg_of X G a95, g95⟩, (List.forall_mem_cons.mpr ⟨⟨_, PySem.W.mg_of X G a96, g96⟩, (List.forall_mem_cons.mpr ⟨⟨_, PySem.W.mg_of X G a97, g97⟩, (List.forall_mem_cons.mpr ⟨⟨_, PySem.W.mg_of X G a98, g98⟩, (List.forall_mem_cons.mpr ⟨⟨_, PySem.W.mg_of X G a13, g13⟩, (List.forall_mem_cons.mpr ⟨⟨_, PySem.W.mg_of X G a14, g14⟩, (List.forall_mem_cons.mpr ⟨⟨_, PySem.W.mg_of X G a59, g59⟩, (List.forall_mem_cons.mpr ⟨⟨_, PySem.W.mg_of X G a164, g164⟩, (List.forall_mem_cons.mpr ⟨⟨_, PySem.W.mg_of X G a165, g165⟩, (List.forall_mem_cons.mpr ⟨⟨_, PySem.W.mg_of X G a166, g166⟩, (List.forall_mem_nil _)⟩)⟩)⟩)⟩)⟩)⟩)⟩)⟩)⟩)⟩)⟩)⟩)⟩)⟩)⟩), (List.forall_mem_cons.mpr ⟨(PySem.W.mg_none_of X G z0), (List.forall_mem_cons.mpr ⟨(PySem.W.mg_none_of X G z1), (List.forall_mem_cons.mpr ⟨(PySem.W.mg_none_of X G z2), (List.forall_mem_cons.mpr ⟨(PySem.W.mg_none_of X G z3), (List.forall_mem_cons.mpr ⟨(PySem.W.mg_none_of X G z4), (List.forall_mem_cons.mpr ⟨(PySem.W.mg_none_of X G z5), (List.forall_mem_cons.mpr ⟨(PySem.W.mg_none_of X G z6), (List.forall_mem_cons.mpr ⟨(PySem.W.mg_none_of X G z7), (List.forall_mem_cons.mpr ⟨(PySem.W.mg_none_of X G z8), (List.forall_mem_cons.mpr ⟨(PySem.W.mg_none_of X G z9), (List.forall_mem_cons.mpr ⟨(PySem.W.mg_none_of X G z10), (List.forall_mem_cons.mpr ⟨(PySem.W.mg_none_of X G z11), (List.forall_mem_cons.mpr ⟨(PySem.W.mg_none_of X G z12), (List.forall_mem_cons.mpr ⟨(PySem.W.mg_none_of X G z13), (List.forall_mem_cons.mpr ⟨(PySem.W.mg_none_of X G z14), (List.forall_mem_cons.mpr ⟨(PySem.W.mg_none_of X G z15), (List.forall_mem_cons.mpr ⟨(PySem.W.mg_none_of X G z16), (List.forall_mem_cons.mpr ⟨(PySem.W.mg_none_of X G z17), (List.forall_mem_cons.mpr ⟨(PySem.W.mg_none_of X G z18), (List.forall_mem_nil _)⟩)⟩)⟩)⟩)⟩)⟩)⟩)⟩)⟩)⟩)⟩)⟩)⟩)⟩)⟩)⟩)⟩)⟩)⟩), ?con, ?cl, ?mt, ?fl, ?ci, ?xc, ?xm, ?tb, ?st⟩, _, _, s167, N167, _, F167, S167, rfl, rfl, rfl, ds167⟩
  case con => exact (List.forall_mem_cons.mpr ⟨⟨_, .ref cA0, PySem.W.mg_of X G cn0, rfl, (con_tup ct0 (by show 5 ≤ 1000; decide) (.cons (show RelV (.int 14) _ from ⟨_, rfl⟩) (.cons (show RelV (.int 5) _ from ⟨_, rfl⟩) (.cons (show RelV (.int 4) _ from ⟨_, rfl⟩) (.cons (show RelV (.int 3) _ from ⟨_, rfl⟩) (.cons (show RelV (.int 2) _ from ⟨_, rfl⟩) .nil))))) fun F H => (.cons (.int _) (.cons (.int _) (.cons (.int _) (.cons (.int _) (.cons (.int _) .nil))))))⟩, (List.forall_mem_cons.mpr ⟨⟨_, .ref cA1, PySem.W.mg_of X G cn1, rfl, (con_tup ct1 (by show 10 ≤ 1000; decide) (.cons (show RelV (.int 5) _ from ⟨_, rfl⟩) (.cons (show RelV (.int 6) _ from ⟨_, rfl⟩) (.cons (show RelV (.int 7) _ from ⟨_, rfl⟩) (.cons (show RelV (.int 8) _ from ⟨_, rfl⟩) (.cons (show RelV (.int 9) _ from ⟨_, rfl⟩) (.cons (show RelV (.int 10) _ from ⟨_, rfl⟩) (.cons (show RelV (.int 11) _ from ⟨_, rfl⟩) (.cons (show RelV (.int 12) _ from ⟨_, rfl⟩) (.cons (show RelV (.int 13) _ from ⟨_, rfl⟩) (.cons (show RelV (.int 14) _ from ⟨_, rfl⟩) .nil)))))))))) fun F H => (.cons (.int _) (.cons (.int _) (.cons (.int _) (.cons (.int _) (.cons (.int _) (.cons (.int _) (.cons (.int _) (.cons (.int _) (.cons (.int _) (.cons (.int _) .nil)))))))))))⟩, (List.forall_mem_cons.mpr ⟨⟨_, .ref cA2, PySem.W.mg_of X G cn2, rfl, (con_tup ct2 (by show 9 ≤ 1000; decide) (.cons (show RelV (.int 1277) _ from ⟨_, rfl⟩) (.cons (show RelV (.int 2860) _ from ⟨_, rfl⟩) (.cons (show RelV (.int 858) _ from ⟨_, rfl⟩) (.cons (show RelV (.int 858) _ from ⟨_, rfl⟩) (.cons (show RelV (.int 10) _ from ⟨_, rfl⟩) (.cons (show RelV (.int 1277) _ from ⟨_, rfl⟩) (.cons (show RelV (.int 156) _ from ⟨_, rfl⟩) (.cons (show RelV (.int 156) _ from ⟨_, rfl⟩) (.cons (show RelV (.int 10) _ from ⟨_, rfl⟩) .nil))))))))) fun F H => (.cons (.int _) (.cons (.int _) (.cons (.int _) (.cons (.int _) (.cons (.int _) (.cons (.int _) (.cons (.int _) (.cons (.int _) (.cons (.int _) .nil))))))))))⟩, (List.forall_mem_cons.mpr ⟨⟨_, .ref cA3, PySem.W.mg_of X G cn3, rfl, (con_tup ct3 (by show 9 ≤ 1000; decide) (.cons (show RelV (.ref cA3_0) _ from rfl) (.cons (show RelV (.ref cA3_1) _ from rfl) (.cons (show RelV (.ref cA3_2) _ from rfl) (.cons (show RelV (.ref cA3_3) _ from rfl) (.cons (show RelV (.ref cA3_4) _ from rfl) (.cons (show RelV (.ref cA3_5) _ from rfl) (.cons (show RelV (.ref cA3_6) _ from rfl) (.cons (show RelV (.ref cA3_7) _ from rfl) (.cons (show RelV (.ref cA3_8) _ from rfl) .nil))))))))) fun F H => (.cons ((con_tup ct3_0 (by show 0 ≤ 1000; decide) .nil fun F H => .nil) F H) (.cons ((con_tup ct3_1 (by show 2 ≤ 1000; decide) (.cons (show RelV (.int 1) _ from ⟨_, rfl⟩) (.cons (show RelV (.int 3) _ from ⟨_, rfl⟩) .nil)) fun F H => (.cons (.int _) (.cons (.int _) .nil))) F H) (.cons ((con_tup ct3_2 (by show 2 ≤ 1000; decide) (.cons (show RelV (.int 2) _ from ⟨_, rfl⟩) (.cons (show RelV (.int 1) _ from ⟨_, rfl⟩) .nil)) fun F H => (.cons (.int _) (.cons (.int _) .nil))) F H) (.cons ((con_tup ct3_3 (by show 2 ≤ 1000; decide) (.cons (show RelV (.int 1) _ from ⟨_, rfl⟩) (.cons (show RelV (.int 2) _ from ⟨_, rfl⟩) .nil)) fun F H => (.cons (.int _) (.cons (.int _) .nil))) F H) (.cons ((con_tup ct3_4 (by show 0 ≤ 1000; decide) .nil fun F H => .nil) F H) (.cons ((con_tup ct3_5 (by show 0 ≤ 1000; decide) .nil fun F H => .nil) F H) (.cons ((con_tup ct3_6 (by show 2 ≤ 1000; decide) (.cons (show RelV (.int 1) _ from ⟨_, rfl⟩) (.cons (show RelV (.int 1) _ from ⟨_, rfl⟩) .nil)) fun F H => (.cons (.int _) (.cons (.int _) .nil))) F H) (.cons ((con_tup ct3_7 (by show 2 ≤ 1000; decide) (.cons (show RelV (.int 1) _ from ⟨_, rfl⟩) (.cons (show RelV (.int 1) _ from ⟨_, rfl⟩) .nil)) fun F H => (.cons (.int _) (.cons (.int _) .nil))) F H) (.cons ((con_tup ct3_8 (by show 0 ≤ 1000; decide) .nil fun F H => .nil) F H) .nil))))))))))⟩, (List.forall_mem_nil _)⟩)⟩)⟩)⟩)
  case tb => exact (List.forall_mem_cons.mpr ⟨⟨tB0, PySem.W.mg_of X G tn0, _, _, tb0, ⟨tab_ent th0_0 tk0_0 (.cons _ _ (.cons _ _ (.cons _ _ (.cons _ _ .nil)))), ⟨tab_ent th0_1 tk0_1 (.cons _ _ (.cons _ _ (.cons _ _ .nil))), ⟨tab_ent th0_2 tk0_2 (.cons _ _ (.cons _ _ (.cons _ _ .nil))), ⟨tab_ent th0_3 tk0_3 (.cons _ _ (.cons _ _ .nil)), ⟨tab_ent th0_4 tk0_4 (.cons _ _ (.cons _ _ .nil)), trivial⟩⟩⟩⟩⟩, by decide⟩, (List.forall_mem_nil _)⟩)
  case st => exact (List.forall_mem_nil _)
  case cl => exact List.forall_mem_nil _
  case mt => exact List.forall_mem_nil _
  case fl => exact List.forall_mem_nil _
  case ci => exact fun c D nm h => by cases h
  case xc => exact (List.forall_mem_cons.mpr ⟨⟨ECardError, PySem.W.mg_of X G eaCardError, rfl, ⟨fun _ => eqCardError, ekCardError, esCardError, etCardError, fun h => absurd h (by decide)⟩⟩, (List.forall_mem_cons.mpr ⟨⟨EBadRank, PySem.W.mg_of X G eaBadRank, rfl, ⟨fun _ => eqBadRank, ekBadRank, esBadRank, etBadRank, fun h => absurd h (by decide)⟩⟩, (List.forall_mem_nil _)⟩)⟩)
  case xm =>
    intro c D c2 D2 h1 h2
    rcases exq c D h1 with ⟨rfl, rfl⟩ | ⟨rfl, rfl⟩ <;> rcases exq c2 D2 h2 with ⟨rfl, rfl⟩ | ⟨rfl, rfl⟩
    · exact emCardErrorCardError
    · exact emCardErrorBadRank
    · exact emBadRankCardError
    · exact emBadRankBadRank
end Cd
set_option Elab.async false
set_option linter.all false
set_option maxRecDepth 100000
set_option maxHeartbeats 4000000
namespace Cd
open PySem L2
theorem call_eq {fns : Nat → Option FnD} {n f : Nat} {args : List Val} {h : Hi} {d : FnD} (e : fns f = some d) (hl : args.length = d.np) : callF fns (n + 1) f args h = finF h.length (evalSs (callF fns n) d.body (startE d args) h) := by
  show (match fns f with
    | none => R.stuck
    | some d => if args.length = d.np then finF h.length (evalSs (callF fns n) d.body (startE d args) h) else .stuck) = _
  rw [e]
  exact if_pos hl
section
variable {cf : Calls} {env : Ev} {h : Hi} {a b c e : E} {i j : Nat} {d : PyData}
@[simp] theorem ev_var : evalE cf env (.var i) h = ofO (slot env i) h := id rfl
@[simp] theorem ev_lit : evalE cf env (.lit d) h = .ok (.p d) h := id rfl
@[simp] theorem ev_fld : evalE cf env (.fld i j) h = ofO ((insOf env h i).bind fun p => fldK p.2.2[j]?) h := id rfl
@[simp] theorem ev_op1 {o : O1} : evalE cf env (.op1 o a) h = (bor env h a (evalE cf env a h)).bind fun x h1 => ofO ((opf1 o x).map .p) h1 := id rfl
@[simp] theorem ev_op2 {o : O2} : evalE cf env (.op2 o a b) h = ((evalE cf env a h).bind unP).bind fun x h1 => (bor env h1 b (evalE cf env b h1)).bind fun y h2 => ofO ((opf2 o x y).map .p) h2 := id rfl
@[simp] theorem ev_op2b {o : O2} : evalE cf env (.op2b o a b) h = (bor env h a (evalE cf env a h)).bind fun x h1 => ((evalE cf env b h1).bind unP).bind fun y h2 => ofO ((opf2 o x y).map .p) h2 := id rfl
@[simp] theorem ev_op2d {o : O2} : evalE cf env (.op2d o a b) h = ((evalE cf env a h).bind unP).bind fun x h1 => ((evalE cf env b h1).bind unP).bind fun y h2 => ofO ((opf2 o x y).map .p) h2 := id rfl
@[simp] theorem ev_op3b {o : O3} : evalE cf env (.op3b o a b c) h = (bor env h a (evalE cf env a h)).bind fun x h1 => ((evalE cf env b h1).bind unP).bind fun y h2 => ((evalE cf env c h2).bind unP).bind fun z h3 => ofO ((opf3 o x y z).map .p) h3 := id rfl
@[simp] theorem ev_and : evalE cf env (.and_ a b) h = (evalE cf env a h).bind fun v h1 => andK (fun h2 => evalE cf env b h2) v h1 := id rfl
@[simp] theorem ev_or : evalE cf env (.or_ a b) h = (evalE cf env a h).bind fun v h1 => orK (fun h2 => evalE cf env b h2) v h1 := id rfl
@[simp] theorem ev_not : evalE cf env (.not_ a) h = (evalE cf env a h).bind notK := id rfl
@[simp] theorem ev_ite {t : Te} : evalE cf env (.ite t a b) h = (evalT cf env t h).bind fun k h1 => ifK (fun h2 => evalE cf env a h2) (fun h2 => evalE cf env b h2) k h1 := id rfl
@[simp] theorem ev_tup {es : List E} : evalE cf env (.tup es) h = (evalPs cf env es h).bind fun ds h1 => .ok (.p (.tuple ds)) h1 := id rfl
@[simp] theorem ev_lst {es : List E} : evalE cf env (.lst es) h = (evalPs cf env es h).bind fun ds h1 => .ok (.p (.list ds)) h1 := id rfl
@[simp] theorem ev_call {f : Nat} {es : List E} : evalE cf env (.call f es) h = (evalEs cf env es h).bind fun vs h1 => cf f vs h1 := id rfl
@[simp] theorem ev_meth {k f : Nat} {es : List E} : evalE cf env (.meth k f i es) h = match methOk env h k i with
    | none => .stuck
    | some n => (evalEs cf env es h).bind fun vs h1 => cf f (.ref n :: vs) h1 := id rfl
@[simp] theorem ev_new {k f : Nat} {es : List E} : evalE cf env (.new k f es) h = (evalEs cf env es h).bind fun vs h1 => (noX (cf f (.ref h1.length :: vs) (h1 ++ [.ins k []]))).bind fun v h2 => newK h1.length v h2 := id rfl
theorem ev_comp {own : List Nat} {t : Tg} {src : Src} {cond : List Te} {elt : E} : evalE cf env (.comp own t src cond elt) h = (evalSrc cf env src h).bind fun items h1 =>
    compK2 (compL (fun e h => (evalE cf e elt h).bind unP) (fun e h => evalTs cf e cond h) (fun x e => bindT t x e) (wipeE env own)) items h1 := id rfl
@[simp] theorem ev_isi {t : Ty} : evalE cf env (.isi a t) h = ((evalE cf env a h).bind unP).bind fun d h1 => .ok (.p (.bool (isTy t d))) h1 := id rfl
@[simp] theorem ev_pop : evalE cf env (.pop i a) h = match lstOf env h i with
    | none => .stuck
    | some _ => ((evalE cf env a h).bind unP).bind fun d h1 => popK env i d h1 := id rfl
@[simp] theorem ev_mk : evalE cf env (.mk a) h = ((evalE cf env a h).bind unP).bind mkK := id rfl
@[simp] theorem et_and {s t : Te} : evalT cf env (.and_ s t) h = (evalT cf env s h).bind fun k h1 => ifK (fun h2 => evalT cf env t h2) (fun h2 => .ok false h2) k h1 := id rfl
@[simp] theorem et_or {s t : Te} : evalT cf env (.or_ s t) h = (evalT cf env s h).bind fun k h1 => ifK (fun h2 => .ok true h2) (fun h2 => evalT cf env t h2) k h1 := id rfl
@[simp] theorem et_not {s : Te} : evalT cf env (.not_ s) h = (evalT cf env s h).bind fun k h1 => .ok (!k) h1 := id rfl
@[simp] theorem et_val : evalT cf env (.val e) h = (bor env h e (evalE cf env e h)).bind fun d h1 => ofO (truthD d) h1 := id rfl
@[simp] theorem ets_nil : evalTs cf env [] h = .ok true h := id rfl
@[simp] theorem ets_cons {t : Te} {ts : List Te} : evalTs cf env (t :: ts) h = (evalT cf env t h).bind fun k h1 => ifK (fun h2 => evalTs cf env ts h2) (fun h2 => .ok false h2) k h1 := id rfl
@[simp high] theorem ets_one {t : Te} : evalTs cf env [t] h = evalT cf env t h := by
  show ((evalT cf env t h).bind fun k h1 => ifK (fun h2 => R.ok true h2) (fun h2 => .ok false h2) k h1) = _
  cases evalT cf env t h with
  | ok k h1 => cases k <;> rfl
  | exc e h1 => rfl
  | stuck => rfl
@[simp] theorem ees_nil : evalEs cf env [] h = .ok [] h := id rfl
@[simp] theorem ees_cons {es : List E} : evalEs cf env (e :: es) h = (evalE cf env e h).bind fun v h1 => (evalEs cf env es h1).bind fun vs h2 => .ok (v :: vs) h2 := id rfl
@[simp] theorem eps_nil : evalPs cf env [] h = .ok [] h := id rfl
@[simp] theorem eps_cons {es : List E} : evalPs cf env (e :: es) h = ((evalE cf env e h).bind unP).bind fun v h1 => (evalPs cf env es h1).bind fun vs h2 => .ok (v :: vs) h2 := id rfl
@[simp] theorem es_e : evalSrc cf env (.e a) h = ((evalE cf env a h).bind unP).bind fun d h1 => ofO (itemsOf d) h1 := id rfl
@[simp] theorem es_rng1 : evalSrc cf env (.rng1 a) h = ((evalE cf env a h).bind unP).bind rng1K := id rfl
@[simp] theorem es_rng2 : evalSrc cf env (.rng2 a b) h = ((evalE cf env a h).bind unP).bind fun d h1 => ((evalE cf env b h1).bind unP).bind fun e h2 => rng2K d e h2 := id rfl
@[simp] theorem es_enum : evalSrc cf env (.enum a) h = ((evalE cf env a h).bind unP).bind fun d h1 => ofO ((itemsOf d).map (enumFrom 0)) h1 := id rfl
@[simp] theorem es_zip : evalSrc cf env (.zip a b) h = ((evalE cf env a h).bind unP).bind fun d h1 => ((evalE cf env b h1).bind unP).bind fun e h2 => ofO ((itemsOf d).bind fun xs => (itemsOf e).map fun ys => zipD xs ys) h2 := id rfl
@[simp] theorem ss_nil : evalSs cf [] env h = .ok .nx env h := id rfl
@[simp] theorem ss_cons {s : S} {r : List S} : evalSs cf (s :: r) env h = (evalS cf s env h).bind (evalSs cf r) := id rfl
@[simp] theorem st_set : evalS cf (.set i e) env h = (evalE cf env e h).toS env fun v h1 => .ok .nx (setSlot env i (some v)) h1 := id rfl
@[simp] theorem st_set2 : evalS cf (.set2 i j a b) env h = (evalE cf env a h).toS env fun v h1 => (evalE cf env b h1).toS env fun w h2 => .ok .nx (setSlot (setSlot env i (some v)) j (some w)) h2 := id rfl
@[simp] theorem st_set3 {l : Nat} : evalS cf (.set3 i j l a b c) env h = (evalE cf env a h).toS env fun u h1 => (evalE cf env b h1).toS env fun v h2 => (evalE cf env c h2).toS env fun w h3 => .ok .nx (setSlot (setSlot (setSlot env i (some u)) j (some v)) l (some w)) h3 := id rfl
@[simp] theorem st_unpack {t : Tg} : evalS cf (.unpack t e) env h = ((evalE cf env e h).bind unP).toS env fun d h1 => match bindT t d env with
    | some env1 => .ok .nx env1 h1
    | none => .stuck := id rfl
@[simp] theorem st_setFld : evalS cf (.setFld i j e) env h = ((evalE cf env e h).bind unP).toS env fun d h1 => ofH env (setFldH env i j (.p d) h1) := id rfl
@[simp] theorem st_newFld : evalS cf (.newFld i j e) env h = ((evalE cf env e h).bind unP).toS env fun d h1 => ofH env ((listD d).bind fun ts => setFldH env i j (.l ts) h1) := id rfl
@[simp] theorem st_setIx {p q : E} : evalS cf (.setIx p q e) env h = ((evalE cf env e h).bind unP).toS env fun d h1 => match getL env h1 p with
    | none => .stuck
    | some _ => ((evalE cf env q h1).bind unP).toS env fun k h2 => ofH env (setIxH env p k d h2) := id rfl
@[simp] theorem st_app {p : E} : evalS cf (.app p e) env h = match getL env h p with
    | none => .stuck
    | some _ => ((evalE cf env e h).bind unP).toS env fun d h1 => ofH env (appH env p d h1) := id rfl
@[simp] theorem st_ext {p : E} : evalS cf (.ext p e) env h = match getL env h p with
    | none => .stuck
    | some _ => ((evalE cf env e h).bind unP).toS env fun d h1 => ofH env (extH env p d h1) := id rfl
@[simp] theorem st_expr : evalS cf (.expr e) env h = (evalE cf env e h).toS env fun _ h1 => .ok .nx env h1 := id rfl
@[simp] theorem st_if {t : Te} {x y : List S} : evalS cf (.if_ t x y) env h = (evalT cf env t h).toS env fun k h1 => if k then evalSs cf x env h1 else evalSs cf y env h1 := id rfl
@[simp] theorem st_for {t : Tg} {src : Src} {body : List S} : evalS cf (.for_ t src body) env h = (evalSrc cf env src h).toS env fun items h1 => forL (evalSs cf body) (bindT t) items env h1 := id rfl
@[simp] theorem st_ret : evalS cf (.ret e) env h = (evalE cf env e h).toS env fun v h1 => .ok (.rt v) env h1 := id rfl
@[simp] theorem st_raise {k : Nat} {es : List E} : evalS cf (.raise_ k es) env h = (evalPs cf env es h).toS env fun ds h1 => .exc ⟨k, ds⟩ env h1 := id rfl
@[simp] theorem st_pass : evalS cf .pass env h = .ok .nx env h := id rfl
@[simp] theorem st_brk : evalS cf .brk env h = .ok .bk env h := id rfl
@[simp] theorem st_cont : evalS cf .cont env h = .ok .ct env h := id rfl
end
@[simp] theorem unP_p {d : PyData} {h : Hi} : unP (.p d) h = .ok d h := id rfl
@[simp] theorem slot_0 {v : Option Val} {r : Ev} : slot (v :: r) 0 = v := id rfl
@[simp] theorem slot_s {v : Option Val} {r : Ev} {i : Nat} : slot (v :: r) (i + 1) = slot r i := id rfl
@[simp] theorem setSlot_0 {v w : Option Val} {r : Ev} : setSlot (v :: r) 0 w = w :: r := id rfl
@[simp] theorem setSlot_s {v w : Option Val} {r : Ev} {i : Nat} : setSlot (v :: r) (i + 1) w = v :: setSlot r i w := id rfl
@[simp] theorem startE_eq {np ns : Nat} {b : List S} {args : List Val} : startE ⟨np, ns, b⟩ args = args.map some ++ List.replicate (ns - args.length) none := id rfl
@[simp] theorem fin_rp {n : Nat} {d : PyData} {env : Ev} {h : Hi} : finF n (.ok (.rt (.p d)) env h) = .ok (.p d) (h.take n) := id rfl
@[simp] theorem fin_rr {n m : Nat} {env : Ev} {h : Hi} : finF n (.ok (.rt (.ref m)) env h) = .ok (.ref m) h := id rfl
@[simp] theorem fin_nx {n : Nat} {env : Ev} {h : Hi} : finF n (.ok .nx env h) = .ok (.p .none) (h.take n) := id rfl
@[simp] theorem fin_exc {n : Nat} {e : Ex} {env : Ev} {h : Hi} : finF n (.exc e env h) = .exc e (h.take n) := id rfl
@[simp] theorem ifK_eq {α : Type} {a b : Hi → R α} {k : Bool} {h : Hi} : ifK a b k h = if k = true then a h else b h := id rfl
@[simp] theorem andK_t {f : Hi → R Val} {h : Hi} {b : Bool} : andK f (.p (.bool b)) h = if b = true then f h else .ok (.p (.bool false)) h := by cases b <;> rfl
@[simp] theorem orK_t {f : Hi → R Val} {h : Hi} {b : Bool} : orK f (.p (.bool b)) h = if b = true then .ok (.p (.bool true)) h else f h := by cases b <;> rfl
@[simp] theorem notK_t {h : Hi} {b : Bool} : notK (.p (.bool b)) h = .ok (.p (.bool !b)) h := id rfl
@[simp] theorem truth_b {b : Bool} : truthD (.bool b) = some b := id rfl
@[simp] theorem truth_i {i : Int} : truthD (.int i) = some (i != 0) := id rfl
@[simp] theorem truth_l {ts : List PyData} : truthD (.list ts) = some (!ts.isEmpty) := id rfl
@[simp] theorem truth_t {ts : List PyData} : truthD (.tuple ts) = some (!ts.isEmpty) := id rfl
@[simp] theorem o_add {i j : Int} : opf2 .add (.int i) (.int j) = some (.int (i + j)) := id rfl
@[simp] theorem o_addI {i j : Int} : opf2 .addI (.int i) (.int j) = some (.int (i + j)) := id rfl
@[simp] theorem o_addT {xs ys : List PyData} : opf2 .add (.tuple xs) (.tuple ys) = if xs.length + ys.length ≤ sizeLine then some (.tuple (xs ++ ys)) else none := id rfl
@[simp] theorem o_sub {i j : Int} : opf2 .sub (.int i) (.int j) = some (.int (i - j)) := id rfl
theorem o_mul {i j : Int} (h : small64 i = true ∨ small64 j = true) : opf2 .mul (.int i) (.int j) = some (.int (i * j)) := by
  show (if small64 i || small64 j then some (PyData.int (i * j)) else none) = _
  rw [if_pos (by simpa using h)]
theorem o_mod {i j : Int} (h : j ≠ 0) : opf2 .mod (.int i) (.int j) = some (.int (i.fmod j)) := if_neg h
theorem o_div {i j : Int} (h : j ≠ 0) (h2 : j.natAbs < 1073741824) : opf2 .fdiv (.int i) (.int j) = some (.int (i.fdiv j)) := if_pos (by simp [h, h2])
@[simp] theorem o_lt {i j : Int} : opf2 .lt (.int i) (.int j) = some (.bool (decide (i < j))) := id rfl
@[simp] theorem o_le {i j : Int} : opf2 .le (.int i) (.int j) = some (.bool (decide (i ≤ j))) := id rfl
@[simp] theorem o_gt {i j : Int} : opf2 .gt (.int i) (.int j) = some (.bool (decide (j < i))) := id rfl
@[simp] theorem o_ge {i j : Int} : opf2 .ge (.int i) (.int j) = some (.bool (decide (j ≤ i))) := id rfl
@[simp] theorem o_max2 {i j : Int} : opf2 .max2 (.int i) (.int j) = some (.int (if j > i then j else i)) := id rfl
@[simp] theorem o_min2 {i j : Int} : opf2 .min2 (.int i) (.int j) = some (.int (if j < i then j else i)) := id rfl
@[simp] theorem o_ixL {xs : List PyData} {i : Int} : opf2 .ix (.list xs) (.int i) = atI xs i := id rfl
@[simp] theorem o_ixT {xs : List PyData} {i : Int} : opf2 .ix (.tuple xs) (.int i) = atI xs i := id rfl
@[simp] theorem o_neg {i : Int} : opf1 .neg (.int i) = some (.int (-i)) := id rfl
@[simp] theorem o_lenL {xs : List PyData} : opf1 .len (.list xs) = some (.int xs.length) := id rfl
@[simp] theorem o_lenT {xs : List PyData} : opf1 .len (.tuple xs) = some (.int xs.length) := id rfl
@[simp] theorem o_tupL {xs : List PyData} : opf1 .tuple (.list xs) = some (.tuple xs) := id rfl
@[simp] theorem o_tupT {xs : List PyData} : opf1 .tuple (.tuple xs) = some (.tuple xs) := id rfl
@[simp] theorem o_lstL {xs : List PyData} : opf1 .list (.list xs) = some (.list xs) := id rfl
@[simp] theorem o_lstT {xs : List PyData} : opf1 .list (.tuple xs) = some (.list xs) := id rfl
@[simp] theorem o_isNone {d : PyData} : opf1 .isNone d = some (.bool (isNoneD d)) := id rfl
@[simp] theorem o_notNone {d : PyData} : opf1 .notNone d = some (.bool (!isNoneD d)) := id rfl
@[simp] theorem intsD_map (ns : List Int) : intsD (ns.map .int) = some ns := by
  induction ns with
  | nil => rfl
  | cons n r ih => simp only [List.map_cons, intsD, ih, Option.map_some]
@[simp] theorem boolsD_map (ns : List Bool) : boolsD (ns.map .bool) = some ns := by
  induction ns with
  | nil => rfl
  | cons n r ih => simp only [List.map_cons, boolsD, ih, Option.map_some]
@[simp] theorem o_sumL {ns : List Int} : opf1 .sum (.list (ns.map .int)) = some (.int ns.sum) := by show (intsD _).map _ = _; rw [intsD_map]; rfl
@[simp] theorem o_sumT {ns : List Int} : opf1 .sum (.tuple (ns.map .int)) = some (.int ns.sum) := by show (intsD _).map _ = _; rw [intsD_map]; rfl
@[simp] theorem o_allL {ns : List Bool} : opf1 .all (.list (ns.map .bool)) = some (.bool (ns.all id)) := by show (boolsD _).map _ = _; rw [boolsD_map]; rfl
@[simp] theorem o_anyL {ns : List Bool} : opf1 .any (.list (ns.map .bool)) = some (.bool (ns.any id)) := by show (boolsD _).map _ = _; rw [boolsD_map]; rfl
@[simp] theorem items_L {xs : List PyData} : itemsOf (.list xs) = some xs := id rfl
@[simp] theorem items_T {xs : List PyData} : itemsOf (.tuple xs) = some xs := id rfl
@[simp] theorem bt_name {i : Nat} {d : PyData} {env : Ev} : bindT (.name i) d env = some (setSlot env i (some (.p d))) := id rfl
@[simp] theorem bt_tup {ts : List Tg} {ds : List PyData} {env : Ev} : bindT (.tup ts) (.tuple ds) env = bindTs ts ds env := id rfl
@[simp] theorem bts_nil {env : Ev} : bindTs [] [] env = some env := id rfl
@[simp] theorem bts_cons {t : Tg} {ts : List Tg} {d : PyData} {ds : List PyData} {env : Ev} : bindTs (t :: ts) (d :: ds) env = (bindT t d env).bind (bindTs ts ds) := id rfl
@[simp] theorem wipe_nil {env : Ev} : wipeE env [] = env := id rfl
@[simp] theorem wipe_cons {env : Ev} {v : Nat} {vs : List Nat} : wipeE env (v :: vs) = setSlot (wipeE env vs) v none := id rfl
section
variable {env : Ev} {h : Hi} {i : Nat} {r : R Val}
@[simp] theorem bor_op1 {o : O1} {a : E} : bor env h (.op1 o a) r = r.bind unP := id rfl
@[simp] theorem bor_op2 {o : O2} {a b : E} : bor env h (.op2 o a b) r = r.bind unP := id rfl
@[simp] theorem bor_op2b {o : O2} {a b : E} : bor env h (.op2b o a b) r = r.bind unP := id rfl
@[simp] theorem bor_op2d {o : O2} {a b : E} : bor env h (.op2d o a b) r = r.bind unP := id rfl
@[simp] theorem bor_op3b {o : O3} {a b c : E} : bor env h (.op3b o a b c) r = r.bind unP := id rfl
@[simp] theorem bor_lit {d : PyData} : bor env h (.lit d) r = r.bind unP := id rfl
@[simp] theorem bor_and {a b : E} : bor env h (.and_ a b) r = r.bind unP := id rfl
@[simp] theorem bor_or {a b : E} : bor env h (.or_ a b) r = r.bind unP := id rfl
@[simp] theorem bor_not {a : E} : bor env h (.not_ a) r = r.bind unP := id rfl
@[simp] theorem bor_ite {t : Te} {a b : E} : bor env h (.ite t a b) r = r.bind unP := id rfl
@[simp] theorem bor_tup {es : List E} : bor env h (.tup es) r = r.bind unP := id rfl
@[simp] theorem bor_lst {es : List E} : bor env h (.lst es) r = r.bind unP := id rfl
@[simp] theorem bor_call {f : Nat} {es : List E} : bor env h (.call f es) r = r.bind unP := id rfl
@[simp] theorem bor_meth {c f i : Nat} {es : List E} : bor env h (.meth c f i es) r = r.bind unP := id rfl
@[simp] theorem bor_comp {own : List Nat} {t : Tg} {src : Src} {cond : List Te} {elt : E} : bor env h (.comp own t src cond elt) r = r.bind unP := id rfl
@[simp] theorem bor_compB {j : Nat} {own : List Nat} {t : Tg} {cond : List Te} {elt : E} : bor env h (.compB j own t cond elt) r = r.bind unP := id rfl
@[simp] theorem bor_isi {a : E} {t : Ty} : bor env h (.isi a t) r = r.bind unP := id rfl
@[simp] theorem bor_pop {a : E} : bor env h (.pop i a) r = r.bind unP := id rfl
/-- a name: its slot first -/
def borV (o : Option Val) (h : Hi) (r : R Val) : R PyData := match o with
  | some (.ref n) => match listAt h n with
    | some ts => .ok (.list ts) h
    | none => r.bind unP
  | _ => r.bind unP
@[simp] theorem bor_var : bor env h (.var i) r = borV (slot env i) h r := by
  cases e : slot env i with
  | none =>
    simp only [bor, peek, lstOf, slotRef, borV, e, Option.bind_none, Option.map_none]
  | some v =>
    cases v with
    | p d => simp only [bor, peek, lstOf, slotRef, borV, e, Option.bind_none, Option.map_none]
    | ref n =>
      cases e2 : listAt h n with
      | none => simp only [bor, peek, lstOf, slotRef, borV, e, e2, Option.bind_some, Option.map_none]
      | some ts => simp only [bor, peek, lstOf, slotRef, borV, e, e2, Option.bind_some, Option.map_some]
@[simp] theorem borV_p {d : PyData} : borV (some (.p d)) h r = r.bind unP := id rfl
@[simp] theorem borV_r {n : Nat} : borV (some (.ref n)) h r = match listAt h n with
    | some ts => .ok (.list ts) h
    | none => r.bind unP := id rfl
end
def refOf : Option Val → Option Nat
  | some (.ref n) => some n
  | _ => none
@[simp] theorem refOf_r {n : Nat} : refOf (some (.ref n)) = some n := id rfl
@[simp] theorem refOf_p {d : PyData} : refOf (some (.p d)) = none := id rfl
@[simp] theorem slotRef_eq {env : Ev} {i : Nat} : slotRef env i = refOf (slot env i) := by
  unfold slotRef refOf
  cases slot env i with
  | none => rfl
  | some v => cases v <;> rfl
@[simp] theorem getL_var {env : Ev} {h : Hi} {i : Nat} : getL env h (.var i) = (refOf (slot env i)).bind (listAt h) := by
  simp only [getL, peek, lstOf, slotRef_eq]
  cases refOf (slot env i) with
  | none => rfl
  | some n =>
    simp only [Option.bind_some]
    cases listAt h n <;> rfl
@[simp] theorem lstOf_eq {env : Ev} {h : Hi} {i : Nat} : lstOf env h i = (refOf (slot env i)).bind fun n => (listAt h n).map fun ts => (n, ts) := by
  simp only [lstOf, slotRef_eq]
@[simp] theorem appH_var {env : Ev} {h : Hi} {i : Nat} {d : PyData} : appH env (.var i) d h = (getL env h (.var i)).bind fun ts => if ts.length < sizeLine then (refOf (slot env i)).map fun n => h.set n (.lst (ts ++ [d])) else none := by
  simp only [appH, storeL, slotRef_eq]
@[simp] theorem setIxH_var {env : Ev} {h : Hi} {i : Nat} {k : Int} {d : PyData} : setIxH env (.var i) (.int k) d h = (getL env h (.var i)).bind fun ts => (ixN ts.length k).bind fun j => (refOf (slot env i)).map fun n => h.set n (.lst (ts.set j d)) := by
  simp only [setIxH, storeL, slotRef_eq]
@[simp] theorem ixN_last {n : Nat} : ixN (n + 1) (-1) = some n := by
  unfold ixN
  rw [if_neg (by decide), if_pos (by omega)]
  congr 1
  omega
@[simp] theorem ofH_some {env : Ev} {h : Hi} : ofH env (some h) = .ok .nx env h := id rfl
@[simp] theorem ofH_none {env : Ev} : ofH env none = .stuck := id rfl
/-- a comprehension whose parts read only -/
theorem comp_pure {elt : Ev → Hi → R PyData} {cond : Ev → Hi → R Bool} {bt : PyData → Ev → Option Ev} {env : Ev} {h : Hi} {α : Type} (g : α → PyData) (f : α → PyData) (c : α → Bool) : ∀ {xs : List α}, (∀ x ∈ xs, ∃ env1, bt (g x) env = some env1 ∧ cond env1 h = .ok (c x) h ∧ (c x = true → elt env1 h = .ok (f x) h)) →
    compL elt cond bt env (xs.map g) h = .ok ((xs.filter c).map f) h
  | [], _ => rfl
  | x :: r, hx => by
    obtain ⟨env1, e1, e2, e3⟩ := hx x List.mem_cons_self
    have ih := comp_pure g f c (xs := r) fun y hy => hx y (List.mem_cons_of_mem _ hy)
    rw [List.map_cons]
    unfold compL
    rw [e1]
    simp only [e2, R.bind_ok]
    cases hc : c x with
    | false => simp only [Bool.false_eq_true, if_false, ih, List.filter_cons, hc]
    | true => simp only [if_true, e3 hc, R.bind_ok, ih, List.filter_cons, hc, List.map_cons]
theorem s64_fmod {a m : Int} (h0 : 0 < m) (h1 : m < 2 ^ 64) : small64 (a.fmod m) = true := by
  have := Int.fmod_nonneg_of_pos a h0
  have := Int.fmod_lt_of_pos a h0
  unfold small64
  rw [decide_eq_true_eq]
  omega
@[simp] theorem o_eqI {i j : Int} : opf2 .eq (.int i) (.int j) = some (.bool (decide (i = j))) := by
  show (some (PyData.eqv (.int i) (.int j))).map PyData.bool = _
  have : PyData.eqv (.int i) (.int j) = decide (i = j) := by
    by_cases h : i = j
    · subst h; simp [PyData.eqv]
    · simp [PyData.eqv, h]
  rw [this]; rfl
@[simp] theorem o_neI {i j : Int} : opf2 .ne (.int i) (.int j) = some (.bool !decide (i = j)) := by
  have := o_eqI (i := i) (j := j)
  have e : (eqD (.int i) (.int j)).map PyData.bool = some (.bool (decide (i = j))) := this
  cases h : eqD (.int i) (.int j) with
  | none => rw [h] at e; cases e
  | some b =>
    rw [h] at e
    have e2 : b = decide (i = j) := by simpa using e
    show (eqD (.int i) (.int j)).map (fun b => PyData.bool !b) = _
    rw [h, e2]; rfl
@[simp] theorem listAt_app {h : Hi} {ts : List PyData} : listAt (h ++ [.lst ts]) h.length = some ts := by
  unfold listAt
  rw [List.getElem?_append_right (Nat.le_refl _)]
  simp
@[simp] theorem set_app {h : Hi} {o o' : Ob} : (h ++ [o]).set h.length o' = h ++ [o'] := by
  rw [List.set_append_right _ _ (Nat.le_refl _)]
  simp
@[simp] theorem take_app {h : Hi} {o : Ob} : (h ++ [o]).take h.length = h := by simp
theorem size1000 : (1000 : Nat) < sizeLine := by decide
@[simp] theorem compK2_ok {run : List PyData → Hi → R (List PyData)} {items ys : List PyData} {h h' : Hi} (hz : items.length < sizeLine) (e : run items h = .ok ys h') : compK2 run items h = .ok (.p (.list ys)) h' := by
  unfold compK2
  rw [if_pos hz, e]
  rfl
section
variable {cf : Calls} {h : Hi}
theorem comp_ok {env : Ev} {own : List Nat} {t : Tg} {src : Src} {cond : List Te} {elt : E} {α : Type} (g f : α → PyData) (c : α → Bool) {xs : List α} (es : evalSrc cf env src h = .ok (xs.map g) h) (hz : xs.length < 1000)
    (hx : ∀ x ∈ xs, ∃ env1, bindT t (g x) (wipeE env own) = some env1 ∧ evalTs cf env1 cond h = .ok (c x) h ∧ (c x = true → (evalE cf env1 elt h).bind unP = .ok (f x) h)) :
    evalE cf env (.comp own t src cond elt) h = .ok (.p (.list ((xs.filter c).map f))) h := by
  rw [ev_comp, es]
  exact compK2_ok (by rw [List.length_map]; exact Nat.lt_trans hz size1000) (comp_pure g f c hx)
theorem comp_all {env : Ev} {own : List Nat} {t : Tg} {src : Src} {elt : E} {α : Type} (g f : α → PyData) {xs : List α} (es : evalSrc cf env src h = .ok (xs.map g) h) (hz : xs.length < 1000)
    (hx : ∀ x ∈ xs, ∃ env1, bindT t (g x) (wipeE env own) = some env1 ∧ (evalE cf env1 elt h).bind unP = .ok (f x) h) :
    evalE cf env (.comp own t src [] elt) h = .ok (.p (.list (xs.map f))) h := by
  have := comp_ok (cond := []) g f (fun _ => true) es hz fun x hm => by
    obtain ⟨env1, e1, e2⟩ := hx x hm
    exact ⟨env1, e1, rfl, fun _ => e2⟩
  rw [this, List.filter_eq_self.mpr fun _ _ => rfl]
theorem rngOk_small {i : Int} (h0 : 0 ≤ i) (h1 : i < 1000000) : rngOk i = true := by
  unfold rngOk
  exact decide_eq_true (by omega)
theorem src_rng1 {env : Ev} {a : E} {j : Int} (e : (evalE cf env a h).bind unP = .ok (.int j) h) (hj : rngOk j = true) : evalSrc cf env (.rng1 a) h = .ok (rangeD 0 j.toNat 1) h := by
  rw [es_rng1, e]
  exact if_pos hj
theorem src_rng2 {env : Ev} {a b : E} {i j : Int} (e : (evalE cf env a h).bind unP = .ok (.int i) h) (e2 : (evalE cf env b h).bind unP = .ok (.int j) h) (hi : rngOk i = true) (hj : rngOk j = true) : evalSrc cf env (.rng2 a b) h = .ok (rangeD i (j - i).toNat 1) h := by
  rw [es_rng2, e]
  show R.bind ((evalE cf env b h).bind unP) (fun e h2 => rng2K (.int i) e h2) = _
  rw [e2]
  exact if_pos ⟨hi, hj⟩
end
abbrev natD (i : Nat) : PyData := .int i
theorem depth_ints : ∀ ns : List Int, PyData.depthAll (ns.map .int) = 0
  | [] => rfl
  | n :: r => by
    rw [List.map_cons]
    show max (PyData.depth (.int n)) (PyData.depthAll (r.map .int)) = 0
    rw [depth_ints r]; rfl
theorem maxOk_ints (ns : List Int) : maxOk (ns.map .int) = true := by
  unfold maxOk
  rw [depth_ints]
  simp only [Bool.and_eq_true, List.all_eq_true, decide_eq_true_eq]
  refine ⟨⟨fun a ha b hb => ?_, fun a ha => ?_⟩, by omega⟩
  · obtain ⟨i, _, rfl⟩ := List.mem_map.mp ha
    obtain ⟨j, _, rfl⟩ := List.mem_map.mp hb
    rfl
  · obtain ⟨i, _, rfl⟩ := List.mem_map.mp ha
    rfl
def maxI : List Int → Int
  | [] => 0
  | n :: r => r.foldl max n
theorem maxS_ints {ns : List Int} (h : ns ≠ []) : maxS (ns.map .int) = some (.int (maxI ns)) := by
  cases ns with
  | nil => exact absurd rfl h
  | cons n r =>
    have := maxOk_ints (n :: r)
    rw [List.map_cons] at this ⊢
    show (if maxOk (.int n :: r.map .int) then some (PySem.W.maxD (.int n) (r.map .int)) else none) = _
    rw [if_pos this, PySem.W.maxD_ints]
    rfl
theorem o_maxT {ns : List Int} (h : ns ≠ []) : opf1 .max (.tuple (ns.map .int)) = some (.int (maxI ns)) := maxS_ints h
theorem foldl_max_mem : ∀ (r : List Int) (n : Int), r.foldl max n = n ∨ r.foldl max n ∈ r
  | [], n => .inl rfl
  | y :: r, n => by
    rw [List.foldl_cons]
    rcases foldl_max_mem r (max n y) with h | h
    · rw [h]
      by_cases e : n ≤ y
      · right; rw [Int.max_eq_right e]; exact List.mem_cons_self
      · left; exact Int.max_eq_left (by omega)
    · exact .inr (List.mem_cons_of_mem _ h)
theorem maxI_mem {ns : List Int} (h : ns ≠ []) : maxI ns ∈ ns := by
  cases ns with
  | nil => exact absurd rfl h
  | cons n r =>
    rcases foldl_max_mem r n with e | e
    · show r.foldl max n ∈ _
      rw [e]; exact List.mem_cons_self
    · exact List.mem_cons_of_mem _ e
theorem eqv_int {i j : Int} : PyData.eqv (.int i) (.int j) = decide (i = j) := by
  by_cases h : i = j
  · subst h; simp [PyData.eqv]
  · simp [PyData.eqv, h]
theorem rangeD_nat (n : Nat) : rangeD 0 n 1 = (List.range n).map natD := by
  unfold rangeD
  apply List.map_congr_left
  intro i _
  simp
end Cd
set_option Elab.async false
set_option linter.all false
set_option maxRecDepth 100000
set_option maxHeartbeats 4000000
namespace Cd
open PySem L2
structure RD where
  left : List Int
  laid : List Int
  gone : List Bool
  done : List Bool
  high : Int
  least : Int
  nxt : Option Nat
def nxD : Option Nat → PyData
  | none => .none
  | some k => .int k
def RD.fs (r : RD) : List Fld := [.l (r.left.map .int), .l (r.laid.map .int), .l (r.gone.map .bool), .l (r.done.map .bool), .p (.int r.high), .p (.int r.least), .p (nxD r.nxt)]
/-- an item (0, False beyond the end) -/
def gi (xs : List Int) (i : Nat) : Int := xs.getD i 0
def gb (xs : List Bool) (i : Nat) : Bool := xs.getD i false
def RD.must (r : RD) (s : Nat) : Bool := if gb r.gone s || decide (gi r.left s = 0) then false else (!gb r.done s) || decide (gi r.laid s < r.high)
def orderN (m here : Nat) : List Nat := (List.range (m - here)).map (here + ·) ++ List.range here
def RD.find (r : RD) (here : Nat) : RD := { r with nxt := if 1 < r.gone.count false then ((orderN r.laid.length here).filter r.must).head? else none }
section
variable {fns : Nat → Option FnD} {h : Hi} {n k : Nat} {r : RD} {s : Nat}
@[simp] theorem insOf_eq {env : Ev} {i : Nat} : insOf env h i = (refOf (slot env i)).bind fun n => (insAt h n).map fun p => (n, p) := by
  unfold insOf; rw [slotRef_eq]
@[simp] theorem methOk_eq {env : Ev} {c i : Nat} : methOk env h c i = match insOf env h i with
    | some p => if p.2.1 = c then some p.1 else none
    | none => none := id rfl
@[simp] theorem bor_fld {env : Ev} {i j : Nat} {rr : R Val} : bor env h (.fld i j) rr = match insOf env h i with
    | some p => (match p.2.2[j]? with
      | some (.l ts) => .ok (.list ts) h
      | _ => rr.bind unP)
    | none => rr.bind unP := by
  simp only [bor, peek]
  cases e : insOf env h i with
  | none => simp only [Option.bind_none]
  | some p =>
    simp only [Option.bind_some]
    cases e2 : p.2.2[j]? with
    | none => simp only
    | some u => cases u <;> simp only
@[simp] theorem fldK_p {d : PyData} : fldK (some (.p d)) = some (.p d) := id rfl
@[simp] theorem setFldH_eq {env : Ev} {i j : Nat} {f : Fld} : setFldH env i j f h = (insOf env h i).bind fun p => (putFl p.2.2 j f).map fun fs => h.set p.1 (.ins p.2.1 fs) := id rfl
theorem countP_bool (bs : List Bool) (b : Bool) : (bs.map PyData.bool).countP (fun x => PyData.eqv x (.bool b)) = bs.count b := by
  induction bs with
  | nil => rfl
  | cons c r ih =>
    rw [List.map_cons, List.countP_cons, List.count_cons, ih]
    cases b <;> cases c <;> rfl
@[simp] theorem o_countB {bs : List Bool} {b : Bool} : opf2 .count (.list (bs.map .bool)) (.bool b) = some (.int (bs.count b : Nat)) := by
  show (if scalD (.bool b) && (bs.map PyData.bool).all scalD then some (PyData.int ((bs.map PyData.bool).countP fun x => PyData.eqv x (.bool b))) else none) = _
  rw [countP_bool, if_pos]
  simp only [scalD, Bool.true_and, List.all_map]
  exact List.all_eq_true.mpr fun x _ => rfl
@[simp] theorem o_addL {xs ys : List PyData} : opf2 .add (.list xs) (.list ys) = if xs.length + ys.length ≤ sizeLine then some (.list (xs ++ ys)) else none := id rfl
end
end Cd
set_option Elab.async false
set_option linter.all false
set_option maxRecDepth 100000
set_option maxHeartbeats 4000000
namespace Cd
open PySem L2
section
variable {fns : Nat → Option FnD} {h : Hi} {n k : Nat} {r : RD} {s : Nat}
@[simp] theorem fs_0 : r.fs[0]? = some (.l (r.left.map .int)) := id rfl
@[simp] theorem fs_1 : r.fs[1]? = some (.l (r.laid.map .int)) := id rfl
@[simp] theorem fs_2 : r.fs[2]? = some (.l (r.gone.map .bool)) := id rfl
@[simp] theorem fs_3 : r.fs[3]? = some (.l (r.done.map .bool)) := id rfl
@[simp] theorem fs_4 : r.fs[4]? = some (.p (.int r.high)) := id rfl
@[simp] theorem fs_5 : r.fs[5]? = some (.p (.int r.least)) := id rfl
@[simp] theorem fs_6 : r.fs[6]? = some (.p (nxD r.nxt)) := id rfl
@[simp] theorem fs_s0 {xs : List Int} : r.fs.set 0 (.l (xs.map .int)) = ({ r with left := xs } : RD).fs := id rfl
@[simp] theorem fs_s1 {xs : List Int} : r.fs.set 1 (.l (xs.map .int)) = ({ r with laid := xs } : RD).fs := id rfl
@[simp] theorem fs_s2 {xs : List Bool} : r.fs.set 2 (.l (xs.map .bool)) = ({ r with gone := xs } : RD).fs := id rfl
@[simp] theorem fs_s3 {xs : List Bool} : r.fs.set 3 (.l (xs.map .bool)) = ({ r with done := xs } : RD).fs := id rfl
@[simp] theorem fs_p3 {xs : List Bool} : putFl r.fs 3 (.l (xs.map .bool)) = some ({ r with done := xs } : RD).fs := id rfl
@[simp] theorem fs_p4 {v : Int} : putFl r.fs 4 (.p (.int v)) = some ({ r with high := v } : RD).fs := id rfl
@[simp] theorem fs_p5 {v : Int} : putFl r.fs 5 (.p (.int v)) = some ({ r with least := v } : RD).fs := id rfl
@[simp] theorem fs_p60 : putFl r.fs 6 (.p .none) = some ({ r with nxt := none } : RD).fs := id rfl
@[simp] theorem nxD_none : nxD none = .none := id rfl
@[simp] theorem nxD_some {v : Nat} : nxD (some v) = .int (v : Int) := id rfl
@[simp] theorem isNone_none : isNoneD .none = true := id rfl
@[simp] theorem isNone_int {v : Int} : isNoneD (.int v) = false := id rfl
@[simp] theorem getL_fld {env : Ev} {i j : Nat} : getL env h (.fld i j) = (insOf env h i).bind fun p => match p.2.2[j]? with
    | some (.l ts) => some ts
    | _ => none := by
  simp only [getL, peek]
  cases insOf env h i with
  | none => simp only [Option.bind_none]
  | some p =>
    simp only [Option.bind_some]
    cases p.2.2[j]? with
    | none => simp only
    | some u => cases u <;> simp only
@[simp] theorem setIxH_fld {env : Ev} {i j : Nat} {q : Int} {d : PyData} : setIxH env (.fld i j) (.int q) d h = (getL env h (.fld i j)).bind fun ts => (ixN ts.length q).bind fun x => (refOf (slot env i)).bind fun n => (insAt h n).map fun p => h.set n (.ins p.1 (p.2.set j (.l (ts.set x d)))) := by
  simp only [setIxH, storeL, slotRef_eq]
theorem ixN_nat {m s : Nat} (hs : s < m) : ixN m (s : Int) = some s := by
  unfold ixN
  rw [if_pos (by omega), if_pos (by omega)]
  simp
@[simp] theorem set_mapI {xs : List Int} {i : Nat} {v : Int} : (xs.map PyData.int).set i (.int v) = (xs.set i v).map .int := by rw [List.map_set]
@[simp] theorem set_mapB {xs : List Bool} {i : Nat} {v : Bool} : (xs.map PyData.bool).set i (.bool v) = (xs.set i v).map .bool := by rw [List.map_set]
@[simp] theorem take_set {o : Ob} : (h.set n o).take h.length = h.set n o := List.take_of_length_le (by simp)
def RD.endR (r : RD) (s : Nat) : RD := ({ r with done := r.done.set s true } : RD).find (if s + 1 = r.laid.length then 0 else s + 1)
def RD.layR (r : RD) (s : Nat) (v : Int) : RD := { r with left := r.left.set s (gi r.left s - v), laid := r.laid.set s (gi r.laid s + v) }
def minV (x y : Int) : Int := if y < x then y else x
def RD.callR (r : RD) (s : Nat) : RD := (r.layR s (minV (r.high - gi r.laid s) (gi r.left s))).endR s
end
end Cd
set_option Elab.async false
set_option linter.all false
set_option maxRecDepth 100000
set_option maxHeartbeats 4000000
namespace Cd
open PySem L2
section
variable {fns : Nat → Option FnD} {h : Hi} {n k t : Nat} {r : RD} {s : Nat} {cf : Calls}
end
end Cd
set_option Elab.async false
set_option linter.all false
set_option maxRecDepth 100000
set_option maxHeartbeats 4000000
namespace Cd
open PySem L2
def hT (h : Hi) (t k : Nat) : Hi := h.set t (.lst (List.replicate k (.int 0)))
structure HasD (fns : Nat → Option FnD) : Prop where
  f13 : fns 13 = some d13
  f14 : fns 14 = some d14
section
variable {fns : Nat → Option FnD} {h : Hi} {n k t q : Nat} {r : RD} {s : Nat} {cf : Calls}
@[simp] theorem hT_len : (hT h t k).length = h.length := by unfold hT; rw [List.length_set]
@[simp] theorem hT_take {o : Nat} : (hT h t o).take h.length = hT h t o := List.take_of_length_le (by simp)
theorem hT_at (ht : t < h.length) : listAt (hT h t k) t = some (List.replicate k (.int 0)) := by
  unfold listAt hT
  rw [List.getElem?_set_self ht]
theorem hT_set : (hT h t k).set t (.lst (List.replicate q (.int 0))) = hT h t q := by unfold hT; rw [List.set_set]
theorem hT_comm {o : Ob} (hn : n ≠ t) : (hT h t k).set n o = hT (h.set n o) t k := by
  unfold hT
  rw [List.set_comm _ _ hn.symm]
theorem rep_add {α : Type} (k : Nat) (a : α) : List.replicate k a ++ [a] = List.replicate (k + 1) a := by rw [List.replicate_succ']
theorem fmod_ix {j m : Int} (hm : 0 < m) : 0 ≤ j.fmod m ∧ j.fmod m < m := ⟨Int.fmod_nonneg_of_pos j hm, Int.fmod_lt_of_pos j hm⟩
theorem atI_ok {xs : List PyData} {i : Int} (h0 : 0 ≤ i) (h1 : i < xs.length) : ∃ x ∈ xs, atI xs i = some x := by
  obtain ⟨j, rfl⟩ := Int.eq_ofNat_of_zero_le h0
  have hj : j < xs.length := by omega
  refine ⟨xs[j], List.getElem_mem hj, ?_⟩
  show atI xs (j : Int) = _
  simp [atI_nat, hj]
theorem s64_c {i : Int} (h : i.natAbs < 18446744073709551616) : small64 i = true := decide_eq_true h
/-- the number drawn -/
def drawV (c : Int) (k : Nat) (m : Int) : Int :=
  let n1 := (c + 104729 * (k : Int)).fmod 4294967291
  let n2 := ((n1 * n1).fmod 4294967279 * 48271).fmod 4294967291
  let n3 := ((n2 * n2).fmod 4294967279 * 69621).fmod 4294967291
  (n2.fdiv 64 * 67108864 + n3.fdiv 64).fmod m
theorem draw_eval (F : fns 13 = some d13) (ns : List Int) {m : Int} (ht : t < h.length) (hk : k < 1000000) (hm : 0 < m) :
    ∃ v, 0 ≤ v ∧ v < m ∧ callF fns (q + 1) 13 [.p (.list (ns.map .int)), .ref t, .p (.int m)] (hT h t k) = .ok (.p (.int v)) (hT h t (k + 1)) := by
  rw [call_eq F rfl]
  generalize callF fns q = cf
  have hz : k < sizeLine := Nat.lt_trans hk (by decide)
  have e1 := hT_at (k := k) ht
  have e2 := hT_at (k := k + 1) ht
  let A := PyData.list (ns.map PyData.int)
  have t1 : ∀ env, evalS cf (.app (.var 1) (.lit (.int 0))) (some (.p A) :: some (.ref t) :: env) (hT h t k) = .ok .nx (some (.p A) :: some (.ref t) :: env) (hT h t (k + 1)) := fun env => by
    simp [e1, hz]
    rw [rep_add, hT_set]
  have t2 : ∀ a2 env, evalS cf (.set 3 (.op1 .len (.var 1))) (some (.p A) :: some (.ref t) :: a2 :: none :: env) (hT h t (k + 1)) = .ok .nx (some (.p A) :: some (.ref t) :: a2 :: some (.p (.int ((k + 1 : Nat) : Int))) :: env) (hT h t (k + 1)) := fun a2 env => by
    simp [e2]
  have t3 : ∃ c, ∀ a2 env, evalS cf (.if_ (.val (.var 0)) [.set 4 (.op2b .ix (.var 0) (.op2d .mod (.var 3) (.op1 .len (.var 0))))] []) (some (.p A) :: some (.ref t) :: a2 :: some (.p (.int ((k + 1 : Nat) : Int))) :: some (.p (.int 0)) :: env) (hT h t (k + 1)) = .ok .nx (some (.p A) :: some (.ref t) :: a2 :: some (.p (.int ((k + 1 : Nat) : Int))) :: some (.p (.int c)) :: env) (hT h t (k + 1)) := by
    cases ns with
    | nil => exact ⟨0, fun a2 env => by simp [A]⟩
    | cons a l =>
      have hp : (0 : Int) < ((a :: l).length : Int) := by rw [List.length_cons]; omega
      obtain ⟨h0, h1⟩ := fmod_ix (j := ((k + 1 : Nat) : Int)) hp
      obtain ⟨x, hx, e⟩ := atI_ok (xs := (a :: l).map PyData.int) h0 (by simpa using h1)
      obtain ⟨c, _, rfl⟩ := List.mem_map.mp hx
      refine ⟨c, fun a2 env => ?_⟩
      have e3 : opf2 .mod (.int ((k + 1 : Nat) : Int)) (.int ((a :: l).length : Int)) = some (.int (((k + 1 : Nat) : Int).fmod ((a :: l).length : Int))) := o_mod (by omega)
      simp only [st_if, et_val, bor_var, slot_0, slot_s, A, borV_p, ev_var, ofO_some, R.bind_ok, unP_p, truth_l, List.map_cons, List.isEmpty_cons, Bool.not_false, R.toS_ok, if_true, ss_cons, st_set, ev_op2b, ev_op2d, ev_op1, o_lenL, List.length_cons, List.length_map, Option.map_some] at e e3 ⊢
      rw [e3]
      simp only [Option.map_some, ofO_some, R.bind_ok, unP_p, o_ixL, e, R.toS_ok, setSlot_0, setSlot_s, RS.bind_nx, ss_nil]
  obtain ⟨c, t3⟩ := t3
  refine ⟨drawV c (k + 1) m, (fmod_ix hm).1, (fmod_ix hm).2, ?_⟩
  have m1 : ∀ x, opf2 .mul (.int 104729) (.int x) = some (.int (104729 * x)) := fun x => o_mul (.inl (s64_c (by decide)))
  have m2 : ∀ x : Int, opf2 .mul (.int (x.fmod 4294967291)) (.int (x.fmod 4294967291)) = some (.int (x.fmod 4294967291 * x.fmod 4294967291)) := fun x => o_mul (.inl (s64_fmod (by decide) (by decide)))
  have m3 : ∀ (x c : Int), c.natAbs < 18446744073709551616 → opf2 .mul (.int x) (.int c) = some (.int (x * c)) := fun x c hc => o_mul (.inr (s64_c hc))
  have m4 : ∀ x : Int, opf2 .mod (.int x) (.int 4294967291) = some (.int (x.fmod 4294967291)) := fun x => o_mod (by decide)
  have m5 : ∀ x : Int, opf2 .mod (.int x) (.int 4294967279) = some (.int (x.fmod 4294967279)) := fun x => o_mod (by decide)
  have m6 : ∀ x : Int, opf2 .fdiv (.int x) (.int 64) = some (.int (x.fdiv 64)) := fun x => o_div (by decide) (by decide)
  have m7 : ∀ x : Int, opf2 .mod (.int x) (.int m) = some (.int (x.fmod m)) := fun x => o_mod (by omega)
  have m8 := fun x => m3 x 48271 (by decide)
  have m9 := fun x => m3 x 69621 (by decide)
  have m10 := fun x => m3 x 67108864 (by decide)
  generalize hn1 : (c + 104729 * ((k + 1 : Nat) : Int)).fmod 4294967291 = n1
  generalize hn2 : ((n1 * n1).fmod 4294967279 * 48271).fmod 4294967291 = n2
  generalize hn3 : ((n2 * n2).fmod 4294967279 * 69621).fmod 4294967291 = n3
  have ev : drawV c (k + 1) m = (n2.fdiv 64 * 67108864 + n3.fdiv 64).fmod m := by
    unfold drawV
    simp only [hn1, hn2, hn3]
  have q1 : opf2 .mul (.int n1) (.int n1) = some (.int (n1 * n1)) := by rw [← hn1]; exact m2 _
  have q2 : opf2 .mul (.int n2) (.int n2) = some (.int (n2 * n2)) := by rw [← hn2]; exact m2 _
  have t4 : ∀ a2 a6, evalS cf (.set 5 (.op2d .mod (.op2d .add (.var 4) (.op2d .mul (.lit (.int 104729)) (.var 3))) (.lit (.int 4294967291)))) [some (.p A), some (.ref t), a2, some (.p (.int ((k + 1 : Nat) : Int))), some (.p (.int c)), none, a6] (hT h t (k + 1)) = .ok .nx [some (.p A), some (.ref t), a2, some (.p (.int ((k + 1 : Nat) : Int))), some (.p (.int c)), some (.p (.int n1)), a6] (hT h t (k + 1)) := fun a2 a6 => by
    simp only [st_set, ev_op2d, ev_var, ev_lit, slot_0, slot_s, ofO_some, R.bind_ok, unP_p, m1, Option.map_some, o_add, m4, hn1, R.toS_ok, setSlot_0, setSlot_s]
  have t5 : ∀ a2 a3 a6, evalS cf (.set 5 (.op2d .mod (.op2d .mul (.op2d .mod (.op2d .mul (.var 5) (.var 5)) (.lit (.int 4294967279))) (.lit (.int 48271))) (.lit (.int 4294967291)))) [some (.p A), some (.ref t), a2, a3, some (.p (.int c)), some (.p (.int n1)), a6] (hT h t (k + 1)) = .ok .nx [some (.p A), some (.ref t), a2, a3, some (.p (.int c)), some (.p (.int n2)), a6] (hT h t (k + 1)) := fun a2 a3 a6 => by
    simp only [st_set, ev_op2d, ev_var, ev_lit, slot_0, slot_s, ofO_some, R.bind_ok, unP_p, q1, m5, m8, Option.map_some, m4, hn2, R.toS_ok, setSlot_0, setSlot_s]
  have t6 : ∀ a2 a3, evalS cf (.set 6 (.op2d .mod (.op2d .mul (.op2d .mod (.op2d .mul (.var 5) (.var 5)) (.lit (.int 4294967279))) (.lit (.int 69621))) (.lit (.int 4294967291)))) [some (.p A), some (.ref t), a2, a3, some (.p (.int c)), some (.p (.int n2)), none] (hT h t (k + 1)) = .ok .nx [some (.p A), some (.ref t), a2, a3, some (.p (.int c)), some (.p (.int n2)), some (.p (.int n3))] (hT h t (k + 1)) := fun a2 a3 => by
    simp only [st_set, ev_op2d, ev_var, ev_lit, slot_0, slot_s, ofO_some, R.bind_ok, unP_p, q2, m5, m9, Option.map_some, m4, hn3, R.toS_ok, setSlot_0, setSlot_s]
  have t7 : ∀ a3, evalS cf (.ret (.op2d .mod (.op2d .add (.op2d .mul (.op2d .fdiv (.var 5) (.lit (.int 64))) (.lit (.int 67108864))) (.op2d .fdiv (.var 6) (.lit (.int 64)))) (.var 2))) [some (.p A), some (.ref t), some (.p (.int m)), a3, some (.p (.int c)), some (.p (.int n2)), some (.p (.int n3))] (hT h t (k + 1)) = .ok (.rt (.p (.int (drawV c (k + 1) m)))) [some (.p A), some (.ref t), some (.p (.int m)), a3, some (.p (.int c)), some (.p (.int n2)), some (.p (.int n3))] (hT h t (k + 1)) := fun a3 => by
    simp only [st_ret, ev_op2d, ev_var, ev_lit, slot_0, slot_s, ofO_some, R.bind_ok, unP_p, m6, m10, Option.map_some, o_add, m7, ← ev, R.toS_ok]
  have t0 : ∀ a2 a3 a5 a6, evalS cf (.set 4 (.lit (.int 0))) [some (.p A), some (.ref t), a2, a3, none, a5, a6] (hT h t (k + 1)) = .ok .nx [some (.p A), some (.ref t), a2, a3, some (.p (.int 0)), a5, a6] (hT h t (k + 1)) := fun a2 a3 a5 a6 => by simp
  show finF (hT h t k).length (evalSs cf b13 [some (.p A), some (.ref t), some (.p (.int m)), none, none, none, none] (hT h t k)) = _
  unfold b13
  rw [ss_cons, t1, RS.bind_nx, ss_cons, t2, RS.bind_nx, ss_cons, t0, RS.bind_nx, ss_cons, t3, RS.bind_nx, ss_cons, t4, RS.bind_nx, ss_cons, t5, RS.bind_nx, ss_cons, t6, RS.bind_nx, ss_cons, t7, RS.bind_rt, fin_rp, hT_len, hT_take]
theorem pick_eval (F : HasD fns) (ns : List Int) {xs : List PyData} (ht : t < h.length) (hk : k < 1000000) (hx : xs ≠ []) :
    ∃ x ∈ xs, callF fns (q + 2) 14 [.p (.list (ns.map .int)), .ref t, .p (.list xs)] (hT h t k) = .ok (.p x) (hT h t (k + 1)) := by
  rw [call_eq F.f14 rfl]
  have hp : (0 : Int) < (xs.length : Int) := by have := List.length_pos_iff.mpr hx; omega
  obtain ⟨v, h0, h1, e⟩ := draw_eval (q := q) (k := k) F.f13 ns ht hk hp
  generalize callF fns (q + 1) = cf at e
  obtain ⟨x, hm, e2⟩ := atI_ok h0 h1
  refine ⟨x, hm, ?_⟩
  simp [d14, b14, e, e2]
end
end Cd
set_option Elab.async false
set_option linter.all false
set_option maxRecDepth 100000
set_option maxHeartbeats 4000000
namespace Cd
open PySem L2
section
variable {fns : Nat → Option FnD} {h : Hi} {n k t q : Nat} {r : RD} {s : Nat} {cf : Calls}
/-- a comprehension whose parts draw c numbers each -/
theorem compL_town {elt : Ev → Hi → R PyData} {bt : PyData → Ev → Option Ev} {env : Ev} {α β : Type} (g : α → PyData) (f : β → PyData) (c B : Nat) (P : α → β → Prop) :
    ∀ (xs : List α) (k : Nat), (∀ x ∈ xs, ∀ j, j < B → ∃ y, P x y ∧ ∃ env1, bt (g x) env = some env1 ∧ elt env1 (hT h t j) = .ok (f y) (hT h t (j + c))) → k + c * xs.length ≤ B → (xs ≠ [] → 0 < c) →
    ∃ ys : List β, ys.length = xs.length ∧ (∀ i (hi : i < xs.length) (hj : i < ys.length), P xs[i] ys[i]) ∧ compL elt (fun _ h => .ok true h) bt env (xs.map g) (hT h t k) = .ok (ys.map f) (hT h t (k + c * xs.length))
  | [], k, _, _, _ => ⟨[], rfl, fun i hi => absurd hi (by simp), by simp [compL]⟩
  | x :: xs, k, hx, hB, hc => by
    have c0 := hc (by simp)
    rw [List.length_cons, Nat.mul_succ] at hB
    obtain ⟨y, py, env1, e1, e2⟩ := hx x List.mem_cons_self k (by omega)
    obtain ⟨ys, l1, l2, l3⟩ := compL_town (elt := elt) (bt := bt) (env := env) g f c B P xs (k + c) (fun z hz => hx z (List.mem_cons_of_mem _ hz)) (by omega) (fun _ => c0)
    refine ⟨y :: ys, by simp [l1], fun i hi hj => ?_, ?_⟩
    · cases i with
      | zero => exact py
      | succ i => exact l2 i (by simpa using hi) (by simpa using hj)
    · rw [List.map_cons]
      unfold compL
      rw [e1]
      simp only [R.bind_ok, if_true, e2, l3, List.map_cons]
      congr 2
      rw [List.length_cons, Nat.mul_succ]; omega
end
end Cd
set_option Elab.async false
set_option linter.all false
set_option maxRecDepth 100000
set_option maxHeartbeats 4000000
namespace Cd
open PySem L2
section
variable {fns : Nat → Option FnD} {h : Hi} {n k t q : Nat} {r : RD} {s : Nat} {cf : Calls}
theorem eqv_str {x y : Str} : PyData.eqv (.str x) (.str y) = decide (x = y) := by
  by_cases h : x = y
  · subst h; simp [PyData.eqv]
  · simp [PyData.eqv, h]
@[simp] theorem o_eqS {x y : Str} : opf2 .eq (.str x) (.str y) = some (.bool (decide (x = y))) := by
  show (some (PyData.eqv (.str x) (.str y))).map PyData.bool = _
  rw [eqv_str]; rfl
@[simp] theorem o_neS {x y : Str} : opf2 .ne (.str x) (.str y) = some (.bool !decide (x = y)) := by
  show (some (PyData.eqv (.str x) (.str y))).map (fun b => PyData.bool !b) = _
  rw [eqv_str]; rfl
theorem lay_mapI : ∀ xs : List Int, PyData.canLayAll0 (xs.map .int) = true
  | [] => by simp [PyData.canLayAll0]
  | x :: xs => by simp [PyData.canLayAll0, PyData.canLay0, lay_mapI xs]
theorem ss_try_ok {body : List S} {hs : List (Nat × List S)} {env env1 : Ev} {h h1 : Hi} {fl : Fl} (e : evalSs cf body env h = .ok fl env1 h1) : evalS cf (.try_ body hs) env h = .ok fl env1 h1 := by
  show (match evalSs cf body env h with
    | .exc e env1 h1 => evalHs cf hs e env1 h1
    | r => r) = _
  rw [e]
theorem ss_try_exc {body : List S} {hs : List (Nat × List S)} {env env1 : Ev} {h h1 : Hi} {x : Ex} (e : evalSs cf body env h = .exc x env1 h1) : evalS cf (.try_ body hs) env h = evalHs cf hs x env1 h1 := by
  show (match evalSs cf body env h with
    | .exc e env1 h1 => evalHs cf hs e env1 h1
    | r => r) = _
  rw [e]
theorem hs_cons {c : Nat} {b : List S} {hs : List (Nat × List S)} {x : Ex} {env : Ev} : evalHs cf ((c, b) :: hs) x env h = if subC x.c c = true then evalSs cf b env h else evalHs cf hs x env h := id rfl
end
end Cd
set_option Elab.async false
set_option linter.all false
set_option maxRecDepth 100000
set_option maxHeartbeats 4000000
namespace Cd
open PySem L2
theorem forL_inv {body : Ev → Hi → RS} {bt : PyData → Ev → Option Ev} (I : Nat → Ev → Hi → Prop) : ∀ (items : List PyData) (i : Nat) (env : Ev) (h : Hi), I i env h →
    (∀ j env h, i ≤ j → j < i + items.length → ∀ x, items[j - i]? = some x → I j env h → ∃ env1, bt x env = some env1 ∧ ∃ fl env' h', body env1 h = .ok fl env' h' ∧ (fl = .nx ∨ fl = .ct) ∧ I (j + 1) env' h') →
    ∃ env' h', forL body bt items env h = .ok .nx env' h' ∧ I (i + items.length) env' h'
  | [], i, env, h, h0, _ => ⟨env, h, rfl, h0⟩
  | x :: r, i, env, h, h0, st => by
    obtain ⟨env1, e1, fl, env2, h2, e2, hf, h3⟩ := st i env h (Nat.le_refl _) (by simp) x (by simp) h0
    obtain ⟨env', h', e3, h4⟩ := forL_inv I r (i + 1) env2 h2 h3 fun j env h a b y hy hI => st j env h (by omega) (by rw [List.length_cons]; omega) y (by
      rw [show j - i = (j - (i + 1)) + 1 by omega, List.getElem?_cons_succ]; exact hy) hI
    refine ⟨env', h', ?_, by rw [List.length_cons, show i + (r.length + 1) = i + 1 + r.length by omega]; exact h4⟩
    unfold forL
    rw [e1]
    rcases hf with rfl | rfl
    · simp only [e2]; exact e3
    · simp only [e2]; exact e3
def G1 (H : Hi) (r : RD) (k : Nat) : Hi := hT (H ++ [.ins 0 r.fs]) 0 k
def G2 (H : Hi) (r1 r2 : RD) (k : Nat) : Hi := hT (H ++ [.ins 0 r1.fs, .ins 0 r2.fs]) 0 k
section
variable {fns : Nat → Option FnD} {H h : Hi} {n k t q : Nat} {r r1 r2 : RD} {s : Nat} {cf : Calls}
theorem hT_app {o : Ob} (h0 : t < h.length) : hT h t k ++ [o] = hT (h ++ [o]) t k := by
  unfold hT
  rw [List.set_append_left _ _ h0]
@[simp] theorem G1_len : (G1 H r k).length = H.length + 1 := by simp [G1]
@[simp] theorem G2_len : (G2 H r1 r2 k).length = H.length + 2 := by simp [G2]
theorem call_len : (r.callR s).laid.length = r.laid.length := by
  show (r.laid.set _ _).length = _
  rw [List.length_set]
end
end Cd
set_option Elab.async false
set_option linter.all false
set_option maxRecDepth 100000
set_option maxHeartbeats 4000000
namespace Cd
open PySem L2
theorem cutD_map {α : Type} (f : α → PyData) (xs : List α) (lo hi : Option Int) : cutD (xs.map f) lo hi = ((xs.drop (HT.sIx xs.length 0 lo)).take (HT.sIx xs.length xs.length hi - HT.sIx xs.length 0 lo)).map f := by
  unfold cutD
  rw [List.length_map, ← List.map_drop, ← List.map_take]
def cutM {α : Type} (xs : List α) (lo hi : Option Int) : List α := (xs.drop (HT.sIx xs.length 0 lo)).take (HT.sIx xs.length xs.length hi - HT.sIx xs.length 0 lo)
theorem slice_T {α : Type} {f : α → PyData} {xs : List α} {l u : Bool} {a b : PyData} {lo hi : Option Int} (e1 : partD l a = some lo) (e2 : partD u b = some hi) : opf3 (.slice l u) (.tuple (xs.map f)) a b = some (.tuple ((cutM xs lo hi).map f)) := by
  show ((partD l a).bind fun lo => (partD u b).map fun hi => PyData.tuple (cutD (xs.map f) lo hi)) = _
  rw [e1, e2, Option.bind_some, Option.map_some, cutD_map]
  rfl
theorem cut_lo {α : Type} (xs : List α) (j : Nat) : cutM xs none (some (j : Int)) = xs.take j := by
  unfold cutM
  rw [HT.sIx_none, HT.sIx_nat, List.drop_zero, Nat.sub_zero]
  by_cases h : j ≤ xs.length
  · rw [Nat.min_eq_left h]
  · rw [Nat.min_eq_right (by omega), List.take_of_length_le (Nat.le_refl _), List.take_of_length_le (by omega)]
theorem cut_hi {α : Type} (xs : List α) (j : Nat) (h : j ≤ xs.length) : cutM xs (some (j : Int)) none = xs.drop j := by
  unfold cutM
  rw [HT.sIx_none, HT.sIx_nat, Nat.min_eq_left h]
  exact List.take_of_length_le (by simp)
theorem sz_ok {n : Nat} (h : n ≤ 1000) : n ≤ sizeLine := Nat.le_trans h (Nat.le_of_lt size1000)
theorem addT_ok {xs ys : List PyData} (h : xs.length + ys.length ≤ 1000) : opf2 .add (.tuple xs) (.tuple ys) = some (.tuple (xs ++ ys)) := o_addT.trans (if_pos (sz_ok h))
theorem shaped_seq {ds : List PyData} (hz : ds.length < 1000) (hl : PyData.canLayAll0 ds = true) (hd : PyData.depthAll ds ≤ 60) : SeqAt.shaped (.tuple ds) = true ∧ SeqAt.shaped (.list ds) = true := by
  have z := Nat.le_of_lt (Nat.lt_trans hz size1000)
  have d1 : PyData.depth (.tuple ds) ≤ 64 := by show PyData.depthAll ds + 1 ≤ 64; omega
  have d2 : PyData.depth (.list ds) ≤ 64 := by show PyData.depthAll ds + 1 ≤ 64; omega
  unfold SeqAt.shaped
  rw [decide_eq_true d1, decide_eq_true d2]
  simp [PyData.canLay0, hl, z]
theorem shapedI {xs : List Int} (hz : xs.length < 1000) : SeqAt.shaped (.tuple (xs.map .int)) = true ∧ SeqAt.shaped (.list (xs.map .int)) = true := shaped_seq (by simpa using hz) (lay_mapI xs) (by rw [depth_ints]; omega)
def minI : List Int → Int
  | [] => 0
  | n :: r => r.foldl min n
theorem foldl_min_mem : ∀ (r : List Int) (n : Int), r.foldl min n = n ∨ r.foldl min n ∈ r
  | [], n => .inl rfl
  | y :: r, n => by
    rw [List.foldl_cons]
    rcases foldl_min_mem r (min n y) with h | h
    · rw [h]
      by_cases e : n ≤ y
      · left; exact Int.min_eq_left e
      · right; rw [Int.min_eq_right (by omega)]; exact List.mem_cons_self
    · exact .inr (List.mem_cons_of_mem _ h)
theorem minI_mem {ns : List Int} (h : ns ≠ []) : minI ns ∈ ns := by
  cases ns with
  | nil => exact absurd rfl h
  | cons n r =>
    rcases foldl_min_mem r n with e | e
    · show r.foldl min n ∈ _
      rw [e]; exact List.mem_cons_self
    · exact List.mem_cons_of_mem _ e
theorem foldl_min_le : ∀ (r : List Int) (n : Int), r.foldl min n ≤ n ∧ ∀ x ∈ r, r.foldl min n ≤ x
  | [], n => ⟨Int.le_refl _, fun _ h => nomatch h⟩
  | y :: r, n => by
    obtain ⟨h1, h2⟩ := foldl_min_le r (min n y)
    rw [List.foldl_cons]
    refine ⟨by omega, fun x hx => ?_⟩
    rcases List.mem_cons.mp hx with rfl | hx
    · omega
    · exact h2 x hx
theorem minI_le {ns : List Int} {x : Int} (h : x ∈ ns) : minI ns ≤ x := by
  cases ns with
  | nil => cases h
  | cons n r =>
    rcases List.mem_cons.mp h with rfl | h
    · exact (foldl_min_le r x).1
    · exact (foldl_min_le r n).2 x h
theorem o_minT {ns : List Int} (h : ns ≠ []) : opf1 .min (.tuple (ns.map .int)) = some (.int (minI ns)) := by
  cases ns with
  | nil => exact absurd rfl h
  | cons n r =>
    have := maxOk_ints (n :: r)
    rw [List.map_cons] at this ⊢
    show (if maxOk (.int n :: r.map .int) then some (PySem.W.minD (.int n) (r.map .int)) else none) = _
    rw [if_pos this, PySem.W.minD_ints]
    rfl
@[simp] theorem o_eqB {x y : Bool} : opf2 .eq (.bool x) (.bool y) = some (.bool (x == y)) := by cases x <;> cases y <;> rfl
@[simp] theorem o_neB {x y : Bool} : opf2 .ne (.bool x) (.bool y) = some (.bool (x != y)) := by cases x <;> cases y <;> rfl
section
variable {r r1 r2 : RD} {s : Nat} {chips : List Int}
end
end Cd
set_option Elab.async false
set_option linter.all false
set_option maxRecDepth 100000
set_option maxHeartbeats 4000000
namespace Cd
open PySem L2
def seatsM (gs : List Bool) : List Nat := (List.range gs.length).filter fun i => !gs.getD i false
def ge (bs : List Int) (l : Int) (i : Nat) : Bool := decide (l ≤ bs.getD i 0)
def dL (bs : List Int) (before l : Int) : List Int := bs.map fun b => (if l < b then l else b) - (if before < b then before else b)
def dR (bs : List Int) (before : Int) : List Int := bs.map fun b => b - (if before < b then before else b)
def lvM (bs : List Int) (seats : List Nat) : List Int := seats.map fun i => bs.getD i 0
abbrev manyM (bs : List Int) (before l : Int) : Int := (dL bs before l).sum
abbrev restM (bs : List Int) (before : Int) : Int := (dR bs before).sum
def potsL (last : Int) (bs : List Int) (seats : List Nat) : Int → List Int → List (Int × List Nat)
  | _, [] => []
  | before, l :: ls =>
    let many := if l = last then restM bs before else manyM bs before l
    (if 0 < many then [(many, seats.filter (ge bs l))] else []) ++ potsL last bs seats l ls
def levelsM (bs : List Int) (gs : List Bool) : List Int := sortI (dedup (lvM bs (seatsM gs)))
def potsM (bs : List Int) (gs : List Bool) : List (Int × List Nat) := potsL ((levelsM bs gs).getLast?.getD 0) bs (seatsM gs) 0 (levelsM bs gs)
theorem seats_lt {gs : List Bool} {i : Nat} (h : i ∈ seatsM gs) : i < gs.length := by
  have := List.mem_filter.mp h
  simpa using this.1
section
variable {cf : Calls} {h : Hi} {fns : Nat → Option FnD}
abbrev intsT (bs : List Int) : PyData := .tuple (bs.map .int)
theorem mem_insI {x y : Int} : ∀ {l : List Int}, y ∈ insI x l ↔ y = x ∨ y ∈ l
  | [] => by simp [insI]
  | z :: r => by
    unfold insI
    split
    · simp
    · simp only [List.mem_cons, mem_insI (l := r)]
      constructor
      · rintro (h | h | h)
        · exact .inr (.inl h)
        · exact .inl h
        · exact .inr (.inr h)
      · rintro (h | h | h)
        · exact .inr (.inl h)
        · exact .inl h
        · exact .inr (.inr h)
end
theorem mem_sortI {y : Int} : ∀ {l : List Int}, y ∈ sortI l ↔ y ∈ l
  | [] => Iff.rfl
  | x :: r => by
    show y ∈ insI x (sortI r) ↔ _
    rw [mem_insI, mem_sortI, List.mem_cons]
theorem mem_dedup {y : Int} : ∀ {l : List Int}, y ∈ dedup l ↔ y ∈ l
  | [] => Iff.rfl
  | x :: r => by
    unfold dedup
    split
    · rename_i hx
      rw [mem_dedup, List.mem_cons]
      constructor
      · exact .inr
      · rintro (rfl | h)
        · exact hx
        · exact h
    · rw [List.mem_cons, List.mem_cons, mem_dedup]
theorem insI_lt {x : Int} : ∀ {l : List Int}, l.Pairwise (· < ·) → x ∉ l → (insI x l).Pairwise (· < ·)
  | [], _, _ => by simp [insI]
  | y :: r, h, hx => by
    obtain ⟨h1, h2⟩ := List.pairwise_cons.mp h
    have hy : x ≠ y := fun e => hx (by rw [e]; exact List.mem_cons_self)
    have hr : x ∉ r := fun e => hx (List.mem_cons_of_mem _ e)
    unfold insI
    split
    · rename_i hxy
      refine List.pairwise_cons.mpr ⟨fun z hz => ?_, h⟩
      rcases List.mem_cons.mp hz with rfl | hz
      · omega
      · have := h1 z hz; omega
    · rename_i hxy
      refine List.pairwise_cons.mpr ⟨fun z hz => ?_, insI_lt h2 hr⟩
      rcases mem_insI.mp hz with rfl | hz
      · omega
      · exact h1 z hz
theorem sortI_lt : ∀ {l : List Int}, (sortI (dedup l)).Pairwise (· < ·)
  | [] => List.Pairwise.nil
  | x :: r => by
    unfold dedup
    split
    · exact sortI_lt
    · rename_i hx
      show (insI x (sortI (dedup r))).Pairwise _
      exact insI_lt sortI_lt fun h => hx (mem_dedup.mp (mem_sortI.mp h))
section
variable {bs : List Int} {seats : List Nat} {top M : Int}
theorem dL_nonneg {a l : Int} (h : a ≤ l) : 0 ≤ (dL bs a l).sum := by
  unfold dL
  induction bs with
  | nil => simp
  | cons x r ih =>
    simp only [List.map_cons, List.sum_cons]
    omega
theorem dR_split {a l : Int} (h : a ≤ l) : (dR bs a).sum = (dL bs a l).sum + (dR bs l).sum := by
  unfold dL dR
  induction bs with
  | nil => simp
  | cons x r ih =>
    simp only [List.map_cons, List.sum_cons]
    rw [ih]
    omega
theorem dR_nonneg {a : Int} : 0 ≤ (dR bs a).sum := by
  unfold dR
  induction bs with
  | nil => simp
  | cons x r ih =>
    simp only [List.map_cons, List.sum_cons]
    omega
theorem potsL_sum : ∀ (ls : List Int) (a : Int), (∀ x ∈ ls, a ≤ x) → ls.Pairwise (· < ·) → ls.getLast? = some top → ((potsL top bs seats a ls).map (·.1)).sum = (dR bs a).sum
  | [], _, _, _, h => nomatch h
  | l :: ls, a, ha, hp, hl => by
    obtain ⟨hp1, hp2⟩ := List.pairwise_cons.mp hp
    have hal := ha l (by simp)
    rw [potsL.eq_2]
    rw [List.map_append, List.sum_append]
    cases ls with
    | nil =>
      have e : l = top := by simpa using hl
      subst e
      have z := dR_nonneg (bs := bs) (a := a)
      simp only [if_pos, potsL, List.map_nil, List.sum_nil, Int.add_zero]
      split
      · simp [restM]
      · simp only [restM] at *; simp; omega
    | cons l2 ls =>
      have hne : l ≠ top := by
        intro e
        have : (l2 :: ls).getLast? = some top := by simpa using hl
        have := hp1 top (List.mem_of_getLast? this)
        omega
      rw [potsL_sum (l2 :: ls) l (fun x hx => Int.le_of_lt (hp1 x hx)) hp2 (by simpa using hl), dR_split (bs := bs) hal]
      simp only [if_neg hne]
      have z := dL_nonneg (bs := bs) hal
      split
      · simp
      · simp only [manyM] at *; simp; omega
end
end Cd
set_option Elab.async false
set_option linter.all false
set_option maxRecDepth 100000
set_option maxHeartbeats 4000000
namespace Cd
open PySem L2
section
variable {t : Int}
theorem pots_sum {bs : List Int} {gs : List Bool} (h0 : ∀ b ∈ bs, 0 ≤ b) (hi : ∀ i ∈ seatsM gs, i < bs.length) (hne : seatsM gs ≠ []) : ((potsM bs gs).map (·.1)).sum = bs.sum := by
  have hl : levelsM bs gs ≠ [] := by
    obtain ⟨i, hi'⟩ := List.exists_mem_of_ne_nil _ hne
    have : bs.getD i 0 ∈ levelsM bs gs := mem_sortI.mpr (mem_dedup.mpr (List.mem_map.mpr ⟨i, hi', rfl⟩))
    exact List.ne_nil_of_mem this
  obtain ⟨last, hlast⟩ : ∃ last, (levelsM bs gs).getLast? = some last := ⟨_, List.getLast?_eq_some_getLast hl⟩
  unfold potsM
  rw [hlast]
  have := potsL_sum (bs := bs) (seats := seatsM gs) (top := last) (levelsM bs gs) 0 (fun x hx => by
    obtain ⟨i, hm, e⟩ := List.mem_map.mp (mem_dedup.mp (mem_sortI.mp hx))
    have h1 := hi i hm
    rw [← e]
    exact h0 _ (by simp [h1])) sortI_lt hlast
  rw [Option.getD_some, this]
  unfold dR
  congr 1
  have : ∀ b ∈ bs, b - (if 0 < b then 0 else b) = b := fun b hb => by
    have := h0 b hb
    split <;> omega
  rw [List.map_congr_left this, List.map_id']
variable {r r2 : RD} {s : Nat}
end
end Cd
set_option Elab.async false
set_option linter.all false
set_option maxRecDepth 100000
set_option maxHeartbeats 4000000
namespace Cd
open PySem L2
theorem sum_nonneg : ∀ {l : List Int}, (∀ x ∈ l, 0 ≤ x) → 0 ≤ l.sum
  | [], _ => by simp
  | x :: r, h => by
    rw [List.sum_cons]
    have := h x List.mem_cons_self
    have := sum_nonneg fun y hy => h y (List.mem_cons_of_mem _ hy)
    omega
theorem sum_ge : ∀ {l : List Int} {y : Int}, (∀ x ∈ l, 0 ≤ x) → y ∈ l → y ≤ l.sum
  | x :: r, y, h, hy => by
    rw [List.sum_cons]
    have h1 := h x List.mem_cons_self
    have h2 : ∀ z ∈ r, 0 ≤ z := fun z hz => h z (List.mem_cons_of_mem _ hz)
    rcases List.mem_cons.mp hy with rfl | hy
    · have := sum_nonneg h2; omega
    · have := sum_ge h2 hy; omega
def potsP (last : Int) (bs : List Int) (seats : List Nat) : Int → List Int → List (Int × List Nat)
  | _, [] => []
  | a, l :: ls => (if l = last then restM bs a else manyM bs a l, seats.filter (ge bs l)) :: potsP last bs seats l ls
def posL (ls : List Int) : List Int := ls.filter fun l => decide (0 < l)
section
variable {bs : List Int} {gs : List Bool} {seats : List Nat} {last : Int}
theorem many_pos {a l : Int} (h : a < l) (hl : l ∈ bs) : 0 < manyM bs a l := by
  have z : ∀ x ∈ dL bs a l, 0 ≤ x := fun x hx => by
    obtain ⟨b, _, rfl⟩ := List.mem_map.mp hx
    split <;> split <;> omega
  have m : l - a ∈ dL bs a l := List.mem_map.mpr ⟨l, hl, by rw [if_neg (by omega), if_pos h]⟩
  have := sum_ge z m
  unfold manyM
  omega
theorem rest_pos {a l : Int} (h : a < l) (hl : l ∈ bs) : 0 < restM bs a := by
  have z : ∀ x ∈ dR bs a, 0 ≤ x := fun x hx => by
    obtain ⟨b, _, rfl⟩ := List.mem_map.mp hx
    split <;> omega
  have m : l - a ∈ dR bs a := List.mem_map.mpr ⟨l, hl, by rw [if_pos h]⟩
  have := sum_ge z m
  unfold restM
  omega
theorem potsL_P : ∀ (ls : List Int) (a : Int), (∀ l ∈ ls, a < l) → ls.Pairwise (· < ·) → (∀ l ∈ ls, l ∈ bs) → potsL last bs seats a ls = potsP last bs seats a ls
  | [], _, _, _, _ => rfl
  | l :: ls, a, h1, h2, h3 => by
    obtain ⟨h4, h5⟩ := List.pairwise_cons.mp h2
    rw [potsL.eq_2, potsP.eq_2, potsL_P ls l h4 h5 fun x hx => h3 x (List.mem_cons_of_mem _ hx)]
    have p : 0 < (if l = last then restM bs a else manyM bs a l) := by
      have h6 := h1 l List.mem_cons_self
      have h7 := h3 l List.mem_cons_self
      split
      · exact rest_pos h6 h7
      · exact many_pos h6 h7
    rw [if_pos p]
    rfl
theorem lev_mem {l : Int} : l ∈ levelsM bs gs ↔ ∃ i ∈ seatsM gs, bs.getD i 0 = l := by
  unfold levelsM
  rw [mem_sortI, mem_dedup]
  exact List.mem_map
theorem lev_lt : (levelsM bs gs).Pairwise (· < ·) := sortI_lt
theorem lev_in (hi : ∀ i ∈ seatsM gs, i < bs.length) {l : Int} (h : l ∈ levelsM bs gs) : l ∈ bs := by
  obtain ⟨i, h1, h2⟩ := lev_mem.mp h
  have h3 := hi i h1
  rw [← h2]
  simp [h3]
theorem potsM_P (h0 : ∀ b ∈ bs, 0 ≤ b) (hi : ∀ i ∈ seatsM gs, i < bs.length) (hp : posL (levelsM bs gs) ≠ []) :
    potsM bs gs = potsP ((posL (levelsM bs gs)).getLast?.getD 0) bs (seatsM gs) 0 (posL (levelsM bs gs)) := by
  have h1 := lev_lt (bs := bs) (gs := gs)
  have h2 : ∀ l ∈ levelsM bs gs, l ∈ bs := fun l hl => lev_in hi hl
  unfold potsM
  generalize levelsM bs gs = ls at hp h1 h2 ⊢
  cases ls with
  | nil => exact absurd rfl hp
  | cons l r =>
    obtain ⟨h4, h5⟩ := List.pairwise_cons.mp h1
    have hl := h0 l (h2 l List.mem_cons_self)
    by_cases c : 0 < l
    · have e : posL (l :: r) = l :: r := List.filter_eq_self.mpr fun x hx => by
        rcases List.mem_cons.mp hx with rfl | hx
        · exact decide_eq_true c
        · have := h4 x hx; exact decide_eq_true (by omega)
      rw [e]
      exact potsL_P _ _ (fun x hx => by
        rcases List.mem_cons.mp hx with rfl | hx
        · exact c
        · have := h4 x hx; omega) h1 h2
    · have z : l = 0 := by omega
      subst z
      have e : posL ((0 : Int) :: r) = r := by
        unfold posL
        rw [List.filter_cons_of_neg (by simp)]
        exact List.filter_eq_self.mpr fun x hx => by
          have := h4 x hx; exact decide_eq_true (by omega)
      rw [e] at hp ⊢
      have e2 : ((0 : Int) :: r).getLast? = r.getLast? := by
        cases r with
        | nil => exact absurd rfl hp
        | cons y r => simp [List.getLast?_cons_cons]
      have hl2 : ∃ y, r.getLast? = some y := ⟨_, List.getLast?_eq_some_getLast hp⟩
      obtain ⟨y, hy⟩ := hl2
      have hy2 : 0 < y := h4 y (List.mem_of_getLast? hy)
      rw [e2, hy, Option.getD_some, potsL.eq_2]
      rw [if_neg (show ¬ (0 : Int) = y by omega)]
      have m0 : ¬ 0 < manyM bs 0 0 := by
        have : dL bs 0 0 = bs.map fun _ => 0 := List.map_congr_left fun b _ => by omega
        show ¬ 0 < (dL bs 0 0).sum
        rw [this]
        have : ∀ l : List Int, (l.map fun _ => (0 : Int)).sum = 0 := fun l => by
          induction l with
          | nil => rfl
          | cons x r ih => rw [List.map_cons, List.sum_cons, ih]; rfl
        rw [this]; omega
      rw [if_neg m0, List.nil_append]
      exact potsL_P _ _ h4 h5 fun x hx => h2 x (List.mem_cons_of_mem _ hx)
theorem posL_mem {ls : List Int} {l : Int} : l ∈ posL ls ↔ l ∈ ls ∧ 0 < l := by
  unfold posL
  rw [List.mem_filter, decide_eq_true_eq]
theorem posL_lt {ls : List Int} (h : ls.Pairwise (· < ·)) : (posL ls).Pairwise (· < ·) := h.filter _
end
end Cd
set_option Elab.async false
set_option linter.all false
set_option maxRecDepth 100000
set_option maxHeartbeats 4000000
namespace Cd
open PySem L2
section
variable {cf : Calls} {env : Ev} {h H : Hi} {n m k t q i j : Nat}
@[simp] theorem st_setIx2 {a b c d : E} : evalS cf (.setIx2 i j c d a b) env h = ((evalE cf env a h).bind unP).toS env fun d1 h1 => ((evalE cf env b h1).bind unP).toS env fun d2 h2 =>
    (stIx (fun env h => evalE cf env c h) (.var i) d1 env h2).bind fun env2 h3 => stIx (fun env h => evalE cf env d h) (.var j) d2 env2 h3 := id rfl
@[simp] theorem stIx_eq {ek : Ev → Hi → R Val} {p : E} {d : PyData} : stIx ek p d env h = match getL env h p with
  | none => .stuck
  | some _ => ((ek env h).bind unP).toS env fun k h2 => ofH env (setIxH env p k d h2) := id rfl
theorem hT_lst {x : Nat} (hn : x ≠ t) : listAt (hT H t k) x = listAt H x := by
  unfold listAt hT
  rw [List.getElem?_set_ne (Ne.symm hn)]
theorem hT_cut {l : Hi} (ht : t < h.length) : (hT (h ++ l) t k).take h.length = hT h t k := by
  unfold hT
  rw [List.set_append_left _ _ ht]
  simp
theorem atI_c0 {x : PyData} {xs : List PyData} : atI (x :: xs) 0 = some x := by
  have : atI (x :: xs) ((0 : Nat) : Int) = some x := by rw [atI_nat]; rfl
  exact this
theorem rngLit {env : Ev} {j : Int} (hj : rngOk j = true) : evalSrc cf env (.rng1 (.lit (.int j))) h = .ok (rangeD 0 j.toNat 1) h := src_rng1 (by simp) hj
/-- range(n) where n is had -/
theorem src_nat {env : Ev} {a : E} {j : Nat} (e : (evalE cf env a h).bind unP = .ok (.int (j : Int)) h) (hj : j < 1000000) : evalSrc cf env (.rng1 a) h = .ok ((List.range j).map natD) h := by
  have z := src_rng1 e (rngOk_small (by omega) (by omega))
  rw [Int.toNat_natCast, rangeD_nat] at z
  exact z
theorem o_sortT {xs : List Int} : opf1 .sorted (.tuple (xs.map .int)) = some (.list ((sortI xs).map .int)) := by
  show (intsD _).map _ = _
  rw [intsD_map]; rfl
theorem dedup_map {α β : Type} [DecidableEq α] [DecidableEq β] {f : α → β} (hf : ∀ a b, f a = f b → a = b) : ∀ xs : List α, dedup (xs.map f) = (dedup xs).map f
  | [] => rfl
  | x :: xs => by
    rw [List.map_cons]
    unfold dedup
    have e : f x ∈ xs.map f ↔ x ∈ xs := ⟨fun h => by obtain ⟨y, hy, e⟩ := List.mem_map.mp h; rw [← hf _ _ e]; exact hy, fun h => List.mem_map.mpr ⟨x, h, rfl⟩⟩
    by_cases c : x ∈ xs
    · rw [if_pos c, if_pos (e.mpr c), dedup_map hf]
    · rw [if_neg c, if_neg (fun z => c (e.mp z)), dedup_map hf]; rfl
theorem keys_ints : ∀ xs : List Int, pairKeys (xs.map fun x => PyData.tuple [.int x, .int 0]) = some (xs.map Sum.inl)
  | [] => rfl
  | x :: xs => by
    rw [List.map_cons]
    show (some (Sum.inl x : Key)).bind _ = _
    rw [Option.bind_some, keys_ints xs]
    rfl
theorem len_dictI (xs : List Int) : opf1 .lenDict (.list (xs.map fun x => PyData.tuple [.int x, .int 0])) = some (.int (dedup xs).length) := by
  show (pairKeys _).map _ = _
  rw [keys_ints, Option.map_some, dedup_map (fun a b h => by cases h; rfl), List.length_map]
theorem one_a {x : List PyData} (ht : t < h.length) : listAt (hT (h ++ [.lst x]) t k) h.length = some x := by
  rw [hT_lst (by omega)]; unfold listAt; simp
theorem one_sa {x z : List PyData} (ht : t < h.length) : (hT (h ++ [.lst x]) t k).set h.length (.lst z) = hT (h ++ [.lst z]) t k := by
  rw [hT_comm (by omega)]; congr 1; simp
end
end Cd
set_option Elab.async false
set_option linter.all false
set_option maxRecDepth 100000
set_option maxHeartbeats 4000000
namespace Cd
open PySem L2
def s48_0 : S := .if_ (.val (.op2 .eq (.var 0) (.lit (.tuple [(.int 14), (.int 5), (.int 4), (.int 3), (.int 2)])))) [.ret (.lit (.int 5))] []
def s48_1 : S := .if_ (.val (.op2 .eq (.var 0) (.op1 .tuple (.comp [1] (.name 1) (.rng1 (.lit (.int 5))) [] (.op2d .sub (.op2b .ix (.var 0) (.lit (.int 0))) (.var 1)))))) [.ret (.op2b .ix (.var 0) (.lit (.int 0)))] []
def s48_2 : S := .ret (.lit (.int 0))
def ls48 : List S := [s48_0, s48_1, s48_2]
theorem b48_eq : b48 = ls48 := rfl
def s49_0 : S := .newD 1 []
def s49_1_0 : S := .setKeyD 1 (.var 2) (.op2d .add (.dgetD 1 (.var 2) (.lit (.int 0))) (.lit (.int 1)))
def ls49_1 : List S := [s49_1_0]
def s49_1 : S := .for_ (.tup [(.name 2), (.name 3)]) (.e (.var 0)) ls49_1
def s49_2 : S := .set 4 (.op1 .rev (.op1 .sorted (.compI 1 [2, 5] (.tup [(.name 2), (.name 5)]) [] (.tup [(.var 5), (.var 2)]))))
def s49_3 : S := .ret (.tup [(.op1 .tuple (.comp [5, 2] (.tup [(.name 5), (.name 2)]) (.e (.var 4)) [] (.var 2))), (.op1 .tuple (.comp [5, 2] (.tup [(.name 5), (.name 2)]) (.e (.var 4)) [] (.var 5)))])
def ls49 : List S := [s49_0, s49_1, s49_2, s49_3]
theorem b49_eq : b49 = ls49 := rfl
def s50_0 : S := .unpack (.tup [(.name 1), (.name 2)]) (.call 49 [(.var 0)])
def s50_1 : S := .if_ (.val (.op2 .lt (.op1 .len (.var 1)) (.lit (.int 5)))) [.ret (.tup [(.op1 (.look [([2, 1, 1, 1], 1), ([2, 2, 1], 2), ([3, 1, 1], 3), ([3, 2], 6), ([4, 1], 7)]) (.var 2)), (.var 1)])] []
def s50_2 : S := .set 3 (.call 48 [(.var 1)])
def s50_3 : S := .set 4 (.op2 .eq (.op1 .lenSet (.comp [5, 6] (.tup [(.name 5), (.name 6)]) (.e (.var 0)) [] (.var 6))) (.lit (.int 1)))
def s50_4 : S := .if_ (.and_ (.val (.op2 .gt (.var 3) (.lit (.int 0)))) (.val (.var 4))) [.ret (.tup [(.lit (.int 8)), (.tup [(.var 3)])])] []
def s50_5 : S := .if_ (.val (.var 4)) [.ret (.tup [(.lit (.int 5)), (.var 1)])] []
def s50_6 : S := .if_ (.val (.op2 .gt (.var 3) (.lit (.int 0)))) [.ret (.tup [(.lit (.int 4)), (.tup [(.var 3)])])] []
def s50_7 : S := .ret (.tup [(.lit (.int 0)), (.var 1)])
def ls50 : List S := [s50_0, s50_1, s50_2, s50_3, s50_4, s50_5, s50_6, s50_7]
theorem b50_eq : b50 = ls50 := rfl
end Cd
set_option Elab.async false
set_option linter.all false
set_option maxRecDepth 100000
set_option maxHeartbeats 4000000
namespace Cd
open PySem L2
abbrev Card := Int × Str
def cardD (c : Card) : PyData := .tuple [.int c.1, .str c.2]
/-- one more of the rank r -/
def bump (r : Int) : List (Int × Int) → List (Int × Int)
  | [] => [(r, 1)]
  | (q, c) :: t => if q = r then (q, c + 1) :: t else (q, c) :: bump r t
def oftenM (rs : List Int) : List (Int × Int) := rs.foldl (fun l r => bump r l) []
def rowsM (five : List Card) : List (Int × Int) := (sortP ((oftenM (five.map (·.1))).map fun p => (p.2, p.1))).reverse
def ranksM (five : List Card) : List Int := (rowsM five).map (·.2)
def shapeM (five : List Card) : List Int := (rowsM five).map (·.1)
def shapes : List (List Int × Int) := [([2, 1, 1, 1], 1), ([2, 2, 1], 2), ([3, 1, 1], 3), ([3, 2], 6), ([4, 1], 7)]
def topM (rs : List Int) : Int := if rs = [14, 5, 4, 3, 2] then 5 else if rs = (List.range 5).map (fun k : Nat => rs.headD 0 - k) then rs.headD 0 else 0
def alikeM (five : List Card) : Bool := decide (((dedup (five.map (·.2)).reverse).length : Int) = 1)
def rankM (five : List Card) : Int × List Int :=
  if (ranksM five).length < 5 then ((shapes.lookup (shapeM five)).getD 0, ranksM five)
  else if (decide (0 < topM (ranksM five)) && alikeM five) = true then (8, [topM (ranksM five)])
  else if alikeM five = true then (5, ranksM five)
  else if 0 < topM (ranksM five) then (4, [topM (ranksM five)])
  else (0, ranksM five)
def rankD (r : Int × List Int) : PyData := .tuple [.int r.1, .tuple (r.2.map .int)]
def toKV (l : List (Int × Int)) : List (Key × Fld) := l.map fun p => (.inl p.1, .p (.int p.2))
theorem toKV_look (r : Int) : ∀ l : List (Int × Int), (toKV l).lookup (.inl r) = (l.lookup r).map fun c => .p (.int c)
  | [] => rfl
  | (q, c) :: t => by
    show List.lookup (Sum.inl r) ((Sum.inl q, _) :: toKV t) = _
    rw [List.lookup_cons, List.lookup_cons]
    by_cases e : r = q
    · subst e
      rw [key_beq, decide_eq_true (show (Sum.inl r : Key) = Sum.inl r from rfl)]
      simp
    · have e1 : ((Sum.inl r : Key) == Sum.inl q) = false := by rw [key_beq]; exact decide_eq_false (fun z => e (Sum.inl.inj z))
      have e2 : (r == q) = false := by simpa using e
      rw [e1, e2, toKV_look r t]
theorem toKV_bump (r : Int) : ∀ l : List (Int × Int), setKV (toKV l) (.inl r) (.p (.int ((l.lookup r).getD 0 + 1))) = toKV (bump r l)
  | [] => rfl
  | (q, c) :: t => by
    show setKV ((Sum.inl q, Fld.p (.int c)) :: toKV t) _ _ = _
    unfold setKV bump
    rw [List.lookup_cons]
    by_cases e : q = r
    · subst e
      simp [toKV]
    · have e1 : ¬ (Sum.inl q : Key) = Sum.inl r := fun z => e (Sum.inl.inj z)
      have e2 : (r == q) = false := by simpa using fun z => e z.symm
      rw [if_neg e1, if_neg e, e2, toKV_bump r t]
      rfl
theorem toKV_items : ∀ l : List (Int × Int), itemsD (toKV l) = some (l.map fun p => .tuple [.int p.1, .int p.2])
  | [] => rfl
  | (q, c) :: t => by
    show (if scalD (.int c) then (itemsD (toKV t)).map _ else none) = _
    rw [if_pos (show scalD (.int c) = true from rfl), toKV_items t]
    rfl
theorem bump_len (r : Int) : ∀ l : List (Int × Int), (bump r l).length ≤ l.length + 1
  | [] => by simp [bump]
  | (q, c) :: t => by
    unfold bump
    split
    · simp
    · have := bump_len r t
      simp; omega
theorem eqv_ints : ∀ xs ys : List Int, PyData.eqvAll (xs.map .int) (ys.map .int) = decide (xs = ys)
  | [], [] => by simp [PyData.eqvAll]
  | [], _ :: _ => by simp [PyData.eqvAll]
  | _ :: _, [] => by simp [PyData.eqvAll]
  | x :: xs, y :: ys => by
    simp only [List.map_cons, PyData.eqvAll, eqv_int, eqv_ints xs ys, List.cons.injEq, Bool.decide_and]
theorem o_eqT {xs ys : List Int} (h1 : xs.length < 1000) (h2 : ys.length < 1000) : opf2 .eq (.tuple (xs.map .int)) (.tuple (ys.map .int)) = some (.bool (decide (xs = ys))) := by
  show (eqD _ _).map PyData.bool = _
  unfold eqD
  rw [if_neg (by simp [scalD]), if_pos (by rw [(shapedI h1).1, (shapedI h2).1]; rfl), Option.map_some]
  simp only [PyData.eqv, eqv_ints]
theorem pairsD_map : ∀ ps : List (Int × Int), pairsD (ps.map pairD) = some ps
  | [] => rfl
  | p :: ps => by
    show (pairsD (ps.map pairD)).map _ = _
    rw [pairsD_map ps]; rfl
theorem o_sortP (ps : List (Int × Int)) : opf1 .sorted (.list (ps.map pairD)) = some (.list ((sortP ps).map pairD)) := by
  cases ps with
  | nil => rfl
  | cons p ps =>
    show (match intsD (pairD p :: ps.map pairD) with
      | some ns => some (PyData.list ((sortI ns).map .int))
      | none => (pairsD ((p :: ps).map pairD)).map fun ps => PyData.list ((sortP ps).map pairD)) = _
    have : intsD (pairD p :: ps.map pairD) = none := rfl
    rw [this, pairsD_map]; rfl
theorem o_rev (xs : List PyData) : opf1 .rev (.list xs) = some (.list xs.reverse) := id rfl
theorem strsD_map : ∀ xs : List Str, strsD (xs.map .str) = some xs
  | [] => rfl
  | x :: xs => by
    show (strsD (xs.map .str)).map _ = _
    rw [strsD_map xs]; rfl
theorem o_lenSet {xs : List Str} (h : xs.length < 1000) : opf1 .lenSet (.list (xs.map .str)) = some (.int (dedup xs.reverse).length) := by
  show (strsD _).bind _ = _
  rw [strsD_map, Option.bind_some, if_pos h]
section
variable {fns : Nat → Option FnD} {h : Hi} {n m k t q i : Nat} {cf : Calls}
theorem o_look {kvs : List (List Int × Int)} {ks : List Int} : opf1 (.look kvs) (.tuple (ks.map .int)) = (kvs.lookup ks).map .int := by
  show (intsD _).bind _ = _
  rw [intsD_map]; rfl
theorem top_eval (F : fns 48 = some d48) {rs : List Int} (hl : rs.length = 5) : callF fns (q + 1) 48 [.p (intsT rs)] h = .ok (.p (.int (topM rs))) h := by
  rw [call_eq F rfl]
  generalize callF fns q = cf
  show finF h.length (evalSs cf b48 [some (.p (intsT rs)), none] h) = _
  rw [b48_eq]
  unfold ls48
  have e1 := o_eqT (xs := rs) (ys := [14, 5, 4, 3, 2]) (by omega) (by decide)
  obtain ⟨a, r, rfl⟩ : ∃ a r, rs = a :: r := by
    cases rs with
    | nil => simp at hl
    | cons a r => exact ⟨a, r, rfl⟩
  have a0 : atI ((a :: r).map PyData.int) 0 = some (.int a) := atI_c0
  have c1 : evalE cf [some (.p (intsT (a :: r))), none] (.comp [1] (.name 1) (.rng1 (.lit (.int 5))) [] (.op2d .sub (.op2b .ix (.var 0) (.lit (.int 0))) (.var 1))) h = .ok (.p (.list (((List.range 5).map fun k : Nat => a - k).map .int))) h := by
    rw [List.map_map]
    refine comp_all natD _ (src_nat (j := 5) (by simp) (by omega)) (by simp) fun j hj => ⟨[some (.p (intsT (a :: r))), some (.p (.int j))], by simp, ?_⟩
    simp only [ev_op2d, ev_op2b, bor_var, slot_0, slot_s, borV_p, ev_var, ofO_some, R.bind_ok, unP_p, ev_lit, o_ixT, intsT, a0, Option.map_some, o_sub]
    rfl
  have e2 := o_eqT (xs := a :: r) (ys := (List.range 5).map fun k : Nat => a - k) (by omega) (by simp)
  unfold topM
  rw [ss_cons]
  have t0 : evalS cf s48_0 [some (.p (intsT (a :: r))), none] h = if a :: r = [14, 5, 4, 3, 2] then .ok (.rt (.p (.int 5))) [some (.p (intsT (a :: r))), none] h else .ok .nx [some (.p (intsT (a :: r))), none] h := by
    unfold s48_0
    have e1' : opf2 .eq (.tuple ((a :: r).map PyData.int)) (.tuple [.int 14, .int 5, .int 4, .int 3, .int 2]) = some (.bool (decide (a :: r = [14, 5, 4, 3, 2]))) := e1
    by_cases c : a :: r = [14, 5, 4, 3, 2]
    · rw [if_pos c]
      rw [decide_eq_true c] at e1'
      simp only [st_if, et_val, bor_op2, ev_op2, ev_var, slot_0, ofO_some, R.bind_ok, unP_p, bor_lit, ev_lit, intsT, e1', Option.map_some, truth_b, R.toS_ok, if_true, ss_cons, st_ret, RS.bind_rt]
    · rw [if_neg c]
      rw [decide_eq_false c] at e1'
      simp only [st_if, et_val, bor_op2, ev_op2, ev_var, slot_0, ofO_some, R.bind_ok, unP_p, bor_lit, ev_lit, intsT, e1', Option.map_some, truth_b, R.toS_ok, Bool.false_eq_true, if_false, ss_nil]
  rw [t0]
  by_cases c : a :: r = [14, 5, 4, 3, 2]
  · rw [if_pos c, if_pos c, RS.bind_rt, fin_rp, List.take_length]
  · rw [if_neg c, if_neg c, RS.bind_nx, ss_cons]
    show finF _ _ = R.ok (.p (.int (if a :: r = (List.range 5).map (fun k : Nat => a - k) then a else 0))) h
    simp only [intsT] at c1
    by_cases c2 : a :: r = (List.range 5).map fun k : Nat => a - k
    · rw [if_pos c2]
      rw [decide_eq_true c2] at e2
      simp only [s48_1, st_if, et_val, bor_op2, ev_op2, ev_var, slot_0, ofO_some, R.bind_ok, unP_p, bor_op1, ev_op1, bor_comp, intsT, c1, o_tupL, Option.map_some, e2, truth_b, R.toS_ok, if_true, ss_cons, st_ret, ev_op2b, bor_var, borV_p, ev_lit, o_ixT, a0, RS.bind_rt, fin_rp, List.take_length]
    · rw [if_neg c2]
      rw [decide_eq_false c2] at e2
      simp only [s48_1, st_if, et_val, bor_op2, ev_op2, ev_var, slot_0, ofO_some, R.bind_ok, unP_p, bor_op1, ev_op1, bor_comp, intsT, c1, o_tupL, Option.map_some, e2, truth_b, R.toS_ok, Bool.false_eq_true, if_false, ss_nil, RS.bind_nx, ss_cons, s48_2, st_ret, ev_lit, RS.bind_rt, fin_rp, List.take_length]
@[simp] theorem st_newD0 {env : Ev} : evalS cf (.newD i []) env h = .ok .nx (setSlot env i (some (.ref h.length))) (h ++ [.dct []]) := id rfl
@[simp] theorem st_setKeyD {env : Ev} {b e : E} : evalS cf (.setKeyD i b e) env h = ((evalE cf env e h).bind unP).toS env fun d h1 => ((evalE cf env b h1).bind unP).toS env fun kd h2 => ofH env ((keyOf kd).bind fun q => setKeyH env i q (.p d) h2) := id rfl
@[simp] theorem ev_dgetD {env : Ev} {b e : E} : evalE cf env (.dgetD i b e) h = ((evalE cf env b h).bind unP).bind fun kd h1 => ((evalE cf env e h1).bind unP).bind fun dd h2 => dgetDK env i kd dd h2 := id rfl
theorem ev_compI {env : Ev} {own : List Nat} {t : Tg} {cond : List Te} {elt : E} : evalE cf env (.compI i own t cond elt) h = match dctOf env h i with
    | none => .stuck
    | some p => match itemsD p.2 with
      | none => .stuck
      | some items => (compK2 (compL (fun e h => (evalE cf e elt h).bind unP) (fun e h => evalTs cf e cond h) (fun x e => bindT t x e) (wipeE env own)) items (h.set p.1 .dead)).bind fun v h2 => .ok v (h2.set p.1 (.dct p.2)) := id rfl
theorem dctAt_app {kvs : List (Key × Fld)} : dctAt (h ++ [.dct kvs]) h.length = some kvs := by unfold dctAt; simp
abbrev envG (five : List Card) (m : Nat) (v2 v3 v4 v5 : Option Val) : Ev := [some (.p (.tuple (five.map cardD))), some (.ref m), v2, v3, v4, v5]
theorem dctOf_G {five : List Card} {v2 v3 v4 v5 : Option Val} {kvs : List (Key × Fld)} : dctOf (envG five h.length v2 v3 v4 v5) (h ++ [.dct kvs]) 1 = some (h.length, kvs) := by
  show (some h.length).bind _ = _
  rw [Option.bind_some, dctAt_app]; rfl
theorem loop49 {five : List Card} : ∀ (cs : List Card) (l : List (Int × Int)) (v2 v3 : Option Val), l.length + cs.length < 1000 →
    ∃ w2 w3, forL (evalSs cf ls49_1) (bindT (.tup [(.name 2), (.name 3)])) (cs.map cardD) (envG five h.length v2 v3 none none) (h ++ [.dct (toKV l)]) = .ok .nx (envG five h.length w2 w3 none none) (h ++ [.dct (toKV ((cs.map (·.1)).foldl (fun l r => bump r l) l))])
  | [], l, v2, v3, _ => ⟨v2, v3, rfl⟩
  | c :: cs, l, v2, v3, hl => by
    rw [List.length_cons] at hl
    have bl := bump_len c.1 l
    obtain ⟨w2, w3, e⟩ := loop49 cs (bump c.1 l) (some (.p (.int c.1))) (some (.p (.str c.2))) (by omega)
    refine ⟨w2, w3, ?_⟩
    rw [List.map_cons, List.map_cons, List.foldl_cons]
    unfold forL
    have eb : bindT (.tup [(.name 2), (.name 3)]) (cardD c) (envG five h.length v2 v3 none none) = some (envG five h.length (some (.p (.int c.1))) (some (.p (.str c.2))) none none) := by
      simp only [cardD, bt_tup, bts_cons, bts_nil, bt_name, Option.bind_some, setSlot_0, setSlot_s]
    rw [eb]
    have st : evalSs cf ls49_1 (envG five h.length (some (.p (.int c.1))) (some (.p (.str c.2))) none none) (h ++ [.dct (toKV l)]) = .ok .nx (envG five h.length (some (.p (.int c.1))) (some (.p (.str c.2))) none none) (h ++ [.dct (toKV (bump c.1 l))]) := by
      have dg : dgetDK (envG five h.length (some (.p (.int c.1))) (some (.p (.str c.2))) none none) 1 (.int c.1) (.int 0) (h ++ [.dct (toKV l)]) = .ok (.p (.int ((l.lookup c.1).getD 0))) (h ++ [.dct (toKV l)]) := by
        unfold dgetDK
        rw [dctOf_G]
        simp only [keyOf, toKV_look]
        cases l.lookup c.1 with
        | none => rfl
        | some x => rfl
      have sk : setKeyH (envG five h.length (some (.p (.int c.1))) (some (.p (.str c.2))) none none) 1 (.inl c.1) (.p (.int ((l.lookup c.1).getD 0 + 1))) (h ++ [.dct (toKV l)]) = some (h ++ [.dct (toKV (bump c.1 l))]) := by
        unfold setKeyH
        rw [dctOf_G, Option.bind_some]
        have : (toKV l).length < 1000 := by unfold toKV; rw [List.length_map]; omega
        simp only
        rw [if_pos this, toKV_bump, set_app]
      unfold ls49_1 s49_1_0
      simp only [ss_cons, ss_nil, st_setKeyD, ev_op2d, ev_dgetD, ev_var, slot_0, slot_s, ofO_some, R.bind_ok, unP_p, ev_lit, dg, o_add, Option.map_some, R.toS_ok, keyOf, Option.bind_some, sk, ofH_some, RS.bind_nx]
    simp only [st]
    exact e
theorem often_len (rs : List Int) : (oftenM rs).length ≤ rs.length := by
  have : ∀ (rs : List Int) (l : List (Int × Int)), (rs.foldl (fun l r => bump r l) l).length ≤ l.length + rs.length := fun rs => by
    induction rs with
    | nil => intro l; exact Nat.le_refl _
    | cons r rs ih =>
      intro l
      rw [List.foldl_cons, List.length_cons]
      have := ih (bump r l)
      have := bump_len r l
      omega
  have z := this rs []
  rw [List.length_nil, Nat.zero_add] at z
  exact z
theorem sortP_len (l : List (Int × Int)) : (sortP l).length = l.length := by
  have hi : ∀ (x : Int × Int) (l : List (Int × Int)), (insP x l).length = l.length + 1 := fun x l => by
    induction l with
    | nil => rfl
    | cons y r ih => unfold insP; split <;> simp [ih]
  induction l with
  | nil => rfl
  | cons x r ih =>
    show (insP x (sortP r)).length = _
    rw [hi, ih]; rfl
theorem rows_len (five : List Card) : (rowsM five).length ≤ five.length := by
  unfold rowsM
  rw [List.length_reverse, sortP_len, List.length_map]
  have := often_len (five.map (·.1))
  rw [List.length_map] at this
  exact this
theorem grouped_eval (F : fns 49 = some d49) {five : List Card} (hz : five.length < 500) : callF fns (q + 1) 49 [.p (.tuple (five.map cardD))] h = .ok (.p (.tuple [intsT (ranksM five), intsT (shapeM five)])) h := by
  rw [call_eq F rfl]
  generalize callF fns q = cf
  have rl := rows_len five
  obtain ⟨w2, w3, e1⟩ := loop49 (cf := cf) (h := h) (five := five) five [] none none (by simp; omega)
  change forL _ _ _ _ _ = .ok .nx _ (h ++ [.dct (toKV (oftenM (five.map (·.1))))]) at e1
  generalize ho : oftenM (five.map (·.1)) = l at e1
  have ll : l.length < 500 := by
    rw [← ho]
    have := often_len (five.map (·.1))
    rw [List.length_map] at this
    omega
  have t0 : evalS cf s49_0 [some (.p (.tuple (five.map cardD))), none, none, none, none, none] h = .ok .nx (envG five h.length none none none none) (h ++ [.dct (toKV [])]) := by
    unfold s49_0
    simp only [st_newD0, setSlot_0, setSlot_s]
    rfl
  have t1 : evalS cf s49_1 (envG five h.length none none none none) (h ++ [.dct (toKV [])]) = .ok .nx (envG five h.length w2 w3 none none) (h ++ [.dct (toKV l)]) := by
    unfold s49_1
    simp only [st_for, es_e, ev_var, slot_0, ofO_some, R.bind_ok, unP_p, items_T, R.toS_ok]
    exact e1
  have cI : evalE cf (envG five h.length w2 w3 none none) (.compI 1 [2, 5] (.tup [(.name 2), (.name 5)]) [] (.tup [(.var 5), (.var 2)])) (h ++ [.dct (toKV l)]) = .ok (.p (.list ((l.map fun p => (p.2, p.1)).map pairD))) (h ++ [.dct (toKV l)]) := by
    rw [ev_compI, dctOf_G]
    simp only [toKV_items, set_app]
    have := comp_pure (elt := fun e h => (evalE cf e (.tup [(.var 5), (.var 2)]) h).bind unP) (cond := fun e h => evalTs cf e [] h) (bt := fun x e => bindT (.tup [(.name 2), (.name 5)]) x e) (env := wipeE (envG five h.length w2 w3 none none) [2, 5]) (h := h ++ [.dead]) (fun p : Int × Int => .tuple [.int p.1, .int p.2]) (fun p => pairD (p.2, p.1)) (fun _ => true) (xs := l) (fun p hp => ⟨envG five h.length (some (.p (.int p.1))) w3 none (some (.p (.int p.2))), by simp, by simp, fun _ => by simp [pairD]⟩)
    rw [compK2_ok (by rw [List.length_map]; exact Nat.lt_trans ll (by decide)) this, R.bind_ok, set_app, List.map_map, List.filter_eq_self.mpr (fun _ _ => rfl)]
    rfl
  have sp := o_sortP (l.map fun p => (p.2, p.1))
  have hr : rowsM five = (sortP (l.map fun p => (p.2, p.1))).reverse := by unfold rowsM; rw [ho]
  have t2 : evalS cf s49_2 (envG five h.length w2 w3 none none) (h ++ [.dct (toKV l)]) = .ok .nx (envG five h.length w2 w3 (some (.p (.list ((rowsM five).map pairD)))) none) (h ++ [.dct (toKV l)]) := by
    unfold s49_2
    have bI : ∀ (env : Ev) (h : Hi) (r : R Val), bor env h (.compI 1 [2, 5] (.tup [(.name 2), (.name 5)]) [] (.tup [(.var 5), (.var 2)])) r = r.bind unP := fun _ _ _ => rfl
    simp only [st_set, ev_op1, bor_op1, bI, cI, R.bind_ok, unP_p, sp, Option.map_some, ofO_some, o_rev, R.toS_ok, setSlot_0, setSlot_s, hr, List.map_reverse]
  have c3 : evalE cf (envG five h.length w2 w3 (some (.p (.list ((rowsM five).map pairD)))) none) (.comp [5, 2] (.tup [(.name 5), (.name 2)]) (.e (.var 4)) [] (.var 2)) (h ++ [.dct (toKV l)]) = .ok (.p (.list ((ranksM five).map .int))) (h ++ [.dct (toKV l)]) := by
    unfold ranksM
    rw [List.map_map]
    exact comp_all pairD _ (by simp) (by omega) fun p hp => ⟨envG five h.length (some (.p (.int p.2))) w3 (some (.p (.list ((rowsM five).map pairD)))) (some (.p (.int p.1))), by simp [pairD], by simp⟩
  have c4 : evalE cf (envG five h.length w2 w3 (some (.p (.list ((rowsM five).map pairD)))) none) (.comp [5, 2] (.tup [(.name 5), (.name 2)]) (.e (.var 4)) [] (.var 5)) (h ++ [.dct (toKV l)]) = .ok (.p (.list ((shapeM five).map .int))) (h ++ [.dct (toKV l)]) := by
    unfold shapeM
    rw [List.map_map]
    exact comp_all pairD _ (by simp) (by omega) fun p hp => ⟨envG five h.length (some (.p (.int p.2))) w3 (some (.p (.list ((rowsM five).map pairD)))) (some (.p (.int p.1))), by simp [pairD], by simp⟩
  show finF h.length (evalSs cf b49 [some (.p (.tuple (five.map cardD))), none, none, none, none, none] h) = _
  rw [b49_eq]
  unfold ls49
  rw [ss_cons, t0, RS.bind_nx, ss_cons, t1, RS.bind_nx, ss_cons, t2, RS.bind_nx, ss_cons]
  simp only [s49_3, st_ret, ev_tup, eps_cons, eps_nil, ev_op1, bor_comp, c3, c4, R.bind_ok, unP_p, o_tupL, Option.map_some, ofO_some, R.toS_ok, RS.bind_rt, fin_rp, take_app, intsT]
/-- the rank -/
theorem rank_eval (F48 : fns 48 = some d48) (F49 : fns 49 = some d49) (F50 : fns 50 = some d50) {five : List Card} (h5 : five.length = 5) (hs : (ranksM five).length < 5 → (shapes.lookup (shapeM five)).isSome) :
    callF fns (q + 2) 50 [.p (.tuple (five.map cardD))] h = .ok (.p (rankD (rankM five))) h := by
  rw [call_eq F50 rfl]
  have ge := grouped_eval (q := q) (h := h) F49 (five := five) (by omega)
  have te : (ranksM five).length = 5 → callF fns (q + 1) 48 [.p (intsT (ranksM five))] h = _ := fun hl => top_eval (q := q) (h := h) F48 hl
  have rl := rows_len five
  have rl2 : (ranksM five).length = (rowsM five).length := List.length_map _
  generalize callF fns (q + 1) = cf at ge te
  let X : Option Val → Option Val → Ev := fun v3 v4 => [some (.p (.tuple (five.map cardD))), some (.p (intsT (ranksM five))), some (.p (intsT (shapeM five))), v3, v4, none, none]
  have t0 : evalS cf s50_0 [some (.p (.tuple (five.map cardD))), none, none, none, none, none, none] h = .ok .nx (X none none) h := by
    unfold s50_0
    simp only [st_unpack, ev_call, ees_cons, ees_nil, ev_var, slot_0, ofO_some, R.bind_ok, ge, unP_p, R.toS_ok, bt_tup, bts_cons, bts_nil, bt_name, Option.bind_some, setSlot_0, setSlot_s, X]
  show finF h.length (evalSs cf b50 [some (.p (.tuple (five.map cardD))), none, none, none, none, none, none] h) = _
  rw [b50_eq]
  unfold ls50 rankM
  rw [ss_cons, t0, RS.bind_nx, ss_cons]
  by_cases c : (ranksM five).length < 5
  · rw [if_pos c]
    obtain ⟨x, hx⟩ := Option.isSome_iff_exists.mp (hs c)
    have ol : opf1 (.look shapes) (.tuple ((shapeM five).map .int)) = some (.int x) := by rw [o_look, hx]; rfl
    have ci : ((ranksM five).length : Int) < 5 := by omega
    have e : evalS cf s50_1 (X none none) h = .ok (.rt (.p (rankD (x, ranksM five)))) (X none none) h := by
      unfold s50_1
      change opf1 (.look [([2, 1, 1, 1], 1), ([2, 2, 1], 2), ([3, 1, 1], 3), ([3, 2], 6), ([4, 1], 7)]) _ = _ at ol
      simp only [st_if, et_val, bor_op2, ev_op2, ev_op1, bor_var, X, slot_0, slot_s, borV_p, ev_var, ofO_some, R.bind_ok, unP_p, intsT, o_lenT, List.length_map, Option.map_some, bor_lit, ev_lit, o_lt, decide_eq_true ci, truth_b, R.toS_ok, if_true, ss_cons, st_ret, ev_tup, eps_cons, eps_nil, ol, RS.bind_rt, rankD]
    rw [e, RS.bind_rt, fin_rp, List.take_length, hx]
    rfl
  · rw [if_neg c]
    have te := te (by omega)
    have ci : ¬ ((ranksM five).length : Int) < 5 := by omega
    have e : evalS cf s50_1 (X none none) h = .ok .nx (X none none) h := by
      unfold s50_1
      simp only [st_if, et_val, bor_op2, ev_op2, ev_op1, bor_var, X, slot_0, slot_s, borV_p, ev_var, ofO_some, R.bind_ok, unP_p, intsT, o_lenT, List.length_map, Option.map_some, bor_lit, ev_lit, o_lt, decide_eq_false ci, truth_b, R.toS_ok, Bool.false_eq_true, if_false, ss_nil]
    generalize hT : topM (ranksM five) = T at te
    have t2 : evalS cf s50_2 (X none none) h = .ok .nx (X (some (.p (.int T))) none) h := by
      unfold s50_2
      simp only [st_set, ev_call, ees_cons, ees_nil, ev_var, X, slot_0, slot_s, ofO_some, R.bind_ok, te, R.toS_ok, setSlot_0, setSlot_s]
    have c3 : evalE cf (X (some (.p (.int T))) none) (.comp [5, 6] (.tup [(.name 5), (.name 6)]) (.e (.var 0)) [] (.var 6)) h = .ok (.p (.list ((five.map (·.2)).map .str))) h := by
      rw [List.map_map]
      exact comp_all cardD _ (by simp [X]) (by omega) fun p hp => ⟨[some (.p (.tuple (five.map cardD))), some (.p (intsT (ranksM five))), some (.p (intsT (shapeM five))), some (.p (.int T)), none, some (.p (.int p.1)), some (.p (.str p.2))], by simp [X, cardD], by simp⟩
    have ls := o_lenSet (xs := five.map (·.2)) (by rw [List.length_map]; omega)
    have t3 : evalS cf s50_3 (X (some (.p (.int T))) none) h = .ok .nx (X (some (.p (.int T))) (some (.p (.bool (alikeM five))))) h := by
      unfold s50_3
      simp only [st_set, ev_op2, ev_op1, bor_comp, c3, R.bind_ok, unP_p, ls, Option.map_some, ofO_some, bor_lit, ev_lit, o_eqI, R.toS_ok, X, setSlot_0, setSlot_s]
      rfl
    rw [e, RS.bind_nx, ss_cons, t2, RS.bind_nx, ss_cons, t3, RS.bind_nx, ss_cons]
    generalize alikeM five = al
    simp only [s50_4, s50_5, s50_6, s50_7]
    by_cases p : 0 < T <;> cases al <;> simp [X, p, rankD, intsT]
end
end Cd
set_option Elab.async false
set_option linter.all false
set_option maxRecDepth 100000
set_option maxHeartbeats 4000000
namespace Cd
open PySem L2
end Cd
set_option Elab.async false
set_option linter.all false
set_option maxRecDepth 100000
set_option maxHeartbeats 4000000
namespace Cd
open PySem L2
section
variable {fns : Nat → Option FnD} {h : Hi} {k t q : Nat}
theorem er_map {α : Type} (f : α → PyData) : ∀ (l : List α) (j : Nat), (l.map f).eraseIdx j = (l.eraseIdx j).map f
  | [], _ => rfl
  | a :: l, 0 => rfl
  | a :: l, j + 1 => by rw [List.map_cons, List.eraseIdx_cons_succ, List.eraseIdx_cons_succ, List.map_cons, er_map f l j]
theorem er_perm {α : Type} : ∀ (l : List α) (j : Nat) (h : j < l.length), (l[j] :: l.eraseIdx j).Perm l
  | a :: l, 0, _ => List.Perm.refl _
  | a :: l, j + 1, h => by
    have := er_perm l j (by simpa using h)
    rw [List.eraseIdx_cons_succ, List.getElem_cons_succ]
    exact (List.Perm.swap _ _ _).trans (this.cons a)
end
end Cd
set_option Elab.async false
set_option linter.all false
set_option maxRecDepth 100000
set_option maxHeartbeats 4000000
namespace Cd
open PySem L2
def s51_0 : S := .set 3 (.tup [(.lit (.int 2)), (.lit (.int 3)), (.lit (.int 4)), (.lit (.int 5)), (.lit (.int 6)), (.lit (.int 7)), (.lit (.int 8)), (.lit (.int 9)), (.lit (.int 10)), (.lit (.int 11)), (.lit (.int 12)), (.lit (.int 13)), (.lit (.int 14))])
def s51_1 : S := .set 4 (.call 14 [(.var 0), (.var 1), (.lst [(.var 3), (.var 3), (.tup [(.lit (.int 2)), (.lit (.int 3)), (.lit (.int 4)), (.lit (.int 5)), (.lit (.int 14))]), (.tup [(.lit (.int 9)), (.lit (.int 10)), (.lit (.int 11)), (.lit (.int 12)), (.lit (.int 13))]), (.tup [(.lit (.int 6)), (.lit (.int 7)), (.lit (.int 8)), (.lit (.int 9))])])])
def s51_2 : S := .set2 5 6 (.mk (.lst [])) (.tup [])
def s51_3_0 : S := .ext (.var 5) (.comp [9] (.name 9) (.e (.lit (.str ("cdhs" : Str)))) [] (.tup [(.var 7), (.var 9)]))
def ls51_3 : List S := [s51_3_0]
def s51_3 : S := .for_ (.name 7) (.e (.var 4)) ls51_3
def s51_4_0 : S := .set 6 (.op2d .add (.var 6) (.tup [(.pop 5 (.call 13 [(.var 0), (.var 1), (.op1 .len (.var 5))]))]))
def ls51_4 : List S := [s51_4_0]
def s51_4 : S := .for_ (.name 8) (.rng1 (.var 2)) ls51_4
def s51_5 : S := .ret (.var 6)
def ls51 : List S := [s51_0, s51_1, s51_2, s51_3, s51_4, s51_5]
theorem b51_eq : b51 = ls51 := rfl
end Cd
set_option Elab.async false
set_option linter.all false
set_option maxRecDepth 100000
set_option maxHeartbeats 4000000
namespace Cd
open PySem L2
def suitsL : List Str := [("c" : Str), ("d" : Str), ("h" : Str), ("s" : Str)]
def deckOf (rs : List Int) : List Card := rs.flatMap fun r => suitsL.map fun s => (r, s)
def every : List Int := [2, 3, 4, 5, 6, 7, 8, 9, 10, 11, 12, 13, 14]
def deckRs : List (List Int) := [every, every, [2, 3, 4, 5, 14], [9, 10, 11, 12, 13], [6, 7, 8, 9]]
/-- some cards of one of the decks, drawn without being put back -/
def Deck (cs : List Card) : Prop := ∃ rs ∈ deckRs, ∃ rest, (cs ++ rest).Perm (deckOf rs)
theorem deck_len (rs : List Int) : (deckOf rs).length = 4 * rs.length := by
  unfold deckOf
  induction rs with
  | nil => rfl
  | cons r rs ih => rw [List.flatMap_cons, List.length_append, ih, List.length_map, List.length_cons]; show 4 + _ = _; omega
theorem deck_snoc (rs : List Int) (r : Int) : deckOf (rs ++ [r]) = deckOf rs ++ suitsL.map fun s => (r, s) := by
  unfold deckOf
  rw [List.flatMap_append]; simp
theorem deck_count (r : Int) (rs : List Int) : ((deckOf rs).map (·.1)).count r = 4 * rs.count r := by
  unfold deckOf
  induction rs with
  | nil => rfl
  | cons q rs ih =>
    rw [List.flatMap_cons, List.map_append, List.count_append, ih, List.count_cons]
    have : (suitsL.map fun s => (q, s)).map (·.1) = [q, q, q, q] := rfl
    rw [this]
    by_cases e : q = r
    · subst e; simp; omega
    · have : (q == r) = false := by simpa using e
      simp [List.count_cons, this]
theorem rs_count {rs : List Int} (h : rs ∈ deckRs) (r : Int) : rs.count r ≤ 1 := by
  have nd : rs.Nodup := by
    have : ∀ rs ∈ deckRs, rs.Nodup := by decide
    exact this rs h
  exact List.nodup_iff_count.mp nd r
theorem Deck.count {cs : List Card} (d : Deck cs) (r : Int) : (cs.map (·.1)).count r ≤ 4 := by
  obtain ⟨rs, hrs, rest, p⟩ := d
  have h1 := (p.map (·.1)).count_eq r
  rw [List.map_append, List.count_append, deck_count] at h1
  have := rs_count hrs r
  omega
theorem Deck.range {cs : List Card} (d : Deck cs) : ∀ c ∈ cs, 2 ≤ c.1 ∧ c.1 ≤ 14 ∧ c.2 ∈ suitsL := by
  obtain ⟨rs, hrs, rest, p⟩ := d
  intro c hc
  have hm := p.mem_iff.mp (List.mem_append_left rest hc)
  unfold deckOf at hm
  obtain ⟨r, hr, h2⟩ := List.mem_flatMap.mp hm
  obtain ⟨s, hs, rfl⟩ := List.mem_map.mp h2
  have : ∀ rs ∈ deckRs, ∀ r ∈ rs, 2 ≤ r ∧ r ≤ 14 := by decide
  exact ⟨(this rs hrs r hr).1, (this rs hrs r hr).2, hs⟩
section
variable {fns : Nat → Option FnD} {h : Hi} {k t q : Nat} {cf : Calls}
theorem items_suits : itemsOf (.str ("cdhs" : Str)) = some (suitsL.map .str) := by rfl
abbrev envC (ns : List Int) (t : Nat) (m : Int) (v3 v4 v5 v6 v7 v8 : Option Val) : Ev := [some (.p (.list (ns.map .int))), some (.ref t), some (.p (.int m)), v3, v4, v5, v6, v7, v8, none]
theorem loop51a {ns : List Int} {m : Int} {v3 v4 v6 v8 : Option Val} (ht : t < h.length) : ∀ (rs done : List Int) (v7 : Option Val), done.length + rs.length < 100 →
    ∃ w7, forL (evalSs cf ls51_3) (bindT (.name 7)) (rs.map .int) (envC ns t m v3 v4 (some (.ref h.length)) v6 v7 v8) (hT (h ++ [.lst ((deckOf done).map cardD)]) t k) =
      .ok .nx (envC ns t m v3 v4 (some (.ref h.length)) v6 w7 v8) (hT (h ++ [.lst ((deckOf (done ++ rs)).map cardD)]) t k)
  | [], done, v7, _ => ⟨v7, by rw [List.append_nil]; rfl⟩
  | r :: rs, done, v7, hl => by
    rw [List.length_cons] at hl
    obtain ⟨w7, e⟩ := loop51a (ns := ns) (m := m) (v3 := v3) (v4 := v4) (v6 := v6) (v8 := v8) ht rs (done ++ [r]) (some (.p (.int r))) (by simp; omega)
    refine ⟨w7, ?_⟩
    rw [List.append_assoc, List.singleton_append] at e
    rw [List.map_cons]
    unfold forL
    have eb : bindT (.name 7) (.int r) (envC ns t m v3 v4 (some (.ref h.length)) v6 v7 v8) = some (envC ns t m v3 v4 (some (.ref h.length)) v6 (some (.p (.int r))) v8) := by
      simp only [bt_name, setSlot_0, setSlot_s]
    rw [eb]
    have c1 : evalE cf (envC ns t m v3 v4 (some (.ref h.length)) v6 (some (.p (.int r))) v8) (.comp [9] (.name 9) (.e (.lit (.str ("cdhs" : Str)))) [] (.tup [(.var 7), (.var 9)])) (hT (h ++ [.lst ((deckOf done).map cardD)]) t k) = .ok (.p (.list ((suitsL.map fun s => (r, s)).map cardD))) (hT (h ++ [.lst ((deckOf done).map cardD)]) t k) := by
      rw [List.map_map]
      refine comp_all PyData.str _ (by simp only [es_e, ev_lit, R.bind_ok, unP_p, items_suits, ofO_some]) (by decide) fun s hs => ⟨[some (.p (.list (ns.map .int))), some (.ref t), some (.p (.int m)), v3, v4, some (.ref h.length), v6, some (.p (.int r)), v8, some (.p (.str s))], by simp, by simp [cardD]⟩
    have sz : ((deckOf done).map cardD).length + ((suitsL.map fun s => (r, s)).map cardD).length ≤ sizeLine := by
      rw [List.length_map, List.length_map, List.length_map, deck_len]
      exact sz_ok (by show 4 * done.length + 4 ≤ 1000; omega)
    have st : evalSs cf ls51_3 (envC ns t m v3 v4 (some (.ref h.length)) v6 (some (.p (.int r))) v8) (hT (h ++ [.lst ((deckOf done).map cardD)]) t k) = .ok .nx (envC ns t m v3 v4 (some (.ref h.length)) v6 (some (.p (.int r))) v8) (hT (h ++ [.lst ((deckOf (done ++ [r])).map cardD)]) t k) := by
      have ex : extH (envC ns t m v3 v4 (some (.ref h.length)) v6 (some (.p (.int r))) v8) (.var 5) (.list ((suitsL.map fun s => (r, s)).map cardD)) (hT (h ++ [.lst ((deckOf done).map cardD)]) t k) = some (hT (h ++ [.lst ((deckOf (done ++ [r])).map cardD)]) t k) := by
        unfold extH
        simp only [listD, Option.bind_some, getL_var, slot_0, slot_s, refOf_r, one_a ht]
        rw [if_pos sz]
        unfold storeL
        simp only [slotRef_eq, slot_0, slot_s, refOf_r, Option.map_some, one_sa ht, deck_snoc, List.map_append]
      unfold ls51_3 s51_3_0
      simp only [ss_cons, ss_nil, st_ext, getL_var, slot_0, slot_s, refOf_r, Option.bind_some, one_a ht, c1, R.bind_ok, unP_p, R.toS_ok, ex, ofH_some, RS.bind_nx]
    simp only [st]
    exact e
theorem loop51b {ns : List Int} {m : Int} {v3 v4 v7 : Option Val} {deck : List Card} (F13 : fns 13 = some d13) (ht : t < h.length) (hd : deck.length < 1000) : ∀ (items : List PyData) (k : Nat) (left got : List Card) (v8 : Option Val), items.length < left.length → k + items.length < 1000000 → (got ++ left).Perm deck → got.length + items.length < 900 →
    ∃ (left' got' : List Card) (w8 : Option Val), (got' ++ left').Perm deck ∧ got'.length = got.length + items.length ∧ forL (evalSs (callF fns (q + 1)) ls51_4) (bindT (.name 8)) items (envC ns t m v3 v4 (some (.ref h.length)) (some (.p (.tuple (got.map cardD)))) v7 v8) (hT (h ++ [.lst (left.map cardD)]) t k) =
      .ok .nx (envC ns t m v3 v4 (some (.ref h.length)) (some (.p (.tuple (got'.map cardD)))) v7 w8) (hT (h ++ [.lst (left'.map cardD)]) t (k + items.length))
  | [], k, left, got, v8, _, _, p, _ => ⟨left, got, v8, p, rfl, rfl⟩
  | x :: items, k, left, got, v8, hl, hk, p, hg => by
    rw [List.length_cons] at hl hk hg
    have pl := p.length_eq
    rw [List.length_append] at pl
    obtain ⟨v, v0, v1, ev⟩ := draw_eval (q := q) (h := h ++ [.lst (left.map cardD)]) (t := t) (k := k) F13 ns (by simp; omega) (by omega) (m := (left.length : Int)) (by omega)
    obtain ⟨j, rfl⟩ := Int.eq_ofNat_of_zero_le v0
    have hj : j < left.length := by omega
    have ep := er_perm left j hj
    have el : (left.eraseIdx j).length = left.length - 1 := List.length_eraseIdx_of_lt hj
    obtain ⟨left', got', w8, p', l', e⟩ := loop51b (ns := ns) (m := m) (v3 := v3) (v4 := v4) (v7 := v7) F13 ht hd items (k + 1) (left.eraseIdx j) (got ++ [left[j]]) (some (.p x)) (by omega) (by omega) (by
      refine List.Perm.trans ?_ p
      rw [List.append_assoc, List.singleton_append]
      exact ep.append_left got) (by simp; omega)
    refine ⟨left', got', w8, p', by rw [l']; simp; omega, ?_⟩
    unfold forL
    have eb : bindT (.name 8) x (envC ns t m v3 v4 (some (.ref h.length)) (some (.p (.tuple (got.map cardD)))) v7 v8) = some (envC ns t m v3 v4 (some (.ref h.length)) (some (.p (.tuple (got.map cardD)))) v7 (some (.p x))) := by
      simp only [bt_name, setSlot_0, setSlot_s]
    rw [eb]
    have ix : ixN (left.map cardD).length ((j : Nat) : Int) = some j := ixN_nat (by rw [List.length_map]; exact hj)
    have gx : (left.map cardD)[j]? = some (cardD left[j]) := by rw [List.getElem?_map, List.getElem?_eq_getElem hj]; rfl
    have er := er_map cardD left j
    have sm : ((j : Nat) : Int).natAbs < 9223372036854775808 := by omega
    have ln : ((left.map cardD).length : Int) = (left.length : Int) := by rw [List.length_map]
    generalize left[j] = c at *
    generalize left.eraseIdx j = l2 at *
    have pp : popK (envC ns t m v3 v4 (some (.ref h.length)) (some (.p (.tuple (got.map cardD)))) v7 (some (.p x))) 5 (.int ((j : Nat) : Int)) (hT (h ++ [.lst (left.map cardD)]) t (k + 1)) = .ok (.p (cardD c)) (hT (h ++ [.lst (l2.map cardD)]) t (k + 1)) := by
      unfold popK
      simp only [lstOf_eq, slot_0, slot_s, refOf_r, Option.bind_some, one_a ht, Option.map_some, ix, gx, if_pos sm, er, one_sa ht]
    have ad : opf2 .add (.tuple (got.map cardD)) (.tuple [cardD c]) = some (.tuple ((got ++ [c]).map cardD)) := by
      rw [addT_ok (by simp; omega), List.map_append]; rfl
    have st : evalSs (callF fns (q + 1)) ls51_4 (envC ns t m v3 v4 (some (.ref h.length)) (some (.p (.tuple (got.map cardD)))) v7 (some (.p x))) (hT (h ++ [.lst (left.map cardD)]) t k) = .ok .nx (envC ns t m v3 v4 (some (.ref h.length)) (some (.p (.tuple ((got ++ [c]).map cardD)))) v7 (some (.p x))) (hT (h ++ [.lst (l2.map cardD)]) t (k + 1)) := by
      generalize callF fns (q + 1) = cf at ev
      unfold ls51_4 s51_4_0
      simp only [ss_cons, ss_nil, st_set, ev_op2d, ev_var, slot_0, slot_s, ofO_some, R.bind_ok, unP_p, ev_tup, eps_cons, eps_nil, ev_pop, lstOf_eq, refOf_r, Option.bind_some, one_a ht, Option.map_some, ev_call, ees_cons, ees_nil, ev_op1, bor_var, borV_r, o_lenL, ln, ev, pp, ad, R.toS_ok, setSlot_0, setSlot_s, RS.bind_nx]
    simp only [st]
    rw [List.length_cons, show k + (items.length + 1) = k + 1 + items.length by omega]
    exact e
theorem cards_evalG {i : Nat} (F : HasD fns) (F51 : fns i = some d51) (ns : List Int) {m : Nat} (hm : m ≤ 15) (ht : t < h.length) (hk : k + 100 < 1000000) :
    ∃ cs : List Card, cs.length = m ∧ Deck cs ∧ callF fns (q + 3) i [.p (.list (ns.map .int)), .ref t, .p (.int m)] (hT h t k) = .ok (.p (.tuple (cs.map cardD))) (hT h t (k + 1 + m)) := by
  rw [call_eq F51 rfl]
  let rows : List PyData := deckRs.map intsT
  obtain ⟨x, hx, ep⟩ := pick_eval (fns := fns) (q := q) (h := h) (t := t) (k := k) F ns (xs := rows) ht (by omega) (by simp [rows, deckRs])
  obtain ⟨rs, hrs, rfl⟩ := List.mem_map.mp hx
  have rl : 4 ≤ rs.length ∧ rs.length ≤ 13 := by
    have : ∀ rs ∈ deckRs, 4 ≤ rs.length ∧ rs.length ≤ 13 := by decide
    exact this rs hrs
  let X := fun v3 v4 v5 v6 v7 v8 => envC ns t m v3 v4 v5 v6 v7 v8
  obtain ⟨w7, e3⟩ := loop51a (cf := callF fns (q + 2)) (h := h) (k := k + 1) (ns := ns) (m := m) (v3 := some (.p (intsT every))) (v4 := some (.p (intsT rs))) (v6 := some (.p (.tuple []))) (v8 := none) ht rs [] none (by simp; omega)
  rw [List.nil_append] at e3
  obtain ⟨left', got', w8, p', l', e4⟩ := loop51b (fns := fns) (q := q + 1) (h := h) (ns := ns) (m := m) (v3 := some (.p (intsT every))) (v4 := some (.p (intsT rs))) (v7 := w7) (deck := deckOf rs) F.f13 ht (by rw [deck_len]; omega) ((List.range m).map natD) (k + 1) (deckOf rs) [] none (by rw [deck_len]; simp; omega) (by simp; omega) (List.Perm.refl _) (by simp; omega)
  rw [List.length_map, List.length_range] at l' e4
  change forL (evalSs (callF fns (q + 2)) ls51_4) _ _ _ _ = _ at e4
  generalize callF fns (q + 2) = cf at ep e3 e4
  have t0 : evalS cf s51_0 (X none none none none none none) (hT h t k) = .ok .nx (X (some (.p (intsT every))) none none none none none) (hT h t k) := by
    unfold s51_0
    simp only [st_set, ev_tup, eps_cons, eps_nil, ev_lit, R.bind_ok, unP_p, R.toS_ok, X, setSlot_0, setSlot_s]
    rfl
  have t1 : evalS cf s51_1 (X (some (.p (intsT every))) none none none none none) (hT h t k) = .ok .nx (X (some (.p (intsT every))) (some (.p (intsT rs))) none none none none) (hT h t (k + 1)) := by
    unfold s51_1
    simp only [st_set, ev_call, ees_cons, ees_nil, ev_var, X, slot_0, slot_s, ofO_some, R.bind_ok, ev_lst, eps_cons, eps_nil, unP_p, ev_tup, ev_lit]
    have ep' : cf 14 [.p (.list (ns.map .int)), .ref t, .p (.list [intsT every, intsT every, .tuple [.int 2, .int 3, .int 4, .int 5, .int 14], .tuple [.int 9, .int 10, .int 11, .int 12, .int 13], .tuple [.int 6, .int 7, .int 8, .int 9]])] (hT h t k) = .ok (.p (intsT rs)) (hT h t (k + 1)) := ep
    rw [ep', R.toS_ok]
    simp only [setSlot_0, setSlot_s]
  have t2 : evalS cf s51_2 (X (some (.p (intsT every))) (some (.p (intsT rs))) none none none none) (hT h t (k + 1)) = .ok .nx (X (some (.p (intsT every))) (some (.p (intsT rs))) (some (.ref h.length)) (some (.p (.tuple []))) none none) (hT (h ++ [.lst ((deckOf []).map cardD)]) t (k + 1)) := by
    unfold s51_2
    simp only [st_set2, ev_mk, ev_lst, eps_nil, R.bind_ok, unP_p, mkK, R.toS_ok, hT_len, hT_app ht, ev_tup, X, setSlot_0, setSlot_s]
    rfl
  have t3 : evalS cf s51_3 (X (some (.p (intsT every))) (some (.p (intsT rs))) (some (.ref h.length)) (some (.p (.tuple []))) none none) (hT (h ++ [.lst ((deckOf []).map cardD)]) t (k + 1)) = .ok .nx (X (some (.p (intsT every))) (some (.p (intsT rs))) (some (.ref h.length)) (some (.p (.tuple []))) w7 none) (hT (h ++ [.lst ((deckOf rs).map cardD)]) t (k + 1)) := by
    unfold s51_3
    simp only [st_for, es_e, ev_var, X, slot_0, slot_s, ofO_some, R.bind_ok, unP_p, intsT, items_T, R.toS_ok]
    exact e3
  have t4 : evalS cf s51_4 (X (some (.p (intsT every))) (some (.p (intsT rs))) (some (.ref h.length)) (some (.p (.tuple []))) w7 none) (hT (h ++ [.lst ((deckOf rs).map cardD)]) t (k + 1)) = .ok .nx (X (some (.p (intsT every))) (some (.p (intsT rs))) (some (.ref h.length)) (some (.p (.tuple (got'.map cardD)))) w7 w8) (hT (h ++ [.lst (left'.map cardD)]) t (k + 1 + m)) := by
    unfold s51_4
    rw [st_for, src_nat (j := m) (by simp [X]) (by omega), R.toS_ok]
    exact e4
  refine ⟨got', by simpa using l', ⟨rs, hrs, left', p'⟩, ?_⟩
  show finF (hT h t k).length (evalSs cf b51 (X none none none none none none) (hT h t k)) = _
  rw [b51_eq]
  unfold ls51
  rw [ss_cons, t0, RS.bind_nx, ss_cons, t1, RS.bind_nx, ss_cons, t2, RS.bind_nx, ss_cons, t3, RS.bind_nx, ss_cons, t4, RS.bind_nx, ss_cons]
  simp only [s51_5, st_ret, ev_var, X, slot_0, slot_s, ofO_some, R.toS_ok, RS.bind_rt, fin_rp, hT_len, hT_cut ht]
end
end Cd
set_option Elab.async false
set_option linter.all false
set_option maxRecDepth 100000
set_option maxHeartbeats 4000000
namespace Cd
open PySem L2
structure Often (done : List Int) (l : List (Int × Int)) : Prop where
  val : ∀ p ∈ l, p.2 = (done.count p.1 : Int) ∧ 0 < p.2
  sum : (l.map (·.2)).sum = done.length
  keys : ∀ x, x ∈ done ↔ x ∈ l.map (·.1)
  nd : (l.map (·.1)).Nodup
theorem bump_keys (r : Int) : ∀ l : List (Int × Int), (bump r l).map (·.1) = if r ∈ l.map (·.1) then l.map (·.1) else l.map (·.1) ++ [r]
  | [] => rfl
  | (q, c) :: t => by
    unfold bump
    by_cases e : q = r
    · subst e; simp
    · rw [if_neg e, List.map_cons, List.map_cons, bump_keys r t]
      have : r ∈ q :: t.map (·.1) ↔ r ∈ t.map (·.1) := by
        rw [List.mem_cons]
        exact ⟨fun h => h.resolve_left fun z => e z.symm, .inr⟩
      by_cases c : r ∈ t.map (·.1)
      · rw [if_pos c, if_pos (this.mpr c)]
      · rw [if_neg c, if_neg (fun z => c (this.mp z))]; rfl
theorem bump_sum (r : Int) : ∀ l : List (Int × Int), ((bump r l).map (·.2)).sum = (l.map (·.2)).sum + 1
  | [] => rfl
  | (q, c) :: t => by
    unfold bump
    by_cases e : q = r
    · rw [if_pos e, List.map_cons, List.map_cons, List.sum_cons, List.sum_cons]; omega
    · rw [if_neg e, List.map_cons, List.map_cons, List.sum_cons, List.sum_cons, bump_sum r t]; omega
theorem bump_mem (r : Int) : ∀ (l : List (Int × Int)), (l.map (·.1)).Nodup → ∀ p ∈ bump r l, (p ∈ l ∧ p.1 ≠ r) ∨ (p.1 = r ∧ (((r, p.2 - 1) ∈ l) ∨ (r ∉ l.map (·.1) ∧ p.2 = 1)))
  | [], _, p, h => by
    rw [List.mem_singleton.mp h]
    exact .inr ⟨rfl, .inr ⟨by simp, rfl⟩⟩
  | (q, c) :: t, nd, p, h => by
    obtain ⟨n1, n2⟩ := List.nodup_cons.mp nd
    unfold bump at h
    by_cases e : q = r
    · subst e
      rw [if_pos rfl] at h
      rcases List.mem_cons.mp h with rfl | h
      · refine .inr ⟨rfl, .inl ?_⟩
        have : c + 1 - 1 = c := by omega
        rw [this]; exact List.mem_cons_self
      · refine .inl ⟨List.mem_cons_of_mem _ h, fun z => n1 ?_⟩
        rw [← z]; exact List.mem_map.mpr ⟨p, h, rfl⟩
    · rw [if_neg e] at h
      rcases List.mem_cons.mp h with rfl | h
      · exact .inl ⟨List.mem_cons_self, e⟩
      · rcases bump_mem r t n2 p h with ⟨h1, h2⟩ | ⟨h1, h2 | ⟨h2, h3⟩⟩
        · exact .inl ⟨List.mem_cons_of_mem _ h1, h2⟩
        · exact .inr ⟨h1, .inl (List.mem_cons_of_mem _ h2)⟩
        · refine .inr ⟨h1, .inr ⟨?_, h3⟩⟩
          rw [List.map_cons, List.mem_cons]
          rintro (z | z)
          · exact e z.symm
          · exact h2 z
theorem Often.snoc {done : List Int} {l : List (Int × Int)} (o : Often done l) (r : Int) : Often (done ++ [r]) (bump r l) := by
  refine ⟨fun p hp => ?_, by rw [bump_sum, o.sum, List.length_append]; rfl, fun x => ?_, ?_⟩
  · rw [List.count_append]
    rcases bump_mem r l o.nd p hp with ⟨h1, h2⟩ | ⟨h1, h2 | ⟨h2, h3⟩⟩
    · have := o.val p h1
      have z : [r].count p.1 = 0 := List.count_eq_zero.mpr (by simpa using h2)
      rw [z]; exact this
    · have := o.val _ h2
      simp only at this
      rw [h1, List.count_singleton_self]
      constructor <;> omega
    · rw [h1, List.count_singleton_self, h3]
      have : done.count r = 0 := List.count_eq_zero.mpr (fun z => h2 ((o.keys r).mp z))
      rw [this]
      exact ⟨rfl, by decide⟩
  · rw [bump_keys, List.mem_append, List.mem_singleton, o.keys x]
    by_cases c : r ∈ l.map (·.1)
    · rw [if_pos c]
      constructor
      · rintro (h | rfl)
        · exact h
        · exact c
      · exact .inl
    · rw [if_neg c, List.mem_append, List.mem_singleton]
  · rw [bump_keys]
    by_cases c : r ∈ l.map (·.1)
    · rw [if_pos c]; exact o.nd
    · rw [if_neg c]
      exact List.nodup_append.mpr ⟨o.nd, by simp, fun a ha b hb => by rw [List.mem_singleton.mp hb]; rintro rfl; exact c ha⟩
theorem often_ok (rs : List Int) : Often rs (oftenM rs) := by
  have : ∀ (rs done : List Int) (l : List (Int × Int)), Often done l → Often (done ++ rs) (rs.foldl (fun l r => bump r l) l) := fun rs => by
    induction rs with
    | nil => intro done l o; rw [List.append_nil]; exact o
    | cons r rs ih =>
      intro done l o
      have := ih (done ++ [r]) (bump r l) (o.snoc r)
      rw [List.append_assoc, List.singleton_append] at this
      exact this
  have z := this rs [] [] ⟨(fun p hp => by cases hp), rfl, (fun x => by simp), List.Pairwise.nil⟩
  rw [List.nil_append] at z
  exact z
theorem sortP_permX (l : List (Int × Int)) : (sortP l).Perm l := by
  have hi : ∀ (x : Int × Int) (l : List (Int × Int)), (insP x l).Perm (x :: l) := fun x l => by
    induction l with
    | nil => exact .refl _
    | cons y r ih =>
      unfold insP
      split
      · exact .refl _
      · exact (ih.cons y).trans (.swap _ _ _)
  induction l with
  | nil => exact .refl _
  | cons x r ih => exact (hi x _).trans (ih.cons x)
theorem rows_perm (five : List Card) : (rowsM five).Perm ((oftenM (five.map (·.1))).map fun p => (p.2, p.1)) := (List.reverse_perm _).trans (sortP_permX _)
theorem leP_fst {p q : Int × Int} (h : leP p q = true) : p.1 ≤ q.1 := by
  unfold leP at h
  simp at h
  omega
theorem sortP_sortedX (l : List (Int × Int)) : (sortP l).Pairwise fun p q => leP p q = true := by
  have hi : ∀ (x : Int × Int) (l : List (Int × Int)), l.Pairwise (fun p q => leP p q = true) → (insP x l).Pairwise fun p q => leP p q = true := fun x l => by
    induction l with
    | nil => intro _; exact List.pairwise_singleton _ _
    | cons y r ih =>
      intro h
      obtain ⟨h1, h2⟩ := List.pairwise_cons.mp h
      have tr : ∀ {a b c : Int × Int}, leP a b = true → leP b c = true → leP a c = true := fun {a b c} x y => by
        unfold leP at *
        simp at *
        omega
      have tot : ∀ {a b : Int × Int}, ¬ leP a b = true → leP b a = true := fun {a b} x => by
        unfold leP at *
        simp at *
        omega
      unfold insP
      split
      · rename_i c
        refine List.pairwise_cons.mpr ⟨fun z hz => ?_, h⟩
        rcases List.mem_cons.mp hz with rfl | hz
        · exact c
        · exact tr c (h1 z hz)
      · rename_i c
        refine List.pairwise_cons.mpr ⟨fun z hz => ?_, ih h2⟩
        have pm : ∀ (x : Int × Int) (l : List (Int × Int)), z ∈ insP x l → z = x ∨ z ∈ l := fun x l => by
          induction l with
          | nil => intro h; exact .inl (List.mem_singleton.mp h)
          | cons y r ih =>
            intro h
            unfold insP at h
            split at h
            · exact List.mem_cons.mp h
            · rcases List.mem_cons.mp h with h | h
              · exact .inr (h ▸ List.mem_cons_self)
              · exact (ih h).imp id (List.mem_cons_of_mem _)
        rcases pm x r hz with rfl | hz
        · exact tot c
        · exact h1 z hz
  induction l with
  | nil => exact .nil
  | cons x r ih => exact hi x _ ih
theorem shape_desc (five : List Card) : (shapeM five).Pairwise (· ≥ ·) := by
  unfold shapeM rowsM
  rw [List.pairwise_map, List.pairwise_reverse]
  exact (sortP_sortedX _).imp fun h => leP_fst h
theorem isum_perm {xs ys : List Int} (h : xs.Perm ys) : xs.sum = ys.sum := by
  induction h with
  | nil => rfl
  | cons x _ ih => rw [List.sum_cons, List.sum_cons, ih]
  | swap x y l => simp only [List.sum_cons]; omega
  | trans _ _ h1 h2 => exact h1.trans h2
theorem shape_sum (five : List Card) : (shapeM five).sum = five.length := by
  have h := isum_perm ((rows_perm five).map (·.1))
  unfold shapeM
  rw [h, List.map_map]
  have := (often_ok (five.map (·.1))).sum
  rw [List.length_map] at this
  exact this
theorem shape_mem {five : List Card} (hc : ∀ r, (five.map (·.1)).count r ≤ 4) : ∀ c ∈ shapeM five, 1 ≤ c ∧ c ≤ 4 := fun c h => by
  obtain ⟨p, hp, rfl⟩ := List.mem_map.mp h
  obtain ⟨q, hq, rfl⟩ := List.mem_map.mp ((rows_perm five).mem_iff.mp hp)
  have := (often_ok (five.map (·.1))).val q hq
  have := hc q.1
  simp only
  omega
theorem shape_ok {five : List Card} (h5 : five.length = 5) (hc : ∀ r, (five.map (·.1)).count r ≤ 4) : (ranksM five).length < 5 → (shapes.lookup (shapeM five)).isSome := by
  intro hl
  have e : (ranksM five).length = (shapeM five).length := by unfold ranksM shapeM; rw [List.length_map, List.length_map]
  rw [e] at hl
  have h1 := shape_desc five
  have h2 := shape_sum five
  have h3 := shape_mem hc
  rw [h5] at h2
  generalize shapeM five = sh at hl h1 h2 h3
  match sh, hl, h1, h2, h3 with
  | [], _, _, h2, _ => simp at h2
  | [a], _, _, h2, h3 =>
    have := h3 a (by simp)
    simp at h2
    omega
  | [a, b], _, h1, h2, h3 =>
    have a1 := h3 a (by simp)
    have b1 := h3 b (by simp)
    simp at h1 h2
    have : (a = 4 ∧ b = 1) ∨ (a = 3 ∧ b = 2) := by omega
    rcases this with ⟨rfl, rfl⟩ | ⟨rfl, rfl⟩ <;> decide
  | [a, b, c], _, h1, h2, h3 =>
    have a1 := h3 a (by simp)
    have b1 := h3 b (by simp)
    have c1 := h3 c (by simp)
    simp at h1 h2
    have : (a = 3 ∧ b = 1 ∧ c = 1) ∨ (a = 2 ∧ b = 2 ∧ c = 1) := by omega
    rcases this with ⟨rfl, rfl, rfl⟩ | ⟨rfl, rfl, rfl⟩ <;> decide
  | [a, b, c, d], _, h1, h2, h3 =>
    have a1 := h3 a (by simp)
    have b1 := h3 b (by simp)
    have c1 := h3 c (by simp)
    have d1 := h3 d (by simp)
    simp at h1 h2
    have : a = 2 ∧ b = 1 ∧ c = 1 ∧ d = 1 := by omega
    obtain ⟨rfl, rfl, rfl, rfl⟩ := this
    decide
  | a :: b :: c :: d :: e :: f, hl, _, _, _ => simp at hl; omega
theorem ranks_mem {five : List Card} {r : Int} (h : r ∈ ranksM five) : r ∈ five.map (·.1) := by
  obtain ⟨p, hp, rfl⟩ := List.mem_map.mp h
  obtain ⟨q, hq, rfl⟩ := List.mem_map.mp ((rows_perm five).mem_iff.mp hp)
  exact ((often_ok _).keys q.1).mpr (List.mem_map.mpr ⟨q, hq, rfl⟩)
/-- cards of which there is one at most, or four of one rank -/
def Fit (cs : List Card) : Prop := (∀ r, (cs.map (·.1)).count r ≤ 4) ∧ ∀ c ∈ cs, 2 ≤ c.1 ∧ c.1 ≤ 14
theorem Deck.fit {cs : List Card} (d : Deck cs) : Fit cs := ⟨d.count, fun c hc => ⟨(d.range c hc).1, (d.range c hc).2.1⟩⟩
def ltI : List Int → List Int → Bool
  | [], [] => false
  | [], _ :: _ => true
  | _ :: _, [] => false
  | x :: xs, y :: ys => if x = y then ltI xs ys else decide (x < y)
theorem alike_ints : ∀ xs ys : List Int, PySem.W.alikeAll (xs.map .int) (ys.map .int) = true
  | [], _ => by simp [PySem.W.alikeAll]
  | _ :: _, [] => by simp [PySem.W.alikeAll]
  | x :: xs, y :: ys => by
    simp only [List.map_cons, PySem.W.alikeAll, PySem.W.alike, alike_ints xs ys, Bool.and_true]
theorem lt_ints : ∀ xs ys : List Int, PySem.W.dataLt (.tuple (xs.map .int)) (.tuple (ys.map .int)) = ltI xs ys
  | [], [] => by rw [PySem.W.dataLt_tuple]; rfl
  | [], _ :: _ => by rw [PySem.W.dataLt_tuple]; rfl
  | _ :: _, [] => by rw [PySem.W.dataLt_tuple]; rfl
  | x :: xs, y :: ys => by
    rw [PySem.W.dataLt_tuple, List.map_cons, List.map_cons]
    unfold ltI
    by_cases c : x = y
    · rw [if_pos c, PySem.W.dataLt_all_yes (by simp [PySem.W.alike]) (by rw [eqv_int]; exact decide_eq_true c), ← PySem.W.dataLt_tuple, lt_ints xs ys]
    · rw [if_neg c, PySem.W.dataLt_all_no (by simp [PySem.W.alike]) (by rw [eqv_int]; exact decide_eq_false c), PySem.W.dataLt_int]
end Cd
set_option Elab.async false
set_option linter.all false
set_option maxRecDepth 100000
set_option maxHeartbeats 4000000
namespace Cd
open PySem L2
end Cd
set_option Elab.async false
set_option linter.all false
set_option maxRecDepth 100000
set_option maxHeartbeats 4000000
namespace Cd
open PySem L2
def fivD (cs : List Card) : PyData := .tuple (cs.map cardD)
section
variable {fns : Nat → Option FnD} {h : Hi} {cf : Calls}
end
end Cd
set_option Elab.async false
set_option linter.all false
set_option maxRecDepth 100000
set_option maxHeartbeats 4000000
namespace Cd
open PySem L2
theorem Fit.sub {cs ds : List Card} (f : Fit cs) (s : ds.Sublist cs) : Fit ds :=
  ⟨fun r => Nat.le_trans ((s.map (·.1)).count_le r) (f.1 r), fun c hc => f.2 c (s.subset hc)⟩
theorem Fit.perm {cs ds : List Card} (f : Fit cs) (p : ds.Perm cs) : Fit ds :=
  ⟨fun r => by rw [(p.map (·.1)).count_eq r]; exact f.1 r, fun c hc => f.2 c (p.mem_iff.mp hc)⟩
abbrev Rank := Int × List Int
section
variable {fns : Nat → Option FnD} {h : Hi} {cf : Calls} {q : Nat}
end
end Cd
set_option Elab.async false
set_option linter.all false
set_option maxRecDepth 100000
set_option maxHeartbeats 4000000
namespace Cd
open PySem L2
theorem leP_anti {p q : Int × Int} (h1 : leP p q = true) (h2 : leP q p = true) : p = q := by
  unfold leP at h1 h2
  simp at h1 h2
  obtain ⟨a, b⟩ := p
  obtain ⟨c, d⟩ := q
  simp only at h1 h2
  have : a = c ∧ b = d := by omega
  rw [this.1, this.2]
theorem perm_sortedP : ∀ {xs ys : List (Int × Int)}, xs.Perm ys → xs.Pairwise (fun p q => leP p q = true) → ys.Pairwise (fun p q => leP p q = true) → xs = ys
  | [], ys, h, _, _ => by rw [List.nil_perm.mp h]
  | x :: xs, [], h, _, _ => absurd h.symm (by simp)
  | x :: xs, y :: ys, h, hx, hy => by
    have e : x = y := by
      obtain ⟨h1, _⟩ := List.pairwise_cons.mp hx
      obtain ⟨h2, _⟩ := List.pairwise_cons.mp hy
      rcases List.mem_cons.mp (h.mem_iff.mp List.mem_cons_self) with e | e
      · exact e
      · rcases List.mem_cons.mp (h.mem_iff.mpr (List.mem_cons_self : y ∈ y :: ys)) with e2 | e2
        · exact e2.symm
        · exact leP_anti (h1 y e2) (h2 x e)
    subst e
    rw [perm_sortedP (List.Perm.cons_inv h) (List.pairwise_cons.mp hx).2 (List.pairwise_cons.mp hy).2]
theorem often_mem {rs : List Int} {p : Int × Int} : p ∈ oftenM rs ↔ p.1 ∈ rs ∧ p.2 = (rs.count p.1 : Int) := by
  have o := often_ok rs
  constructor
  · intro h
    exact ⟨(o.keys p.1).mpr (List.mem_map.mpr ⟨p, h, rfl⟩), (o.val p h).1⟩
  · rintro ⟨h1, h2⟩
    obtain ⟨q, hq, e⟩ := List.mem_map.mp ((o.keys p.1).mp h1)
    have h3 := (o.val q hq).1
    rw [e, ← h2] at h3
    obtain ⟨a, b⟩ := p
    obtain ⟨c, d⟩ := q
    simp only at e h3
    rw [← e, ← h3]; exact hq
theorem often_nd (rs : List Int) : (oftenM rs).Nodup := by
  have h := (often_ok rs).nd
  unfold List.Nodup at h ⊢
  rw [List.pairwise_map] at h
  exact h.imp fun hne e => hne (by rw [e])
end Cd
set_option Elab.async false
set_option linter.all false
set_option maxRecDepth 100000
set_option maxHeartbeats 4000000
namespace Cd
open PySem L2
theorem ranks_len (five : List Card) : (ranksM five).length = (shapeM five).length := by unfold ranksM shapeM; rw [List.length_map, List.length_map]
theorem rows_mem {five : List Card} {p : Int × Int} : p ∈ rowsM five ↔ p.2 ∈ five.map (·.1) ∧ p.1 = ((five.map (·.1)).count p.2 : Int) := by
  rw [(rows_perm five).mem_iff, List.mem_map]
  constructor
  · rintro ⟨q, hq, rfl⟩
    have := often_mem.mp hq
    exact this
  · intro h
    exact ⟨(p.2, p.1), often_mem.mpr h, rfl⟩
end Cd
set_option Elab.async false
set_option linter.all false
set_option maxRecDepth 100000
set_option maxHeartbeats 4000000
namespace Cd
open PySem L2
/-- bets of two to six seats, somebody stays -/
structure Bu (bs : List Int) (gs : List Bool) : Prop where
  len : bs.length = gs.length
  two : 2 ≤ gs.length
  six : gs.length ≤ 6
  nn : ∀ b ∈ bs, 0 ≤ b
  ne : seatsM gs ≠ []
section
variable {bs : List Int} {gs : List Bool} {seats : List Nat} {last top : Int}
theorem Bu.hi (B : Bu bs gs) : ∀ i ∈ seatsM gs, i < bs.length := fun i h => by rw [B.len]; exact seats_lt h
theorem Bu.sum (B : Bu bs gs) : ((potsM bs gs).map (·.1)).sum = bs.sum := pots_sum B.nn B.hi B.ne
theorem potsL_pos : ∀ (ls : List Int) (a : Int), ∀ r ∈ potsL top bs seats a ls, 0 < r.1
  | [], _, r, h => by cases h
  | l :: ls, a, r, h => by
    rw [potsL.eq_2] at h
    rcases List.mem_append.mp h with h | h
    · by_cases p : 0 < (if l = top then restM bs a else manyM bs a l)
      · simp only [if_pos p] at h
        rw [List.mem_singleton.mp h]
        exact p
      · simp only [if_neg p] at h
        cases h
    · exact potsL_pos ls l r h
theorem sum_pos_nil {rows : List (Int × List Nat)} (h : ∀ r ∈ rows, 0 < r.1) (z : (rows.map (·.1)).sum = 0) : rows = [] := by
  cases rows with
  | nil => rfl
  | cons r rs =>
    exfalso
    rw [List.map_cons, List.sum_cons] at z
    have h1 := h r List.mem_cons_self
    have : 0 ≤ (rs.map (·.1)).sum := sum_nonneg fun x hx => by
      obtain ⟨y, hy, rfl⟩ := List.mem_map.mp hx
      have := h y (List.mem_cons_of_mem _ hy); omega
    omega
theorem Bu.nil_iff (B : Bu bs gs) : potsM bs gs = [] ↔ bs.sum = 0 := by
  constructor
  · intro z
    rw [← B.sum, z]; rfl
  · intro z
    exact sum_pos_nil (fun r hr => potsL_pos _ _ r hr) (by rw [B.sum]; exact z)
theorem sum_zeros (m : Nat) : (List.replicate m (0 : Int)).sum = 0 := by
  induction m with
  | zero => rfl
  | succ m ih => rw [List.replicate_succ, List.sum_cons, ih]; rfl
theorem Bu.zero (B : Bu bs gs) : potsM (List.replicate gs.length 0) gs = [] := by
  have B' : Bu (List.replicate gs.length 0) gs := ⟨by simp, B.two, B.six, fun b hb => by rw [(List.mem_replicate.mp hb).2]; omega, B.ne⟩
  exact B'.nil_iff.mpr (sum_zeros _)
variable {p : List Nat}
def bsP (bs : List Int) (p : List Nat) : List Int := p.map fun i => bs.getD i 0
def gsP (gs : List Bool) (p : List Nat) : List Bool := p.map fun i => gs.getD i false
theorem bs_range : (List.range bs.length).map (fun i => bs.getD i 0) = bs := by
  refine List.ext_getElem (by simp) fun i h1 h2 => ?_
  simp [h2]
theorem bsP_perm (hp : p.Perm (List.range bs.length)) : (bsP bs p).Perm bs := by
  have := hp.map fun i => bs.getD i 0
  rw [bs_range] at this
  exact this
theorem gsP_gd {j : Nat} (h : j < p.length) : (gsP gs p).getD j false = gs.getD (p.getD j 0) false := by
  unfold gsP; simp [h]
theorem Bu.perm (B : Bu bs gs) (hp : p.Perm (List.range gs.length)) : Bu (bsP bs p) (gsP gs p) := by
  have lp : p.length = gs.length := by rw [hp.length_eq, List.length_range]
  refine ⟨by unfold bsP gsP; simp, by unfold gsP; rw [List.length_map, lp]; exact B.two, by unfold gsP; rw [List.length_map, lp]; exact B.six, fun b hb => ?_, ?_⟩
  · exact B.nn b ((bsP_perm (by rw [B.len]; exact hp)).mem_iff.mp hb)
  · obtain ⟨i, hi⟩ := List.exists_mem_of_ne_nil _ B.ne
    obtain ⟨h1, h2⟩ := List.mem_filter.mp hi
    obtain ⟨j, hj', e2⟩ := List.getElem_of_mem (hp.mem_iff.mpr h1)
    have e3 : p.getD j 0 = i := by simp [hj', e2]
    exact List.ne_nil_of_mem (a := j) (List.mem_filter.mpr ⟨List.mem_range.mpr (by unfold gsP; rw [List.length_map]; exact hj'), by rw [gsP_gd hj', e3]; exact h2⟩)
theorem Bu.P (B : Bu bs gs) (hp : posL (levelsM bs gs) ≠ []) : potsM bs gs = potsP ((posL (levelsM bs gs)).getLast?.getD 0) bs (seatsM gs) 0 (posL (levelsM bs gs)) := potsM_P B.nn B.hi hp
/-- the levels beyond a -/
structure Lv (bs : List Int) (seats : List Nat) (top a : Int) (ls : List Int) : Prop where
  lt : ls.Pairwise (· < ·)
  gt : ∀ l ∈ ls, a < l
  all : ∀ i ∈ seats, a < bs.getD i 0 → bs.getD i 0 ∈ ls
  has : ∀ l ∈ ls, ∃ i ∈ seats, bs.getD i 0 = l
  last : ls ≠ [] → ls.getLast? = some top
theorem Lv.tail {a l : Int} {ls : List Int} (L : Lv bs seats top a (l :: ls)) : Lv bs seats top l ls := by
  obtain ⟨h1, h2⟩ := List.pairwise_cons.mp L.lt
  refine ⟨h2, h1, fun i hi hl => ?_, fun x hx => L.has x (List.mem_cons_of_mem _ hx), fun hne => ?_⟩
  · have := L.gt l List.mem_cons_self
    rcases List.mem_cons.mp (L.all i hi (by omega)) with h | h
    · omega
    · exact h
  · have := L.last (by simp)
    cases ls with
    | nil => exact absurd rfl hne
    | cons y r => rw [List.getLast?_cons_cons] at this; exact this
theorem Lv.next {a l : Int} {ls : List Int} (L : Lv bs seats top a (l :: ls)) : (seats.filter fun i => decide (a < bs.getD i 0)) = seats.filter (ge bs l) := by
  obtain ⟨h1, h2⟩ := List.pairwise_cons.mp L.lt
  have h3 := L.gt l List.mem_cons_self
  refine List.filter_congr fun i hi => decide_eq_decide.mpr ⟨fun h => ?_, fun h => by omega⟩
  rcases List.mem_cons.mp (L.all i hi h) with e | e
  · omega
  · have := h1 _ e; omega
theorem Lv.some {a l : Int} {ls : List Int} (L : Lv bs seats top a (l :: ls)) : ∃ i ∈ seats.filter (ge bs l), bs.getD i 0 = l := by
  obtain ⟨i, h1, h2⟩ := L.has l List.mem_cons_self
  exact ⟨i, List.mem_filter.mpr ⟨h1, by unfold ge; rw [h2]; simp⟩, h2⟩
theorem Lv.min {a l : Int} {ls : List Int} (L : Lv bs seats top a (l :: ls)) : (lvM bs (seats.filter (ge bs l))) ≠ [] ∧ minI (lvM bs (seats.filter (ge bs l))) = l := by
  obtain ⟨i, h1, h2⟩ := L.some
  have m : l ∈ lvM bs (seats.filter (ge bs l)) := List.mem_map.mpr ⟨i, h1, h2⟩
  have ne := List.ne_nil_of_mem m
  have m1 := minI_le m
  obtain ⟨j, h3, h4⟩ := List.mem_map.mp (minI_mem ne)
  have h5 : l ≤ bs.getD j 0 := of_decide_eq_true (List.mem_filter.mp h3).2
  have h6 : bs.getD j 0 = minI (lvM bs (seats.filter (ge bs l))) := h4
  exact ⟨ne, by omega⟩
theorem Bu.Lv (B : Bu bs gs) (hp : posL (levelsM bs gs) ≠ []) : Lv bs (seatsM gs) ((posL (levelsM bs gs)).getLast?.getD 0) 0 (posL (levelsM bs gs)) := by
  obtain ⟨y, hy⟩ : ∃ y, (posL (levelsM bs gs)).getLast? = some y := ⟨_, List.getLast?_eq_some_getLast hp⟩
  exact ⟨posL_lt lev_lt, fun l hl => (posL_mem.mp hl).2, fun i hi h => posL_mem.mpr ⟨lev_mem.mpr ⟨i, hi, rfl⟩, h⟩, fun l hl => lev_mem.mp (posL_mem.mp hl).1, fun _ => by rw [hy]; rfl⟩
end
end Cd
set_option Elab.async false
set_option linter.all false
set_option maxRecDepth 100000
set_option maxHeartbeats 4000000
namespace Cd
open PySem L2
def downs : List Int := [14, 13, 12, 11, 10, 9, 8, 7, 6, 5, 4, 3, 2]
def ranksL (rs : List Int) : List Int := [4, 3, 2, 1].flatMap fun m : Int => downs.filter fun r => decide ((rs.count r : Int) = m)
theorem downs_mem {r : Int} : r ∈ downs ↔ 2 ≤ r ∧ r ≤ 14 := by
  unfold downs
  simp only [List.mem_cons, List.not_mem_nil, or_false]
  omega
theorem ranksL_mem {rs : List Int} {r : Int} (h4 : ∀ r, rs.count r ≤ 4) (hr : ∀ r ∈ rs, 2 ≤ r ∧ r ≤ 14) : r ∈ ranksL rs ↔ r ∈ rs := by
  unfold ranksL
  rw [List.mem_flatMap]
  constructor
  · rintro ⟨m, hm, h⟩
    obtain ⟨_, h2⟩ := List.mem_filter.mp h
    have h2 := of_decide_eq_true h2
    have : 0 < rs.count r := by
      simp at hm
      omega
    exact List.count_pos_iff.mp this
  · intro h
    have c1 := List.count_pos_iff.mpr h
    have c2 := h4 r
    refine ⟨(rs.count r : Int), ?_, List.mem_filter.mpr ⟨downs_mem.mpr (hr r h), decide_eq_true rfl⟩⟩
    simp
    omega
theorem rowsL_desc (rs : List Int) : ((ranksL rs).map fun r => ((rs.count r : Int), r)).Pairwise fun p q => leP q p = true ∧ p ≠ q := by
  have piece : ∀ m : Int, ((downs.filter fun r => decide ((rs.count r : Int) = m)).map fun r => ((rs.count r : Int), r)).Pairwise fun p q => leP q p = true ∧ p ≠ q := fun m => by
    rw [List.pairwise_map]
    have dd : downs.Pairwise (fun a b => b < a) := by decide
    refine (List.pairwise_filter.mpr (dd.imp fun h ha hb => ?_))
    have ha := of_decide_eq_true ha
    have hb := of_decide_eq_true hb
    refine ⟨?_, fun e => ?_⟩
    · unfold leP
      rw [ha, hb]
      simp
      omega
    · have := congrArg Prod.snd e
      simp only at this
      omega
  have mem : ∀ (m : Int) p, p ∈ ((downs.filter fun r => decide ((rs.count r : Int) = m)).map fun r => ((rs.count r : Int), r)) → p.1 = m := fun m p hp => by
    obtain ⟨r, hr, rfl⟩ := List.mem_map.mp hp
    exact of_decide_eq_true (List.mem_filter.mp hr).2
  have cross : ∀ (m1 m2 : Int) p q, p.1 = m1 → q.1 = m2 → m2 < m1 → (leP q p = true ∧ p ≠ q) := fun m1 m2 p q h1 h2 h => by
    refine ⟨?_, fun e => ?_⟩
    · unfold leP
      rw [h1, h2]
      simp
      omega
    · rw [e] at h1; omega
  unfold ranksL
  rw [List.flatMap_cons, List.flatMap_cons, List.flatMap_cons, List.flatMap_cons, List.flatMap_nil, List.append_nil, List.map_append, List.map_append, List.map_append]
  refine List.pairwise_append.mpr ⟨piece 4, List.pairwise_append.mpr ⟨piece 3, List.pairwise_append.mpr ⟨piece 2, piece 1, fun p hp q hq => cross 2 1 p q (mem _ _ hp) (mem _ _ hq) (by decide)⟩, fun p hp q hq => ?_⟩, fun p hp q hq => ?_⟩
  · rcases List.mem_append.mp hq with hq | hq
    · exact cross 3 2 p q (mem _ _ hp) (mem _ _ hq) (by decide)
    · exact cross 3 1 p q (mem _ _ hp) (mem _ _ hq) (by decide)
  · rcases List.mem_append.mp hq with hq | hq
    · exact cross 4 3 p q (mem _ _ hp) (mem _ _ hq) (by decide)
    · rcases List.mem_append.mp hq with hq | hq
      · exact cross 4 2 p q (mem _ _ hp) (mem _ _ hq) (by decide)
      · exact cross 4 1 p q (mem _ _ hp) (mem _ _ hq) (by decide)
theorem rows_eqL {five : List Card} (f : Fit five) : rowsM five = (ranksL (five.map (·.1))).map fun r => (((five.map (·.1)).count r : Int), r) := by
  have desc := rowsL_desc (five.map (·.1))
  have ndM : (rowsM five).Nodup := by
    rw [(rows_perm five).nodup_iff]
    have h := often_nd (five.map (·.1))
    unfold List.Nodup at h ⊢
    rw [List.pairwise_map]
    exact h.imp fun hne e => hne (by
      have e1 := congrArg Prod.fst e
      have e2 := congrArg Prod.snd e
      exact Prod.ext e2 e1)
  have ndL : ((ranksL (five.map (·.1))).map fun r => (((five.map (·.1)).count r : Int), r)).Nodup := desc.imp fun h => h.2
  have pm : (rowsM five).Perm ((ranksL (five.map (·.1))).map fun r => (((five.map (·.1)).count r : Int), r)) := by
    refine (List.perm_ext_iff_of_nodup ndM ndL).mpr fun p => ?_
    rw [rows_mem]
    have hm := fun r => ranksL_mem (rs := five.map (·.1)) (r := r) f.1 (fun r hr => by
      obtain ⟨c, hc, rfl⟩ := List.mem_map.mp hr
      exact f.2 c hc)
    constructor
    · rintro ⟨h1, h2⟩
      exact List.mem_map.mpr ⟨p.2, (hm p.2).mpr h1, Prod.ext h2.symm rfl⟩
    · intro hp
      obtain ⟨r, hr, rfl⟩ := List.mem_map.mp hp
      exact ⟨(hm r).mp hr, rfl⟩
  have s1 : ((rowsM five).reverse).Pairwise fun p q => leP p q = true := by
    unfold rowsM
    rw [List.reverse_reverse]
    exact sortP_sortedX _
  have s2 : (((ranksL (five.map (·.1))).map fun r => (((five.map (·.1)).count r : Int), r)).reverse).Pairwise fun p q => leP p q = true := by
    rw [List.pairwise_reverse]
    exact desc.imp fun h => h.1
  have e := perm_sortedP ((List.reverse_perm _).trans (pm.trans (List.reverse_perm _).symm)) s1 s2
  exact List.reverse_inj.mp e
theorem ranks_eqL {five : List Card} (f : Fit five) : ranksM five = ranksL (five.map (·.1)) := by
  unfold ranksM
  rw [rows_eqL f, List.map_map]
  exact (List.map_congr_left fun r _ => rfl).trans (List.map_id _)
theorem unlike {five : List Card} (h5 : five.length = 5) (f : Fit five) (hl : ¬ (ranksM five).length < 5) : (ranksM five).length = 5 ∧ (ranksM five).Pairwise (fun a b => b < a) ∧ (∀ m ∈ shapeM five, m = 1) := by
  have rl := rows_len five
  have l5 : (ranksM five).length = 5 := by unfold ranksM at hl ⊢; rw [List.length_map] at hl ⊢; omega
  have ones : ∀ m ∈ shapeM five, m = 1 := by
    have ss := shape_sum five
    have sm := shape_mem f.1
    have sl : (shapeM five).length = 5 := by rw [← ranks_len]; exact l5
    rw [h5] at ss
    generalize shapeM five = sh at ss sm sl
    match sh, sl with
    | [a, b, c, d, e], _ =>
      have := sm a (by simp); have := sm b (by simp); have := sm c (by simp); have := sm d (by simp); have := sm e (by simp)
      simp at ss
      intro m hm
      simp at hm
      omega
  refine ⟨l5, ?_, ones⟩
  have desc := rowsL_desc (five.map (·.1))
  rw [ranks_eqL f]
  rw [List.pairwise_map] at desc
  have cnt : ∀ r ∈ ranksL (five.map (·.1)), ((five.map (·.1)).count r : Int) = 1 := fun r hr => by
    refine ones _ ?_
    unfold shapeM
    rw [rows_eqL f, List.map_map]
    exact List.mem_map.mpr ⟨r, hr, rfl⟩
  refine List.Pairwise.imp_of_mem (fun {a b} ha hb h => ?_) desc
  obtain ⟨h1, h2⟩ := h
  rw [cnt a ha, cnt b hb] at h1 h2
  unfold leP at h1
  simp at h1
  have : a ≠ b := fun e => h2 (by rw [e])
  omega
end Cd
set_option Elab.async false
set_option linter.all false
set_option maxRecDepth 100000
set_option maxHeartbeats 4000000
namespace Cd
open PySem L2
end Cd
set_option Elab.async false
set_option linter.all false
set_option maxRecDepth 100000
set_option maxHeartbeats 4000000
namespace Cd
open PySem L2
end Cd
set_option Elab.async false
set_option linter.all false
set_option maxRecDepth 100000
set_option maxHeartbeats 4000000
namespace Cd
open PySem L2
/-- the things from place a to place b -/
def seg {α : Type} (xs : List α) (a b : Nat) : List α := (xs.drop a).take (b - a)
theorem seg_app {α : Type} {xs t : List α} {a b : Nat} (hab : a ≤ b) (h : t.Sublist (xs.drop b)) : (seg xs a b ++ t).Sublist (xs.drop a) := by
  have e : seg xs a b ++ xs.drop b = xs.drop a := by
    unfold seg
    have : xs.drop b = (xs.drop a).drop (b - a) := by rw [List.drop_drop]; congr 1; omega
    rw [this]
    exact List.take_append_drop _ _
  rw [← e]
  exact (List.Sublist.refl _).append h
def holesM (cs : List Card) (s : Nat) : List (List Card) := (List.range s).map fun a => seg cs (2 * a) (2 * a + 2)
section
variable {fns : Nat → Option FnD} {h : Hi} {cf : Calls} {q k n m : Nat}
end
end Cd
set_option Elab.async false
set_option linter.all false
set_option maxRecDepth 100000
set_option maxHeartbeats 4000000
namespace Cd
open PySem L2
end Cd
set_option Elab.async false
set_option linter.all false
set_option maxRecDepth 100000
set_option maxHeartbeats 4000000
namespace Cd
open PySem L2
section
variable {fns : Nat → Option FnD} {h : Hi} {cf : Calls} {q k n m : Nat} {env : Ev}
@[simp] theorem ev_catB {i : Nat} {b : E} : evalE cf env (.catB i b) h = match lstOf env h i with
    | none => .stuck
    | some _ => ((evalE cf env b h).bind unP).bind fun y h1 => catBK env i y h1 := id rfl
end
end Cd
set_option Elab.async false
set_option linter.all false
set_option maxRecDepth 100000
set_option maxHeartbeats 4000000
namespace Cd
open PySem L2
end Cd
set_option Elab.async false
set_option linter.all false
set_option maxRecDepth 100000
set_option maxHeartbeats 4000000
namespace Cd
open PySem L2
section
variable {fns : Nat → Option FnD} {h : Hi} {cf : Calls} {q k n m : Nat}
end
end Cd
set_option Elab.async false
set_option linter.all false
set_option maxRecDepth 100000
set_option maxHeartbeats 4000000
namespace Cd
open PySem L2
section
variable {fns : Nat → Option FnD} {h : Hi} {cf : Calls} {q k n m : Nat}
end
end Cd
set_option Elab.async false
set_option linter.all false
set_option maxRecDepth 100000
set_option maxHeartbeats 4000000
namespace Cd
open PySem L2
section
variable {fns : Nat → Option FnD} {h : Hi} {cf : Calls} {q k n m : Nat}
end
end Cd
set_option Elab.async false
set_option linter.all false
set_option maxRecDepth 100000
set_option maxHeartbeats 4000000
namespace Cd
open PySem L2
section
variable {fns : Nat → Option FnD} {h : Hi} {cf : Calls} {q k n m i : Nat} {env : Ev}
@[simp] theorem es_rng3 {a b : E} : evalSrc cf env (.rng3 a b) h = ((evalE cf env a h).bind unP).bind fun d h1 => ((evalE cf env b h1).bind unP).bind fun e h2 => rng3K d e h2 := id rfl
theorem lookup_memL {k : Int} : ∀ {l : List (List Int × Int)} {sh : List Int}, l.lookup sh = some k → (sh, k) ∈ l
  | [], _, h => by cases h
  | (s, i) :: l, sh, h => by
    rw [List.lookup_cons] at h
    by_cases c : (sh == s) = true
    · rw [c] at h
      have : sh = s := by simpa using c
      cases h
      rw [this]; exact List.mem_cons_self
    · have c' : (sh == s) = false := by simpa using c
      rw [c'] at h
      exact List.mem_cons_of_mem _ (lookup_memL h)
theorem eqv_listI (xs ys : List Int) : PyData.eqv (.list (xs.map .int)) (.list (ys.map .int)) = decide (xs = ys) := by
  simp only [PyData.eqv, eqv_ints]
theorem plainI : ∀ xs : List Int, PyData.plainAll (xs.map .int) = true
  | [] => rfl
  | x :: xs => by rw [List.map_cons]; simp [PyData.plainAll, PyData.plain, plainI xs]
end
end Cd
set_option Elab.async false
set_option linter.all false
set_option maxRecDepth 100000
set_option maxHeartbeats 4000000
namespace Cd
open PySem L2
def s93_0 : S := .set 2 (.lit (.int 1))
def s93_1_0 : S := .set 2 (.op2d .fdiv (.op2d .mul (.var 2) (.op2d .sub (.var 0) (.var 3))) (.op2d .add (.var 3) (.lit (.int 1))))
def ls93_1 : List S := [s93_1_0]
def s93_1 : S := .for_ (.name 3) (.rng1 (.var 1)) ls93_1
def s93_2 : S := .ret (.var 2)
def ls93 : List S := [s93_0, s93_1, s93_2]
theorem b93_eq : b93 = ls93 := rfl
def s94_0 : S := .if_ (.or_ (.not_ (.val (.isi (.var 0) .tuple))) (.val (.op2 .ne (.op1 .len (.var 0)) (.var 1)))) [.ret (.lit (.bool false))] []
def s94_1 : S := .if_ (.not_ (.val (.op1 .all (.comp [2] (.name 2) (.e (.var 0)) [] (.and_ (.isi (.var 2) .int) (.and_ (.not_ (.isi (.var 2) .bool)) (.and_ (.op2d .le (.lit (.int 2)) (.var 2)) (.op2d .le (.var 2) (.lit (.int 14)))))))))) [.ret (.lit (.bool false))] []
def s94_2 : S := .ret (.op1 .all (.comp [2, 3] (.tup [(.name 2), (.name 3)]) (.zip (.op3b (.slice false true) (.var 0) (.lit .none) (.op1 .neg (.lit (.int 1)))) (.op3b (.slice true false) (.var 0) (.lit (.int 1)) (.lit .none))) [] (.op2 .gt (.var 2) (.var 3))))
def ls94 : List S := [s94_0, s94_1, s94_2]
theorem b94_eq : b94 = ls94 := rfl
def s95_0 : S := .if_ (.or_ (.not_ (.val (.isi (.var 0) .tuple))) (.or_ (.val (.op2 .ne (.op1 .len (.var 0)) (.lit (.int 2)))) (.not_ (.val (.isi (.op2b .ix (.var 0) (.lit (.int 1))) .tuple))))) [.ret (.lit (.bool false))] []
def s95_1 : S := .unpack (.tup [(.name 1), (.name 2)]) (.var 0)
def s95_2 : S := .if_ (.or_ (.not_ (.val (.isi (.var 1) .int))) (.or_ (.val (.isi (.var 1) .bool)) (.not_ (.val (.and_ (.op2d .le (.lit (.int 0)) (.var 1)) (.op2d .le (.var 1) (.lit (.int 8)))))))) [.ret (.lit (.bool false))] []
def s95_3 : S := .if_ (.val (.op2 .isIn (.var 1) (.tup [(.lit (.int 4)), (.lit (.int 8))]))) [.ret (.and_ (.call 94 [(.var 2), (.lit (.int 1))]) (.op2 .isIn (.op2b .ix (.var 2) (.lit (.int 0))) (.lit (.tuple [(.int 5), (.int 6), (.int 7), (.int 8), (.int 9), (.int 10), (.int 11), (.int 12), (.int 13), (.int 14)]))))] []
def s95_4 : S := .if_ (.val (.op2 .isIn (.var 1) (.tup [(.lit (.int 0)), (.lit (.int 5))]))) [.ret (.and_ (.call 94 [(.var 2), (.lit (.int 5))]) (.op2 .eq (.call 48 [(.var 2)]) (.lit (.int 0))))] []
def s95_5 : S := .unpack (.tup [(.name 3), (.name 4)]) (.op2b .ix (.lit (.tuple [(.tuple []), (.tuple [(.int 1), (.int 3)]), (.tuple [(.int 2), (.int 1)]), (.tuple [(.int 1), (.int 2)]), (.tuple []), (.tuple []), (.tuple [(.int 1), (.int 1)]), (.tuple [(.int 1), (.int 1)]), (.tuple [])])) (.var 1))
def s95_6 : S := .if_ (.or_ (.not_ (.val (.call 94 [(.op3b (.slice false true) (.var 2) (.lit .none) (.var 3)), (.var 3)]))) (.not_ (.val (.call 94 [(.op3b (.slice true false) (.var 2) (.var 3) (.lit .none)), (.var 4)])))) [.ret (.lit (.bool false))] []
def s95_7 : S := .ret (.not_ (.op1 .any (.comp [5] (.name 5) (.e (.op3b (.slice true false) (.var 2) (.var 3) (.lit .none))) [] (.op2 .isIn (.var 5) (.op3b (.slice false true) (.var 2) (.lit .none) (.var 3))))))
def ls95 : List S := [s95_0, s95_1, s95_2, s95_3, s95_4, s95_5, s95_6, s95_7]
theorem b95_eq : b95 = ls95 := rfl
def s96_0 : S := .set 2 (.lit (.int 0))
def s96_1 : S := .set 3 (.op1 .len (.var 0))
def s96_2_0 : S := .set 6 (.op2d .sub (.op2d .sub (.var 5) (.lit (.int 2))) (.op1 .len (.comp [7] (.name 7) (.e (.var 1)) [(.val (.op2 .lt (.var 7) (.var 5)))] (.var 7))))
def s96_2_1 : S := .set 2 (.op2d .add (.var 2) (.call 93 [(.var 6), (.op2d .sub (.var 3) (.var 4))]))
def ls96_2 : List S := [s96_2_0, s96_2_1]
def s96_2 : S := .for_ (.tup [(.name 4), (.name 5)]) (.enum (.var 0)) ls96_2
def s96_3 : S := .ret (.var 2)
def ls96 : List S := [s96_0, s96_1, s96_2, s96_3]
theorem b96_eq : b96 = ls96 := rfl
def s97_0 : S := .unpack (.tup [(.name 1), (.name 2)]) (.var 0)
def s97_1 : S := .if_ (.val (.op2 .isIn (.var 1) (.tup [(.lit (.int 4)), (.lit (.int 8))]))) [.ret (.op2d .sub (.op2b .ix (.var 2) (.lit (.int 0))) (.lit (.int 5)))] []
def s97_2_0 : S := .set 6 (.op2d .add (.comp [7] (.name 7) (.rng2 (.lit (.int 6)) (.lit (.int 15))) [] (.op1 .tuple (.comp [9] (.name 9) (.rng1 (.lit (.int 5))) [] (.op2d .sub (.var 7) (.var 9))))) (.lst [(.tup [(.lit (.int 14)), (.lit (.int 5)), (.lit (.int 4)), (.lit (.int 3)), (.lit (.int 2))])]))
def s97_2_1 : S := .ret (.op2d .sub (.call 96 [(.var 2), (.tup [])]) (.op1 .len (.comp [8] (.name 8) (.e (.var 6)) [(.val (.op2 .lt (.var 8) (.var 2)))] (.var 8))))
def ls97_2 : List S := [s97_2_0, s97_2_1]
def s97_2 : S := .if_ (.val (.op2 .isIn (.var 1) (.tup [(.lit (.int 0)), (.lit (.int 5))]))) ls97_2 []
def s97_3 : S := .unpack (.tup [(.name 3), (.name 4)]) (.op2b .ix (.lit (.tuple [(.tuple []), (.tuple [(.int 1), (.int 3)]), (.tuple [(.int 2), (.int 1)]), (.tuple [(.int 1), (.int 2)]), (.tuple []), (.tuple []), (.tuple [(.int 1), (.int 1)]), (.tuple [(.int 1), (.int 1)]), (.tuple [])])) (.var 1))
def s97_4 : S := .set 5 (.call 96 [(.op3b (.slice true false) (.var 2) (.var 3) (.lit .none)), (.op3b (.slice false true) (.var 2) (.lit .none) (.var 3))])
def s97_5 : S := .ret (.op2d .add (.op2d .mul (.call 96 [(.op3b (.slice false true) (.var 2) (.lit .none) (.var 3)), (.tup [])]) (.call 93 [(.op2d .sub (.lit (.int 13)) (.var 3)), (.var 4)])) (.var 5))
def ls97 : List S := [s97_0, s97_1, s97_2, s97_3, s97_4, s97_5]
theorem b97_eq : b97 = ls97 := rfl
def s98_0 : S := .if_ (.not_ (.val (.call 95 [(.var 0)]))) [.raise_ 2 []] []
def s98_1 : S := .ret (.op2d .add (.op1 .sum (.op3b (.slice false true) (.lit (.tuple [(.int 1277), (.int 2860), (.int 858), (.int 858), (.int 10), (.int 1277), (.int 156), (.int 156), (.int 10)])) (.lit .none) (.op2d .ix (.var 0) (.lit (.int 0))))) (.call 97 [(.var 0)]))
def ls98 : List S := [s98_0, s98_1]
theorem b98_eq : b98 = ls98 := rfl
end Cd
set_option Elab.async false
set_option linter.all false
set_option maxRecDepth 100000
set_option maxHeartbeats 4000000
namespace Cd
open PySem L2
def waysI (m : Int) (f : Nat) : Int := (List.range f).foldl (fun (x : Int) (k : Nat) => (x * (m - (k : Int))).fdiv ((k : Int) + 1)) 1
def fallB (rs : List Int) (m : Nat) : Bool := decide (rs.length = m) && ((rs.all fun x => decide (2 ≤ x) && decide (x ≤ 14)) && ((rs.dropLast.zip (rs.drop 1)).all fun p => decide (p.2 < p.1)))
def pfM (gone : List Int) : List Int → Int
  | [] => 0
  | r :: rs => waysI (r - 2 - (((gone.filter fun o => decide (o < r)).length : Nat) : Int)) (rs.length + 1) + pfM gone rs
def rows10 : List (List Int) := ((List.range 9).map fun i : Nat => (List.range 5).map fun k : Nat => (6 + (i : Int)) - (k : Int)) ++ [[14, 5, 4, 3, 2]]
def frM (k : Int) : Nat := if k = 2 then 2 else 1
def moM (k : Int) : Nat := if k = 1 then 3 else if k = 3 then 2 else 1
def lenM (k : Int) : Nat := if k = 0 ∨ k = 5 then 5 else if k = 4 ∨ k = 8 then 1 else frM k + moM k
def pkM (r : Rank) : Int :=
  if r.1 = 4 ∨ r.1 = 8 then r.2.headD 0 - 5
  else if r.1 = 0 ∨ r.1 = 5 then pfM [] r.2 - (((rows10.filter fun row => ltI row r.2).length : Nat) : Int)
  else pfM [] (r.2.take (frM r.1)) * waysI (13 - (frM r.1 : Int)) (moM r.1) + pfM (r.2.take (frM r.1)) (r.2.drop (frM r.1))
def leftM (gone : List Int) : List Int := every.filter fun r => !decide (r ∈ gone)
def findAt (k : Nat) (p : Int) : Nat → Nat
  | 0 => 0
  | a + 1 => if p < waysI ((a + 1 : Nat) : Int) k then findAt k p a else a + 1
def faL : Nat → Int → List Int → List Int
  | 0, _, _ => []
  | k + 1, p, left => left.getD (findAt (k + 1) p (left.length - 1)) 0 :: faL k (p - waysI ((findAt (k + 1) p (left.length - 1) : Nat) : Int) (k + 1)) (left.take (findAt (k + 1) p (left.length - 1)))
def faOk : Nat → Int → List Int → Bool
  | 0, _, _ => true
  | k + 1, p, left => decide (0 < left.length) && (decide (waysI 0 (k + 1) ≤ p) && faOk k (p - waysI ((findAt (k + 1) p (left.length - 1) : Nat) : Int) (k + 1)) (left.take (findAt (k + 1) p (left.length - 1))))
/-- a rank of the right form -/
structure Frm (r : Rank) : Prop where
  lo : 0 ≤ r.1
  hi : r.1 ≤ 8
  len : r.2.length = lenM r.1
  rng : ∀ x ∈ r.2, 2 ≤ x ∧ x ≤ 14
def vldB (r : Rank) : Bool :=
  if r.1 = 4 ∨ r.1 = 8 then fallB r.2 1 && decide (r.2.headD 0 ∈ ([5, 6, 7, 8, 9, 10, 11, 12, 13, 14] : List Int))
  else if r.1 = 0 ∨ r.1 = 5 then fallB r.2 5 && decide (topM r.2 = 0)
  else fallB (r.2.take (frM r.1)) (frM r.1) && (fallB (r.2.drop (frM r.1)) (moM r.1) && !((r.2.drop (frM r.1)).any fun x => decide (x ∈ r.2.take (frM r.1))))
def sizesL : List Int := [1277, 2860, 858, 858, 10, 1277, 156, 156, 10]
theorem inI (x : Int) : ∀ xs : List Int, inD (.int x) (xs.map .int) = some (decide (x ∈ xs)) := fun xs => by
  unfold inD
  have p : PyData.plainAll (xs.map PyData.int) = true := plainI xs
  rw [if_pos (by rw [p]; rfl), List.any_map]
  congr 1
  induction xs with
  | nil => rfl
  | cons w ws ih =>
    rw [List.any_cons, ih (plainI ws)]
    show (PyData.eqv (.int w) (.int x) || _) = _
    have e : PyData.eqv (.int w) (.int x) = decide (w = x) := by
      by_cases c : w = x
      · rw [c]; simp [PyData.eqv]
      · rw [decide_eq_false c]; simpa [PyData.eqv] using c
    rw [e, ← Bool.decide_or]
    refine decide_eq_decide.mpr ?_
    rw [List.mem_cons]
    exact ⟨fun h => h.elim (fun z => .inl z.symm) .inr, fun h => h.elim (fun z => .inl z.symm) .inr⟩
theorem o_inI (x : Int) (xs : List Int) : opf2 .isIn (.int x) (.tuple (xs.map .int)) = some (.bool (decide (x ∈ xs))) := by
  show (inD (.int x) (xs.map .int)).map PyData.bool = _
  rw [inI]; rfl
theorem o_notInI (x : Int) (xs : List Int) : opf2 .notIn (.int x) (.tuple (xs.map .int)) = some (.bool (!decide (x ∈ xs))) := by
  show (inD (.int x) (xs.map .int)).map (fun b => PyData.bool !b) = _
  rw [inI]; rfl
theorem o_ltT2 (xs ys : List Int) : opf2 .lt (.tuple (xs.map .int)) (.tuple (ys.map .int)) = some (.bool (ltI xs ys)) := by
  have c : cmpOk (.tuple (xs.map .int)) (.tuple (ys.map .int)) = true := by
    unfold cmpOk
    have a : PySem.W.alike (.tuple (xs.map .int)) (.tuple (ys.map .int)) = true := by
      simp only [PySem.W.alike]
      exact alike_ints xs ys
    have d : PyData.depth (.tuple (xs.map .int)) = 1 := by
      show PyData.depthAll (xs.map .int) + 1 = 1
      rw [depth_ints]
    rw [a, d]
    simp [isNoneD]
    omega
  show cmpD (fun i j => decide (i < j)) (fun x y => PySem.W.dataLt x y) (.tuple (xs.map .int)) (.tuple (ys.map .int)) = _
  rw [← lt_ints]
  show (if cmpOk (.tuple (xs.map .int)) (.tuple (ys.map .int)) then _ else none) = _
  rw [if_pos c]
theorem cut_from {α : Type} (xs : List α) (j : Nat) : cutM xs (some (j : Int)) none = xs.drop j := by
  by_cases h : j ≤ xs.length
  · exact cut_hi xs j h
  · unfold cutM
    rw [HT.sIx_none, HT.sIx_nat, Nat.min_eq_right (by omega), List.drop_eq_nil_of_le (Nat.le_refl _), List.drop_eq_nil_of_le (by omega)]
    simp
theorem cut_last {α : Type} (xs : List α) : cutM xs none (some (-1)) = xs.dropLast := by
  unfold cutM
  have e : HT.sIx xs.length xs.length (some (-1)) = xs.length - 1 := by
    show (if (-1 : Int) < 0 then (-1 + (xs.length : Int)).toNat else min (-1 : Int).toNat xs.length) = _
    rw [if_pos (by decide)]
    omega
  rw [HT.sIx_none, e, List.drop_zero, Nat.sub_zero, List.dropLast_eq_take]
theorem zipD_ii : ∀ (xs ys : List Int), zipD (xs.map .int) (ys.map .int) = (xs.zip ys).map fun p => .tuple [.int p.1, .int p.2]
  | [], _ => by simp [zipD]
  | _ :: _, [] => by simp [zipD]
  | x :: xs, y :: ys => by
    show PyData.tuple [.int x, .int y] :: zipD (xs.map .int) (ys.map .int) = _
    rw [zipD_ii xs ys]; rfl
section
variable {fns : Nat → Option FnD} {h : Hi} {cf : Calls} {q : Nat}
theorem loop93 {m : Int} {v1 : Option Val} (hm : m.natAbs < 1000) : ∀ (ks : List Nat) (x : Int) (v3 : Option Val), (∀ k ∈ ks, k < 1000) →
    ∃ w3, forL (evalSs cf ls93_1) (bindT (.name 3)) (ks.map natD) [some (.p (.int m)), v1, some (.p (.int x)), v3] h = .ok .nx [some (.p (.int m)), v1, some (.p (.int (ks.foldl (fun (x : Int) (k : Nat) => (x * (m - (k : Int))).fdiv ((k : Int) + 1)) x))), w3] h
  | [], x, v3, _ => ⟨v3, rfl⟩
  | k :: ks, x, v3, hk => by
    have h1 := hk k List.mem_cons_self
    obtain ⟨w3, e⟩ := loop93 hm ks ((x * (m - (k : Int))).fdiv ((k : Int) + 1)) (some (.p (natD k))) (fun y hy => hk y (List.mem_cons_of_mem _ hy))
    refine ⟨w3, ?_⟩
    rw [List.map_cons]
    unfold forL
    have eb : bindT (.name 3) (natD k) [some (.p (.int m)), v1, some (.p (.int x)), v3] = some [some (.p (.int m)), v1, some (.p (.int x)), some (.p (natD k))] := by simp
    rw [eb]
    have ml : opf2 .mul (.int x) (.int (m - (k : Int))) = some (.int (x * (m - (k : Int)))) := o_mul (.inr (s64_c (by omega)))
    have dv : opf2 .fdiv (.int (x * (m - (k : Int)))) (.int ((k : Int) + 1)) = some (.int ((x * (m - (k : Int))).fdiv ((k : Int) + 1))) := o_div (by omega) (by omega)
    have st : evalSs cf ls93_1 [some (.p (.int m)), v1, some (.p (.int x)), some (.p (natD k))] h = .ok .nx [some (.p (.int m)), v1, some (.p (.int ((x * (m - (k : Int))).fdiv ((k : Int) + 1)))), some (.p (natD k))] h := by
      unfold ls93_1 s93_1_0
      simp only [ss_cons, ss_nil, st_set, ev_op2d, ev_var, ev_lit, slot_0, slot_s, natD, ofO_some, R.bind_ok, unP_p, o_sub, o_add, Option.map_some, ml, dv, R.toS_ok, setSlot_0, setSlot_s, RS.bind_nx]
    simp only [st]
    exact e
theorem ways_eval (F93 : fns 93 = some d93) {m : Int} {f : Nat} (hm : m.natAbs < 1000) (hf : f < 1000) : callF fns (q + 1) 93 [.p (.int m), .p (.int (f : Int))] h = .ok (.p (.int (waysI m f))) h := by
  rw [call_eq F93 rfl]
  generalize callF fns q = cf
  obtain ⟨w3, e⟩ := loop93 (cf := cf) (h := h) (v1 := some (.p (.int (f : Int)))) hm (List.range f) 1 none (fun k hk => by have := List.mem_range.mp hk; omega)
  show finF h.length (evalSs cf b93 [some (.p (.int m)), some (.p (.int (f : Int))), none, none] h) = _
  rw [b93_eq]
  unfold ls93
  have t0 : evalS cf s93_0 [some (.p (.int m)), some (.p (.int (f : Int))), none, none] h = .ok .nx [some (.p (.int m)), some (.p (.int (f : Int))), some (.p (.int 1)), none] h := by simp [s93_0]
  have t1 : evalS cf s93_1 [some (.p (.int m)), some (.p (.int (f : Int))), some (.p (.int 1)), none] h = .ok .nx [some (.p (.int m)), some (.p (.int (f : Int))), some (.p (.int (waysI m f))), w3] h := by
    unfold s93_1
    rw [st_for, src_nat (j := f) (by simp) (by omega), R.toS_ok]
    exact e
  rw [ss_cons, t0, RS.bind_nx, ss_cons, t1, RS.bind_nx, ss_cons]
  simp only [s93_2, st_ret, ev_var, slot_0, slot_s, ofO_some, R.toS_ok, RS.bind_rt, fin_rp, List.take_length]
theorem falling_eval (F94 : fns 94 = some d94) {rs : List Int} {m : Nat} (hz : rs.length < 900) : callF fns (q + 1) 94 [.p (intsT rs), .p (.int (m : Int))] h = .ok (.p (.bool (fallB rs m))) h := by
  rw [call_eq F94 rfl]
  generalize callF fns q = cf
  let X : Ev := [some (.p (intsT rs)), some (.p (.int (m : Int))), none, none]
  have c1 : evalE cf X (.comp [2] (.name 2) (.e (.var 0)) [] (.and_ (.isi (.var 2) .int) (.and_ (.not_ (.isi (.var 2) .bool)) (.and_ (.op2d .le (.lit (.int 2)) (.var 2)) (.op2d .le (.var 2) (.lit (.int 14))))))) h = .ok (.p (.list ((rs.map fun x => decide (2 ≤ x) && decide (x ≤ 14)).map .bool))) h := by
    rw [List.map_map]
    refine comp_all PyData.int _ (by simp [X]) (by omega) fun x hx => ⟨[some (.p (intsT rs)), some (.p (.int (m : Int))), some (.p (.int x)), none], by simp [X], ?_⟩
    by_cases c : 2 ≤ x
    · simp [isTy, andK, notK, c]
    · simp [isTy, andK, notK, c]
  have zl : (rs.dropLast.zip (rs.drop 1)).length < 1000 := by rw [List.length_zip, List.length_dropLast]; omega
  have sa : opf3 (.slice false true) (intsT rs) .none (.int (-1)) = some (.tuple (rs.dropLast.map .int)) := by
    rw [slice_T (lo := none) (hi := some (-1)) rfl rfl, cut_last]
  have sb : opf3 (.slice true false) (intsT rs) (.int 1) .none = some (.tuple ((rs.drop 1).map .int)) := by
    rw [slice_T (lo := some ((1 : Nat) : Int)) (hi := none) rfl rfl, cut_from]
  have c2 : evalE cf X (.comp [2, 3] (.tup [(.name 2), (.name 3)]) (.zip (.op3b (.slice false true) (.var 0) (.lit .none) (.op1 .neg (.lit (.int 1)))) (.op3b (.slice true false) (.var 0) (.lit (.int 1)) (.lit .none))) [] (.op2 .gt (.var 2) (.var 3))) h = .ok (.p (.list (((rs.dropLast.zip (rs.drop 1)).map fun p => decide (p.2 < p.1)).map .bool))) h := by
    rw [List.map_map]
    refine comp_all (fun p : Int × Int => .tuple [.int p.1, .int p.2]) _ (by simp only [es_zip, ev_op3b, bor_var, X, slot_0, borV_p, ev_var, ofO_some, R.bind_ok, unP_p, ev_lit, ev_op1, bor_lit, o_neg, Option.map_some, sa, sb, items_T, Option.bind_some, zipD_ii]) zl fun p hp => ⟨[some (.p (intsT rs)), some (.p (.int (m : Int))), some (.p (.int p.1)), some (.p (.int p.2))], by simp [X], by simp⟩
  show finF h.length (evalSs cf b94 X h) = _
  rw [b94_eq]
  unfold ls94 fallB
  have ln : (((rs.map PyData.int).length : Nat) : Int) = (rs.length : Int) := by rw [List.length_map]
  by_cases c : rs.length = m
  · have ne : ((rs.length : Int) ≠ (m : Int)) = False := by simp; omega
    have t0 : evalS cf s94_0 X h = .ok .nx X h := by
      unfold s94_0
      simp [X, isTy, ne, c]
    rw [ss_cons, t0, RS.bind_nx, ss_cons, decide_eq_true c, Bool.true_and]
    have al : ((rs.map fun x => decide (2 ≤ x) && decide (x ≤ 14)).all id) = rs.all fun x => decide (2 ≤ x) && decide (x ≤ 14) := by rw [List.all_map]; rfl
    have al2 : (((rs.dropLast.zip (rs.drop 1)).map fun p => decide (p.2 < p.1)).all id) = (rs.dropLast.zip (rs.drop 1)).all fun p => decide (p.2 < p.1) := by rw [List.all_map]; rfl
    by_cases d : (rs.all fun x => decide (2 ≤ x) && decide (x ≤ 14)) = true
    · have t1 : evalS cf s94_1 X h = .ok .nx X h := by
        unfold s94_1
        simp only [st_if, et_not, et_val, bor_op1, ev_op1, bor_comp, c1, R.bind_ok, unP_p, o_allL, al, d, Option.map_some, ofO_some, truth_b, Bool.not_true, R.toS_ok, Bool.false_eq_true, if_false, ss_nil]
      rw [t1, RS.bind_nx, ss_cons, d, Bool.true_and]
      simp only [s94_2, st_ret, ev_op1, bor_comp, c2, R.bind_ok, unP_p, o_allL, al2, Option.map_some, ofO_some, R.toS_ok, RS.bind_rt, fin_rp, List.take_length]
    · rw [Bool.not_eq_true] at d
      simp only [s94_1, st_if, et_not, et_val, bor_op1, ev_op1, bor_comp, c1, R.bind_ok, unP_p, o_allL, al, d, Option.map_some, ofO_some, truth_b, Bool.not_false, R.toS_ok, if_true, ss_cons, st_ret, ev_lit, RS.bind_rt, fin_rp, List.take_length, Bool.false_and]
  · rw [decide_eq_false c, Bool.false_and, ss_cons]
    have ne : ((rs.length : Int) = (m : Int)) = False := by simp; omega
    simp [s94_0, X, isTy, ne]
theorem loop96 {A : PyData} {gone : List Int} {M : Nat} (hg : gone.length < 100) (e93 : ∀ (m : Int) (f : Nat), m.natAbs < 1000 → f < 1000 → cf 93 [.p (.int m), .p (.int (f : Int))] h = .ok (.p (.int (waysI m f))) h) : ∀ (rs : List Int) (k : Nat) (x : Int) (v4 v5 v6 : Option Val), (∀ r ∈ rs, 2 ≤ r ∧ r ≤ 14) → k + rs.length = M → M < 100 →
    ∃ w4 w5 w6, forL (evalSs cf ls96_2) (bindT (.tup [(.name 4), (.name 5)])) (enumFrom k (rs.map .int)) [some (.p A), some (.p (intsT gone)), some (.p (.int x)), some (.p (.int (M : Int))), v4, v5, v6, none] h =
      .ok .nx [some (.p A), some (.p (intsT gone)), some (.p (.int (x + pfM gone rs))), some (.p (.int (M : Int))), w4, w5, w6, none] h
  | [], k, x, v4, v5, v6, _, _, _ => ⟨v4, v5, v6, by
    show RS.ok .nx _ h = _
    rw [show x + pfM gone [] = x by show x + 0 = x; omega]⟩
  | r :: rs, k, x, v4, v5, v6, hr, hk, hM => by
    rw [List.length_cons] at hk
    obtain ⟨r2, r14⟩ := hr r List.mem_cons_self
    let lw : Int := r - 2 - (((gone.filter fun o => decide (o < r)).length : Nat) : Int)
    obtain ⟨w4, w5, w6, e⟩ := loop96 hg e93 rs (k + 1) (x + waysI lw (rs.length + 1)) (some (.p (natD k))) (some (.p (.int r))) (some (.p (.int lw))) (fun y hy => hr y (List.mem_cons_of_mem _ hy)) (by omega) hM
    refine ⟨w4, w5, w6, ?_⟩
    rw [List.map_cons]
    show forL _ _ (.tuple [.int (k : Int), .int r] :: enumFrom (k + 1) (rs.map .int)) _ _ = _
    unfold forL
    have eb : bindT (.tup [(.name 4), (.name 5)]) (.tuple [.int (k : Int), .int r]) [some (.p A), some (.p (intsT gone)), some (.p (.int x)), some (.p (.int (M : Int))), v4, v5, v6, none] = some [some (.p A), some (.p (intsT gone)), some (.p (.int x)), some (.p (.int (M : Int))), some (.p (natD k)), some (.p (.int r)), v6, none] := by simp
    rw [eb]
    have c1 : evalE cf [some (.p A), some (.p (intsT gone)), some (.p (.int x)), some (.p (.int (M : Int))), some (.p (natD k)), some (.p (.int r)), v6, none] (.comp [7] (.name 7) (.e (.var 1)) [(.val (.op2 .lt (.var 7) (.var 5)))] (.var 7)) h = .ok (.p (.list ((gone.filter fun o => decide (o < r)).map .int))) h :=
      comp_ok PyData.int PyData.int _ (by simp) (by omega) fun o ho => ⟨[some (.p A), some (.p (intsT gone)), some (.p (.int x)), some (.p (.int (M : Int))), some (.p (natD k)), some (.p (.int r)), v6, some (.p (.int o))], by simp, by simp, fun _ => by simp⟩
    have fl := List.length_filter_le (fun o => decide (o < r)) gone
    have ln : ((((gone.filter fun o => decide (o < r)).map PyData.int).length : Nat) : Int) = (((gone.filter fun o => decide (o < r)).length : Nat) : Int) := by rw [List.length_map]
    have mk : (M : Int) - (k : Int) = ((rs.length + 1 : Nat) : Int) := by omega
    have e9 := e93 lw (rs.length + 1) (by show (r - 2 - _ : Int).natAbs < 1000; omega) (by omega)
    have st : evalSs cf ls96_2 [some (.p A), some (.p (intsT gone)), some (.p (.int x)), some (.p (.int (M : Int))), some (.p (natD k)), some (.p (.int r)), v6, none] h = .ok .nx [some (.p A), some (.p (intsT gone)), some (.p (.int (x + waysI lw (rs.length + 1)))), some (.p (.int (M : Int))), some (.p (natD k)), some (.p (.int r)), some (.p (.int lw)), none] h := by
      unfold ls96_2 s96_2_0 s96_2_1
      simp only [ss_cons, ss_nil, st_set, ev_op2d, ev_op1, bor_comp, c1, ev_var, ev_lit, slot_0, slot_s, natD, ofO_some, R.bind_ok, unP_p, o_sub, o_lenL, ln, Option.map_some, R.toS_ok, setSlot_0, setSlot_s, RS.bind_nx, ev_call, ees_cons, ees_nil, mk]
      show (R.toS ((R.bind (R.bind (cf 93 [.p (.int lw), .p (.int ((rs.length + 1 : Nat) : Int))] h) unP) _)) _ _).bind _ = _
      rw [e9]
      simp only [R.bind_ok, unP_p, o_add, Option.map_some, ofO_some, R.toS_ok, setSlot_0, setSlot_s, RS.bind_nx, ss_nil]
      rfl
    simp only [st]
    rw [e]
    have fe : x + waysI lw (rs.length + 1) + pfM gone rs = x + pfM gone (r :: rs) := by
      show _ = x + (waysI lw (rs.length + 1) + pfM gone rs)
      omega
    rw [fe]
theorem pf_eval (F93 : fns 93 = some d93) (F96 : fns 96 = some d96) {rs gone : List Int} (hr : ∀ r ∈ rs, 2 ≤ r ∧ r ≤ 14) (hl : rs.length < 100) (hg : gone.length < 100) : callF fns (q + 2) 96 [.p (intsT rs), .p (intsT gone)] h = .ok (.p (.int (pfM gone rs))) h := by
  have e93 : ∀ (m : Int) (f : Nat), m.natAbs < 1000 → f < 1000 → callF fns (q + 1) 93 [.p (.int m), .p (.int (f : Int))] h = .ok (.p (.int (waysI m f))) h := fun m f a b => ways_eval F93 a b
  rw [call_eq F96 rfl]
  generalize callF fns (q + 1) = cf at e93
  obtain ⟨w4, w5, w6, e⟩ := loop96 (cf := cf) (h := h) (A := intsT rs) (gone := gone) (M := rs.length) hg e93 rs 0 0 none none none hr (by omega) hl
  rw [Int.zero_add] at e
  show finF h.length (evalSs cf b96 [some (.p (intsT rs)), some (.p (intsT gone)), none, none, none, none, none, none] h) = _
  rw [b96_eq]
  unfold ls96
  have t0 : evalS cf s96_0 [some (.p (intsT rs)), some (.p (intsT gone)), none, none, none, none, none, none] h = .ok .nx [some (.p (intsT rs)), some (.p (intsT gone)), some (.p (.int 0)), none, none, none, none, none] h := by simp [s96_0]
  have t1 : evalS cf s96_1 [some (.p (intsT rs)), some (.p (intsT gone)), some (.p (.int 0)), none, none, none, none, none] h = .ok .nx [some (.p (intsT rs)), some (.p (intsT gone)), some (.p (.int 0)), some (.p (.int (rs.length : Int))), none, none, none, none] h := by simp [s96_1]
  have t2 : evalS cf s96_2 [some (.p (intsT rs)), some (.p (intsT gone)), some (.p (.int 0)), some (.p (.int (rs.length : Int))), none, none, none, none] h = .ok .nx [some (.p (intsT rs)), some (.p (intsT gone)), some (.p (.int (pfM gone rs))), some (.p (.int (rs.length : Int))), w4, w5, w6, none] h := by
    unfold s96_2
    have sr : evalSrc cf [some (.p (intsT rs)), some (.p (intsT gone)), some (.p (.int 0)), some (.p (.int (rs.length : Int))), none, none, none, none] (.enum (.var 0)) h = .ok (enumFrom 0 (rs.map .int)) h := by simp
    rw [st_for, sr, R.toS_ok]
    exact e
  rw [ss_cons, t0, RS.bind_nx, ss_cons, t1, RS.bind_nx, ss_cons, t2, RS.bind_nx, ss_cons]
  simp only [s96_3, st_ret, ev_var, slot_0, slot_s, ofO_some, R.toS_ok, RS.bind_rt, fin_rp, List.take_length]
end
end Cd
set_option Elab.async false
set_option linter.all false
set_option maxRecDepth 100000
set_option maxHeartbeats 4000000
namespace Cd
open PySem L2
theorem findAt_le (k : Nat) (p : Int) : ∀ a, findAt k p a ≤ a
  | 0 => Nat.le_refl _
  | a + 1 => by
    unfold findAt
    split
    · exact Nat.le_succ_of_le (findAt_le k p a)
    · exact Nat.le_refl _
section
variable {fns : Nat → Option FnD} {h : Hi} {cf : Calls} {q : Nat}
def sharedL : List PyData := [.tuple [], .tuple [.int 1, .int 3], .tuple [.int 2, .int 1], .tuple [.int 1, .int 2], .tuple [], .tuple [], .tuple [.int 1, .int 1], .tuple [.int 1, .int 1], .tuple []]
theorem shared_at {k : Int} (h : k = 1 ∨ k = 2 ∨ k = 3 ∨ k = 6 ∨ k = 7) : atI sharedL k = some (.tuple [.int (frM k : Int), .int (moM k : Int)]) := by
  rcases h with rfl | rfl | rfl | rfl | rfl <;> rfl
theorem Frm.kinds {r : Rank} (f : Frm r) (h1 : ¬ (r.1 = 4 ∨ r.1 = 8)) (h2 : ¬ (r.1 = 0 ∨ r.1 = 5)) : (r.1 = 1 ∨ r.1 = 2 ∨ r.1 = 3 ∨ r.1 = 6 ∨ r.1 = 7) ∧ r.2.length = frM r.1 + moM r.1 := by
  have lo := f.lo
  have hi := f.hi
  refine ⟨by omega, ?_⟩
  rw [f.len]
  unfold lenM
  rw [if_neg h2, if_neg h1]
theorem in48 (k : Int) : opf2 .isIn (.int k) (.tuple [.int 4, .int 8]) = some (.bool (decide (k = 4 ∨ k = 8))) := by
  have := o_inI k [4, 8]
  rw [show (.tuple [.int 4, .int 8] : PyData) = .tuple (([4, 8] : List Int).map .int) from rfl, this]
  congr 2
  exact decide_eq_decide.mpr (by simp)
theorem in05 (k : Int) : opf2 .isIn (.int k) (.tuple [.int 0, .int 5]) = some (.bool (decide (k = 0 ∨ k = 5))) := by
  have := o_inI k [0, 5]
  rw [show (.tuple [.int 0, .int 5] : PyData) = .tuple (([0, 5] : List Int).map .int) from rfl, this]
  congr 2
  exact decide_eq_decide.mpr (by simp)
theorem rows10_eq : rows10.map intsT = ((List.range 9).map fun i : Nat => PyData.tuple ((List.range 5).map fun k : Nat => .int ((6 + (i : Int)) - (k : Int)))) ++ [.tuple [.int 14, .int 5, .int 4, .int 3, .int 2]] := by rfl
abbrev envPk (r : Rank) (v1 v2 v3 v4 v5 v6 : Option Val) : Ev := [some (.p (rankD r)), v1, v2, v3, v4, v5, v6, none, none, none]
theorem pk_eval (F93 : fns 93 = some d93) (F96 : fns 96 = some d96) (F97 : fns 97 = some d97) {r : Rank} (f : Frm r) : callF fns (q + 3) 97 [.p (rankD r)] h = .ok (.p (.int (pkM r))) h := by
  have e96 : ∀ rs gone : List Int, (∀ r ∈ rs, 2 ≤ r ∧ r ≤ 14) → rs.length < 100 → gone.length < 100 → callF fns (q + 2) 96 [.p (intsT rs), .p (intsT gone)] h = .ok (.p (.int (pfM gone rs))) h := fun rs gone a b c => pf_eval F93 F96 a b c
  have e93 : ∀ (m : Int) (f : Nat), m.natAbs < 1000 → f < 1000 → callF fns (q + 2) 93 [.p (.int m), .p (.int (f : Int))] h = .ok (.p (.int (waysI m f))) h := fun m f a b => ways_eval (q := q + 1) F93 a b
  rw [call_eq F97 rfl]
  generalize callF fns (q + 2) = cf at e96 e93
  let Kd : Option Val := some (.p (.int r.1))
  let Rs : Option Val := some (.p (intsT r.2))
  show finF h.length (evalSs cf b97 (envPk r none none none none none none) h) = _
  rw [b97_eq]
  unfold ls97
  have t0 : evalS cf s97_0 (envPk r none none none none none none) h = .ok .nx (envPk r Kd Rs none none none none) h := by
    unfold s97_0
    simp [rankD, Kd, Rs]
  rw [ss_cons, t0, RS.bind_nx, ss_cons]
  by_cases c48 : r.1 = 4 ∨ r.1 = 8
  · have l1 : r.2.length = 1 := by
      rw [f.len]
      unfold lenM
      rw [if_neg (by omega), if_pos c48]
    obtain ⟨x, hx⟩ := List.length_eq_one_iff.mp l1
    have i4 := in48 r.1
    rw [decide_eq_true c48] at i4
    unfold pkM
    rw [if_pos c48]
    simp only [s97_1, st_if, et_val, bor_op2, ev_op2, ev_var, Kd, Rs, slot_0, slot_s, ofO_some, R.bind_ok, unP_p, bor_tup, ev_tup, eps_cons, eps_nil, ev_lit, i4, Option.map_some, truth_b, R.toS_ok, if_true, ss_cons, st_ret, ev_op2d, ev_op2b, bor_var, borV_p, hx, List.map_cons, List.map_nil, o_ixT, atI_c0, o_sub, RS.bind_rt, fin_rp, List.take_length, List.headD_cons]
  · have i4 := in48 r.1
    rw [decide_eq_false c48] at i4
    have t1 : evalS cf s97_1 (envPk r Kd Rs none none none none) h = .ok .nx (envPk r Kd Rs none none none none) h := by
      simp only [s97_1, st_if, et_val, bor_op2, ev_op2, ev_var, Kd, Rs, slot_0, slot_s, ofO_some, R.bind_ok, unP_p, bor_tup, ev_tup, eps_cons, eps_nil, ev_lit, i4, Option.map_some, truth_b, R.toS_ok, Bool.false_eq_true, if_false, ss_nil]
    rw [t1, RS.bind_nx, ss_cons]
    have i0 := in05 r.1
    unfold pkM
    rw [if_neg c48]
    by_cases c05 : r.1 = 0 ∨ r.1 = 5
    · rw [if_pos c05]
      rw [decide_eq_true c05] at i0
      have l5 : r.2.length = 5 := by
        rw [f.len]
        unfold lenM
        rw [if_pos c05]
      have e6 := e96 r.2 [] f.rng (by omega) (by decide)
      let W6 : Option Val := some (.p (.list (rows10.map intsT)))
      have c6 : evalE cf (envPk r Kd Rs none none none none) (.comp [7] (.name 7) (.rng2 (.lit (.int 6)) (.lit (.int 15))) [] (.op1 .tuple (.comp [9] (.name 9) (.rng1 (.lit (.int 5))) [] (.op2d .sub (.var 7) (.var 9))))) h = .ok (.p (.list ((List.range 9).map fun i : Nat => PyData.tuple ((List.range 5).map fun k : Nat => .int ((6 + (i : Int)) - (k : Int)))))) h := by
        have sr : evalSrc cf (envPk r Kd Rs none none none none) (.rng2 (.lit (.int 6)) (.lit (.int 15))) h = .ok ((List.range 9).map fun i : Nat => .int (6 + (i : Int))) h := by
          rw [src_rng2 (i := 6) (j := 15) (by simp) (by simp) (by decide) (by decide)]
          rfl
        refine comp_all (fun i : Nat => PyData.int (6 + (i : Int))) _ sr (by decide) fun i hi => ⟨[some (.p (rankD r)), Kd, Rs, none, none, none, none, some (.p (.int (6 + (i : Int)))), none, none], by simp, ?_⟩
        have c9 : evalE cf [some (.p (rankD r)), Kd, Rs, none, none, none, none, some (.p (.int (6 + (i : Int)))), none, none] (.comp [9] (.name 9) (.rng1 (.lit (.int 5))) [] (.op2d .sub (.var 7) (.var 9))) h = .ok (.p (.list ((List.range 5).map fun k : Nat => .int ((6 + (i : Int)) - (k : Int))))) h :=
          comp_all natD _ (src_nat (j := 5) (by simp) (by decide)) (by decide) fun k hk => ⟨[some (.p (rankD r)), Kd, Rs, none, none, none, none, some (.p (.int (6 + (i : Int)))), none, some (.p (natD k))], by simp, by simp⟩
        simp only [ev_op1, bor_comp, c9, R.bind_ok, unP_p, o_tupL, Option.map_some, ofO_some]
      have c8 : evalE cf (envPk r Kd Rs none none none W6) (.comp [8] (.name 8) (.e (.var 6)) [(.val (.op2 .lt (.var 8) (.var 2)))] (.var 8)) h = .ok (.p (.list ((rows10.filter fun row => ltI row r.2).map intsT))) h := by
        refine comp_ok intsT intsT _ (by simp [W6]) (by decide) fun row hr => ⟨[some (.p (rankD r)), Kd, Rs, none, none, none, W6, none, some (.p (intsT row)), none], by simp, ?_, fun _ => by simp⟩
        simp only [ets_one, et_val, bor_op2, ev_op2, bor_var, ev_var, Rs, slot_0, slot_s, borV_p, ofO_some, R.bind_ok, unP_p, o_ltT2, Option.map_some, truth_b]
      have ad : opf2 .add (.list ((List.range 9).map fun i : Nat => PyData.tuple ((List.range 5).map fun k : Nat => .int ((6 + (i : Int)) - (k : Int))))) (.list [.tuple [.int 14, .int 5, .int 4, .int 3, .int 2]]) = some (.list (rows10.map intsT)) := by
        rw [o_addL, if_pos (sz_ok (by decide)), rows10_eq]
      have u0 : evalS cf s97_2_0 (envPk r Kd Rs none none none none) h = .ok .nx (envPk r Kd Rs none none none W6) h := by
        unfold s97_2_0
        simp only [st_set, ev_op2d, c6, R.bind_ok, unP_p, ev_lst, eps_cons, eps_nil, ev_tup, ev_lit, ad, Option.map_some, ofO_some, R.toS_ok, setSlot_0, setSlot_s, W6]
      have e6' : cf 96 [.p (intsT r.2), .p (.tuple [])] h = .ok (.p (.int (pfM [] r.2))) h := e6
      have ln : ((((rows10.filter fun row => ltI row r.2).map intsT).length : Nat) : Int) = (((rows10.filter fun row => ltI row r.2).length : Nat) : Int) := by rw [List.length_map]
      have tt : evalT cf (envPk r Kd Rs none none none none) (.val (.op2 .isIn (.var 1) (.tup [(.lit (.int 0)), (.lit (.int 5))]))) h = .ok true h := by
        simp only [et_val, bor_op2, ev_op2, ev_var, Kd, slot_0, slot_s, ofO_some, R.bind_ok, unP_p, bor_tup, ev_tup, eps_cons, eps_nil, ev_lit, i0, Option.map_some, truth_b]
      have u : evalSs cf ls97_2 (envPk r Kd Rs none none none none) h = .ok (.rt (.p (.int (pfM [] r.2 - (((rows10.filter fun row => ltI row r.2).length : Nat) : Int))))) (envPk r Kd Rs none none none W6) h := by
        unfold ls97_2
        rw [ss_cons, u0, RS.bind_nx, ss_cons]
        simp only [s97_2_1, st_ret, ev_op2d, ev_call, ees_cons, ees_nil, ev_var, Rs, slot_0, slot_s, ofO_some, R.bind_ok, ev_tup, eps_nil, e6', unP_p, ev_op1, bor_comp]
        simp only [Rs] at c8
        simp only [c8, R.bind_ok, unP_p, o_lenL, ln, Option.map_some, ofO_some, o_sub, R.toS_ok, RS.bind_rt]
      unfold s97_2
      rw [st_if, tt, R.toS_ok, if_pos rfl, u, RS.bind_rt, fin_rp, List.take_length]
    · rw [if_neg c05]
      rw [decide_eq_false c05] at i0
      obtain ⟨kk, ll⟩ := f.kinds c48 c05
      have t2 : evalS cf s97_2 (envPk r Kd Rs none none none none) h = .ok .nx (envPk r Kd Rs none none none none) h := by
        simp only [s97_2, st_if, et_val, bor_op2, ev_op2, ev_var, Kd, Rs, slot_0, slot_s, ofO_some, R.bind_ok, unP_p, bor_tup, ev_tup, eps_cons, eps_nil, ev_lit, i0, Option.map_some, truth_b, R.toS_ok, Bool.false_eq_true, if_false, ss_nil]
      have sh := shared_at kk
      have fr2 : frM r.1 ≤ 2 := by unfold frM; split <;> omega
      have mo3 : moM r.1 ≤ 3 := by unfold moM; split <;> (try split) <;> omega
      let Fi : Option Val := some (.p (.int (frM r.1 : Int)))
      let Mo : Option Val := some (.p (.int (moM r.1 : Int)))
      have t3 : evalS cf s97_3 (envPk r Kd Rs none none none none) h = .ok .nx (envPk r Kd Rs Fi Mo none none) h := by
        unfold s97_3
        simp only [sharedL] at sh
        simp only [st_unpack, ev_op2b, bor_lit, ev_lit, R.bind_ok, unP_p, ev_var, Kd, slot_0, slot_s, ofO_some, o_ixT, sh, Option.map_some, R.toS_ok, bt_tup, bts_cons, bts_nil, bt_name, Option.bind_some, setSlot_0, setSlot_s, Fi, Mo]
      have sa : opf3 (.slice true false) (intsT r.2) (.int (frM r.1 : Int)) .none = some (intsT (r.2.drop (frM r.1))) := by
        rw [slice_T (lo := some (frM r.1 : Int)) (hi := none) rfl rfl, cut_from]
      have sb : opf3 (.slice false true) (intsT r.2) .none (.int (frM r.1 : Int)) = some (intsT (r.2.take (frM r.1))) := by
        rw [slice_T (lo := none) (hi := some (frM r.1 : Int)) rfl rfl, cut_lo]
      have e6a := e96 (r.2.drop (frM r.1)) (r.2.take (frM r.1)) (fun x hx => f.rng x (List.mem_of_mem_drop hx)) (by rw [List.length_drop]; omega) (by rw [List.length_take]; omega)
      have e6b := e96 (r.2.take (frM r.1)) [] (fun x hx => f.rng x (List.mem_of_mem_take hx)) (by rw [List.length_take]; omega) (by decide)
      have e6b' : cf 96 [.p (intsT (r.2.take (frM r.1))), .p (.tuple [])] h = .ok (.p (.int (pfM [] (r.2.take (frM r.1))))) h := e6b
      have e9 := e93 (13 - (frM r.1 : Int)) (moM r.1) (by omega) (by omega)
      have t4 : evalS cf s97_4 (envPk r Kd Rs Fi Mo none none) h = .ok .nx (envPk r Kd Rs Fi Mo (some (.p (.int (pfM (r.2.take (frM r.1)) (r.2.drop (frM r.1)))))) none) h := by
        unfold s97_4
        simp only [st_set, ev_call, ees_cons, ees_nil, ev_op3b, bor_var, ev_var, ev_lit, Rs, Fi, slot_0, slot_s, borV_p, ofO_some, R.bind_ok, unP_p, sa, sb, Option.map_some, e6a, R.toS_ok, setSlot_0, setSlot_s]
      have wsm : (waysI (13 - (frM r.1 : Int)) (moM r.1)).natAbs < 18446744073709551616 := by
        rcases kk with e | e | e | e | e <;> rw [e] <;> decide
      have ml : ∀ x : Int, opf2 .mul (.int x) (.int (waysI (13 - (frM r.1 : Int)) (moM r.1))) = some (.int (x * waysI (13 - (frM r.1 : Int)) (moM r.1))) := fun x => o_mul (.inr (s64_c wsm))
      rw [t2, RS.bind_nx, ss_cons, t3, RS.bind_nx, ss_cons, t4, RS.bind_nx, ss_cons]
      simp only [s97_5, st_ret, ev_op2d, ev_call, ees_cons, ees_nil, ev_op3b, bor_var, ev_var, ev_lit, Rs, Fi, Mo, slot_0, slot_s, borV_p, ofO_some, R.bind_ok, unP_p, sb, Option.map_some, ev_tup, eps_nil, e6b', o_sub, e9, ml, o_add, R.toS_ok, RS.bind_rt, fin_rp, List.take_length]
end
end Cd
set_option Elab.async false
set_option linter.all false
set_option maxRecDepth 100000
set_option maxHeartbeats 4000000
namespace Cd
open PySem L2
def plM (r : Rank) : Int := ((sizesL.take r.1.toNat).sum : Int) + pkM r
def F5 (i : Nat) : List Int := faL 5 (i : Int) every
def rowsR : List Nat := [0, 5, 20, 55, 125, 251, 461, 791, 1286, 792]
def cntR (i : Nat) : Nat := (rowsR.filter fun r => decide (r < i)).length
def scB (p i : Nat) : Bool := decide (i - cntR i < p) || decide (i ∈ rowsR)
def upD (p : Nat) : Nat := ((List.range 12).find? fun d => !scB p (p + d)).getD 0
def upM (p : Nat) : Nat := p + upD p
def aheadM (k : Int) (p : Nat) : List Int := faL (frM k) ((p : Int).fdiv (waysI (13 - (frM k : Int)) (moM k))) every
def backM (k : Int) (p : Nat) : Int := (p : Int) - (p : Int).fdiv (waysI (13 - (frM k : Int)) (moM k)) * waysI (13 - (frM k : Int)) (moM k)
def rkM (k : Int) (p : Nat) : Rank :=
  if k = 4 ∨ k = 8 then (k, [(p : Int) + 5])
  else if k = 0 ∨ k = 5 then (k, F5 (upM p))
  else (k, aheadM k p ++ faL (moM k) (backM k p) (leftM (aheadM k p)))
theorem faL_mem : ∀ (k : Nat) (p : Int) (left : List Int), faOk k p left = true → ∀ x ∈ faL k p left, x ∈ left
  | 0, _, _, _, x, h => by cases h
  | k + 1, p, left, ok, x, h => by
    unfold faOk at ok
    rw [Bool.and_eq_true, Bool.and_eq_true, decide_eq_true_iff, decide_eq_true_iff] at ok
    obtain ⟨o1, o2, o3⟩ := ok
    rcases List.mem_cons.mp (show x ∈ left.getD (findAt (k + 1) p (left.length - 1)) 0 :: faL k (p - waysI ((findAt (k + 1) p (left.length - 1) : Nat) : Int) (k + 1)) (left.take (findAt (k + 1) p (left.length - 1))) from h) with e | e
    · have al : findAt (k + 1) p (left.length - 1) < left.length := by have := findAt_le (k + 1) p (left.length - 1); omega
      rw [e, List.getD_eq_getElem?_getD, List.getElem?_eq_getElem al, Option.getD_some]
      exact List.getElem_mem al
    · exact List.mem_of_mem_take (faL_mem k _ _ o3 x e)
theorem every_in {x : Int} (h : x ∈ every) : 2 ≤ x ∧ x ≤ 14 := by
  simp only [every, List.mem_cons, List.not_mem_nil, or_false] at h
  omega
theorem left_rng {g : List Int} {x : Int} (h : x ∈ leftM g) : 2 ≤ x ∧ x ≤ 14 := every_in (List.mem_filter.mp h).1
/-- what rank_in_kind asks for at a place -/
def okKP (k : Int) (p : Nat) : Prop := (k = 4 ∨ k = 8) ∨ ((k = 0 ∨ k = 5) ∧ (∀ i : Nat, i < 1287 → faOk 5 (i : Int) every = true) ∧ upM p < 1287 ∧ (∀ j < upD p, (decide (pkM (k, F5 (p + j)) < (p : Int)) || decide (0 < topM (F5 (p + j)))) = true) ∧ (decide (pkM (k, F5 (upM p)) < (p : Int)) || decide (0 < topM (F5 (upM p)))) = false) ∨
  ((k = 1 ∨ k = 2 ∨ k = 3 ∨ k = 6 ∨ k = 7) ∧ faOk (frM k) ((p : Int).fdiv (waysI (13 - (frM k : Int)) (moM k))) every = true ∧ faOk (moM k) (backM k p) (leftM (aheadM k p)) = true)
section
variable {fns : Nat → Option FnD} {h : Hi} {cf : Calls} {q : Nat}
abbrev envV (r : Rank) (v1 v2 v3 v4 : Option Val) : Ev := [some (.p (rankD r)), v1, v2, v3, v4, none]
theorem vld_eval (F48 : fns 48 = some d48) (F94 : fns 94 = some d94) (F95 : fns 95 = some d95) {r : Rank} (f : Frm r) : callF fns (q + 2) 95 [.p (rankD r)] h = .ok (.p (.bool (vldB r))) h := by
  have e94 : ∀ (rs : List Int) (m : Nat), rs.length < 900 → callF fns (q + 1) 94 [.p (intsT rs), .p (.int (m : Int))] h = .ok (.p (.bool (fallB rs m))) h := fun rs m z => falling_eval F94 z
  have e48 : ∀ rs : List Int, rs.length = 5 → callF fns (q + 1) 48 [.p (intsT rs)] h = .ok (.p (.int (topM rs))) h := fun rs z => top_eval F48 z
  rw [call_eq F95 rfl]
  generalize callF fns (q + 1) = cf at e94 e48
  let Kd : Option Val := some (.p (.int r.1))
  let Rs : Option Val := some (.p (intsT r.2))
  have lo := f.lo
  have hi := f.hi
  show finF h.length (evalSs cf b95 (envV r none none none none) h) = _
  rw [b95_eq]
  unfold ls95
  have t0 : evalS cf s95_0 (envV r none none none none) h = .ok .nx (envV r none none none none) h := by
    have a1 : atI [PyData.int r.1, PyData.tuple (r.2.map .int)] 1 = some (.tuple (r.2.map .int)) := rfl
    simp [s95_0, rankD, isTy, a1]
  have t1 : evalS cf s95_1 (envV r none none none none) h = .ok .nx (envV r Kd Rs none none) h := by simp [s95_1, rankD, Kd, Rs]
  have t2 : evalS cf s95_2 (envV r Kd Rs none none) h = .ok .nx (envV r Kd Rs none none) h := by simp [s95_2, Kd, isTy, andK, lo, hi]
  rw [ss_cons, t0, RS.bind_nx, ss_cons, t1, RS.bind_nx, ss_cons, t2, RS.bind_nx, ss_cons]
  unfold vldB
  by_cases c48 : r.1 = 4 ∨ r.1 = 8
  · rw [if_pos c48]
    have l1 : r.2.length = 1 := by
      rw [f.len]
      unfold lenM
      rw [if_neg (by omega), if_pos c48]
    obtain ⟨x, hx⟩ := List.length_eq_one_iff.mp l1
    have i4 := in48 r.1
    rw [decide_eq_true c48] at i4
    have e9 := e94 r.2 1 (by omega)
    have tp := o_inI x [5, 6, 7, 8, 9, 10, 11, 12, 13, 14]
    have tp' : opf2 .isIn (.int x) (.tuple [.int 5, .int 6, .int 7, .int 8, .int 9, .int 10, .int 11, .int 12, .int 13, .int 14]) = some (.bool (decide (x ∈ ([5, 6, 7, 8, 9, 10, 11, 12, 13, 14] : List Int)))) := tp
    have e9' : cf 94 [.p (intsT r.2), .p (.int 1)] h = .ok (.p (.bool (fallB r.2 1))) h := e9
    have u : evalS cf s95_3 (envV r Kd Rs none none) h = .ok (.rt (.p (.bool (fallB r.2 1 && decide (r.2.headD 0 ∈ ([5, 6, 7, 8, 9, 10, 11, 12, 13, 14] : List Int)))))) (envV r Kd Rs none none) h := by
      simp only [s95_3, st_if, et_val, bor_op2, ev_op2, ev_var, Kd, Rs, slot_0, slot_s, ofO_some, R.bind_ok, unP_p, bor_tup, ev_tup, eps_cons, eps_nil, ev_lit, i4, Option.map_some, truth_b, R.toS_ok, if_true, ss_cons, st_ret, ev_and, ev_call, ees_cons, ees_nil, e9']
      cases fallB r.2 1 with
      | false => simp only [andK, R.toS_ok, RS.bind_rt, Bool.false_and]
      | true => simp only [andK, bor_op2b, ev_op2b, ev_op2, bor_var, ev_var, slot_0, slot_s, borV_p, ofO_some, R.bind_ok, unP_p, bor_lit, ev_lit, hx, List.map_cons, List.map_nil, o_ixT, atI_c0, tp', Option.map_some, R.toS_ok, RS.bind_rt, Bool.true_and, List.headD_cons]
    rw [u, RS.bind_rt, fin_rp, List.take_length]
  · rw [if_neg c48]
    have i4 := in48 r.1
    rw [decide_eq_false c48] at i4
    have t3 : evalS cf s95_3 (envV r Kd Rs none none) h = .ok .nx (envV r Kd Rs none none) h := by
      simp only [s95_3, st_if, et_val, bor_op2, ev_op2, ev_var, Kd, Rs, slot_0, slot_s, ofO_some, R.bind_ok, unP_p, bor_tup, ev_tup, eps_cons, eps_nil, ev_lit, i4, Option.map_some, truth_b, R.toS_ok, Bool.false_eq_true, if_false, ss_nil]
    rw [t3, RS.bind_nx, ss_cons]
    have i0 := in05 r.1
    by_cases c05 : r.1 = 0 ∨ r.1 = 5
    · rw [if_pos c05]
      rw [decide_eq_true c05] at i0
      have l5 : r.2.length = 5 := by
        rw [f.len]
        unfold lenM
        rw [if_pos c05]
      have e9 : cf 94 [.p (intsT r.2), .p (.int 5)] h = .ok (.p (.bool (fallB r.2 5))) h := e94 r.2 5 (by omega)
      have e4 := e48 r.2 l5
      have u : evalS cf s95_4 (envV r Kd Rs none none) h = .ok (.rt (.p (.bool (fallB r.2 5 && decide (topM r.2 = 0))))) (envV r Kd Rs none none) h := by
        simp only [s95_4, st_if, et_val, bor_op2, ev_op2, ev_var, Kd, Rs, slot_0, slot_s, ofO_some, R.bind_ok, unP_p, bor_tup, ev_tup, eps_cons, eps_nil, ev_lit, i0, Option.map_some, truth_b, R.toS_ok, if_true, ss_cons, st_ret, ev_and, ev_call, ees_cons, ees_nil, e9]
        cases fallB r.2 5 with
        | false => simp only [andK, R.toS_ok, RS.bind_rt, Bool.false_and]
        | true => simp only [andK, ev_op2, bor_call, ev_call, ees_cons, ees_nil, ev_var, slot_0, slot_s, ofO_some, R.bind_ok, e4, unP_p, bor_lit, ev_lit, o_eqI, Option.map_some, R.toS_ok, RS.bind_rt, Bool.true_and]
      rw [u, RS.bind_rt, fin_rp, List.take_length]
    · rw [if_neg c05]
      rw [decide_eq_false c05] at i0
      obtain ⟨kk, ll⟩ := f.kinds c48 c05
      have t4 : evalS cf s95_4 (envV r Kd Rs none none) h = .ok .nx (envV r Kd Rs none none) h := by
        simp only [s95_4, st_if, et_val, bor_op2, ev_op2, ev_var, Kd, Rs, slot_0, slot_s, ofO_some, R.bind_ok, unP_p, bor_tup, ev_tup, eps_cons, eps_nil, ev_lit, i0, Option.map_some, truth_b, R.toS_ok, Bool.false_eq_true, if_false, ss_nil]
      have sh := shared_at kk
      have fr2 : frM r.1 ≤ 2 := by unfold frM; split <;> omega
      have mo3 : moM r.1 ≤ 3 := by unfold moM; split <;> (try split) <;> omega
      let Fi : Option Val := some (.p (.int (frM r.1 : Int)))
      let Mo : Option Val := some (.p (.int (moM r.1 : Int)))
      have t5 : evalS cf s95_5 (envV r Kd Rs none none) h = .ok .nx (envV r Kd Rs Fi Mo) h := by
        unfold s95_5
        simp only [sharedL] at sh
        simp only [st_unpack, ev_op2b, bor_lit, ev_lit, R.bind_ok, unP_p, ev_var, Kd, slot_0, slot_s, ofO_some, o_ixT, sh, Option.map_some, R.toS_ok, bt_tup, bts_cons, bts_nil, bt_name, Option.bind_some, setSlot_0, setSlot_s, Fi, Mo]
      have sa : opf3 (.slice true false) (intsT r.2) (.int (frM r.1 : Int)) .none = some (intsT (r.2.drop (frM r.1))) := by
        rw [slice_T (lo := some (frM r.1 : Int)) (hi := none) rfl rfl, cut_from]
      have sb : opf3 (.slice false true) (intsT r.2) .none (.int (frM r.1 : Int)) = some (intsT (r.2.take (frM r.1))) := by
        rw [slice_T (lo := none) (hi := some (frM r.1 : Int)) rfl rfl, cut_lo]
      have e9a := e94 (r.2.take (frM r.1)) (frM r.1) (by rw [List.length_take]; omega)
      have e9b := e94 (r.2.drop (frM r.1)) (moM r.1) (by rw [List.length_drop]; omega)
      rw [t4, RS.bind_nx, ss_cons, t5, RS.bind_nx, ss_cons]
      have tt : evalT cf (envV r Kd Rs Fi Mo) (.or_ (.not_ (.val (.call 94 [(.op3b (.slice false true) (.var 2) (.lit .none) (.var 3)), (.var 3)]))) (.not_ (.val (.call 94 [(.op3b (.slice true false) (.var 2) (.var 3) (.lit .none)), (.var 4)])))) h = .ok (!(fallB (r.2.take (frM r.1)) (frM r.1) && fallB (r.2.drop (frM r.1)) (moM r.1))) h := by
        simp only [et_or, et_not, et_val, bor_call, ev_call, ees_cons, ees_nil, ev_op3b, bor_var, ev_var, ev_lit, Rs, Fi, Mo, slot_0, slot_s, borV_p, ofO_some, R.bind_ok, unP_p, sa, sb, Option.map_some, e9a, truth_b]
        cases fallB (r.2.take (frM r.1)) (frM r.1) with
        | false => rfl
        | true =>
          simp only [Bool.not_true, ifK, Bool.false_eq_true, if_false, e9b, R.bind_ok, unP_p, truth_b, ofO_some, Bool.true_and]
      have st : evalS cf s95_6 (envV r Kd Rs Fi Mo) h = if (fallB (r.2.take (frM r.1)) (frM r.1) && fallB (r.2.drop (frM r.1)) (moM r.1)) = true then .ok .nx (envV r Kd Rs Fi Mo) h else .ok (.rt (.p (.bool false))) (envV r Kd Rs Fi Mo) h := by
        unfold s95_6
        rw [st_if, tt, R.toS_ok]
        cases (fallB (r.2.take (frM r.1)) (frM r.1) && fallB (r.2.drop (frM r.1)) (moM r.1)) with
        | true => simp
        | false => simp
      rw [st]
      by_cases c : (fallB (r.2.take (frM r.1)) (frM r.1) && fallB (r.2.drop (frM r.1)) (moM r.1)) = true
      · rw [if_pos c, RS.bind_nx, ss_cons]
        rw [Bool.and_eq_true] at c
        rw [c.1, c.2, Bool.true_and, Bool.true_and]
        have c5 : evalE cf (envV r Kd Rs Fi Mo) (.comp [5] (.name 5) (.e (.op3b (.slice true false) (.var 2) (.var 3) (.lit .none))) [] (.op2 .isIn (.var 5) (.op3b (.slice false true) (.var 2) (.lit .none) (.var 3)))) h = .ok (.p (.list (((r.2.drop (frM r.1)).map fun x => decide (x ∈ r.2.take (frM r.1))).map .bool))) h := by
          rw [List.map_map]
          refine comp_all PyData.int _ (by simp only [es_e, ev_op3b, bor_var, ev_var, ev_lit, Rs, Fi, slot_0, slot_s, borV_p, ofO_some, R.bind_ok, unP_p, sa, Option.map_some, items_T]) (by rw [List.length_drop]; omega) fun x hx => ⟨[some (.p (rankD r)), Kd, Rs, Fi, Mo, some (.p (.int x))], by simp, ?_⟩
          simp only [ev_op2, ev_op3b, bor_var, bor_op3b, ev_var, ev_lit, Rs, Fi, slot_0, slot_s, borV_p, ofO_some, R.bind_ok, unP_p, sb, o_inI, Option.map_some, Function.comp]
        simp only [s95_7, st_ret, ev_not, ev_op1, bor_comp, c5, R.bind_ok, unP_p, o_anyL, Option.map_some, ofO_some, notK, R.toS_ok, RS.bind_rt, fin_rp, List.take_length, List.any_map]
        rfl
      · rw [if_neg c]
        rw [← Bool.and_assoc, Bool.eq_false_iff.mpr c, Bool.false_and]
        rw [RS.bind_rt, fin_rp, List.take_length]
theorem pl_eval (F48 : fns 48 = some d48) (F93 : fns 93 = some d93) (F94 : fns 94 = some d94) (F95 : fns 95 = some d95) (F96 : fns 96 = some d96) (F97 : fns 97 = some d97) (F98 : fns 98 = some d98) {r : Rank} (f : Frm r) (hv : vldB r = true) : callF fns (q + 4) 98 [.p (rankD r)] h = .ok (.p (.int (plM r))) h := by
  have e95 : callF fns (q + 3) 95 [.p (rankD r)] h = .ok (.p (.bool (vldB r))) h := vld_eval (q := q + 1) F48 F94 F95 f
  have e97 : callF fns (q + 3) 97 [.p (rankD r)] h = .ok (.p (.int (pkM r))) h := pk_eval F93 F96 F97 f
  rw [hv] at e95
  rw [call_eq F98 rfl]
  generalize callF fns (q + 3) = cf at e95 e97
  show finF h.length (evalSs cf b98 [some (.p (rankD r))] h) = _
  rw [b98_eq]
  unfold ls98
  have lo := f.lo
  have t0 : evalS cf s98_0 [some (.p (rankD r))] h = .ok .nx [some (.p (rankD r))] h := by
    simp only [s98_0, st_if, et_not, et_val, bor_call, ev_call, ees_cons, ees_nil, ev_var, slot_0, ofO_some, R.bind_ok, e95, unP_p, truth_b, Bool.not_true, R.toS_ok, Bool.false_eq_true, if_false, ss_nil]
  have sl : opf3 (.slice false true) (.tuple [(.int 1277), (.int 2860), (.int 858), (.int 858), (.int 10), (.int 1277), (.int 156), (.int 156), (.int 10)]) .none (.int r.1) = some (.tuple ((sizesL.take r.1.toNat).map .int)) := by
    have : (.tuple [(.int 1277), (.int 2860), (.int 858), (.int 858), (.int 10), (.int 1277), (.int 156), (.int 156), (.int 10)] : PyData) = intsT sizesL := rfl
    rw [this, show r.1 = ((r.1.toNat : Nat) : Int) by omega, slice_T (lo := none) (hi := some ((r.1.toNat : Nat) : Int)) rfl rfl, cut_lo]
    rfl
  have ix : opf2 .ix (rankD r) (.int 0) = some (.int r.1) := rfl
  rw [ss_cons, t0, RS.bind_nx, ss_cons]
  simp only [s98_1, st_ret, ev_op2d, ev_op1, bor_op3b, ev_op3b, bor_lit, ev_lit, ev_call, ees_cons, ees_nil, ev_var, slot_0, ofO_some, R.bind_ok, unP_p, ix, sl, o_sumT, Option.map_some, e97, o_add, R.toS_ok, RS.bind_rt, fin_rp, List.take_length]
  rfl
end
end Cd
set_option Elab.async false
set_option linter.all false
set_option maxRecDepth 100000
set_option maxHeartbeats 4000000
namespace Cd
open PySem L2
section
variable {fns : Nat → Option FnD} {h : Hi} {cf : Calls} {q : Nat}
end
end Cd
set_option Elab.async false
set_option linter.all false
set_option maxRecDepth 100000
set_option maxHeartbeats 4000000
namespace Cd
open PySem L2
def cTab : List (List Nat) := [[1, 0, 0, 0, 0, 0], [1, 1, 0, 0, 0, 0], [1, 2, 1, 0, 0, 0], [1, 3, 3, 1, 0, 0], [1, 4, 6, 4, 1, 0], [1, 5, 10, 10, 5, 1], [1, 6, 15, 20, 15, 6], [1, 7, 21, 35, 35, 21], [1, 8, 28, 56, 70, 56], [1, 9, 36, 84, 126, 126], [1, 10, 45, 120, 210, 252], [1, 11, 55, 165, 330, 462], [1, 12, 66, 220, 495, 792], [1, 13, 78, 286, 715, 1287]]
def cT (m k : Nat) : Nat := (cTab.getD m []).getD k 0
theorem cT_eq : ∀ m : Nat, m < 14 → ∀ k : Nat, k < 6 → waysI (m : Int) k = (cT m k : Int) := by decide +kernel
theorem cT_0 : ∀ k : Nat, k < 5 → cT 0 (k + 1) = 0 := by decide
def findN (k p : Nat) : Nat → Nat
  | 0 => 0
  | a + 1 => bif Nat.blt p (cT (a + 1) k) then findN k p a else a + 1
def idxN : Nat → Nat → Nat → List Nat
  | 0, _, _ => []
  | k + 1, p, n => findN (k + 1) p (n - 1) :: idxN k (p - cT (findN (k + 1) p (n - 1)) (k + 1)) (findN (k + 1) p (n - 1))
def okN : Nat → Nat → Nat → Bool
  | 0, _, _ => true
  | k + 1, p, n => Nat.blt 0 n && okN k (p - cT (findN (k + 1) p (n - 1)) (k + 1)) (findN (k + 1) p (n - 1))
def sumN : List Nat → Nat
  | [] => 0
  | a :: as => cT a (as.length + 1) + sumN as
def vals (left : List Int) (bs : List Nat) : List Int := bs.map fun b => left.getD b 0
theorem find_eq {k p : Nat} (hk : k < 6) : ∀ a, a < 14 → findAt k (p : Int) a = findN k p a
  | 0, _ => rfl
  | a + 1, ha => by
    have ih := find_eq (p := p) hk a (by omega)
    show (if (p : Int) < waysI ((a + 1 : Nat) : Int) k then findAt k p a else a + 1) = (bif Nat.blt p (cT (a + 1) k) then findN k p a else a + 1)
    rw [cT_eq (a + 1) ha k hk, ih]
    by_cases c : p < cT (a + 1) k
    · rw [if_pos (by omega), show Nat.blt p (cT (a + 1) k) = true from Nat.ble_eq.mpr c]; rfl
    · rw [if_neg (by omega), show Nat.blt p (cT (a + 1) k) = false from Bool.eq_false_iff.mpr fun z => c (Nat.ble_eq.mp z)]; rfl
theorem find_le {k p : Nat} (hk : k < 5) : ∀ a, cT (findN (k + 1) p a) (k + 1) ≤ p
  | 0 => by
    show cT 0 (k + 1) ≤ p
    rw [cT_0 k hk]; omega
  | a + 1 => by
    have ih := find_le (p := p) hk a
    show cT (bif Nat.blt p (cT (a + 1) (k + 1)) then findN (k + 1) p a else a + 1) (k + 1) ≤ p
    cases c : Nat.blt p (cT (a + 1) (k + 1)) with
    | true => exact ih
    | false =>
      show cT (a + 1) (k + 1) ≤ p
      have : ¬ p < cT (a + 1) (k + 1) := fun z => by
        have := show Nat.blt p (cT (a + 1) (k + 1)) = true from Nat.ble_eq.mpr z
        rw [c] at this; cases this
      omega
theorem findN_le (k p : Nat) : ∀ a, findN k p a ≤ a
  | 0 => Nat.le_refl _
  | a + 1 => by
    have ih := findN_le k p a
    show (bif Nat.blt p (cT (a + 1) k) then findN k p a else a + 1) ≤ a + 1
    cases Nat.blt p (cT (a + 1) k) with
    | true => exact Nat.le_succ_of_le ih
    | false => exact Nat.le_refl _
theorem fa_idx (left : List Int) : ∀ (k p n : Nat), k ≤ 5 → n ≤ 13 → n ≤ left.length → okN k p n = true → faOk k (p : Int) (left.take n) = true ∧ faL k (p : Int) (left.take n) = vals left (idxN k p n) ∧ ∀ b ∈ idxN k p n, b < n
  | 0, _, _, _, _, _, _ => ⟨rfl, rfl, fun b h => by cases h⟩
  | k + 1, p, n, hk, hn, hl, ok => by
    rw [okN, Bool.and_eq_true] at ok
    have n0 : 0 < n := Nat.ble_eq.mp ok.1
    have tl : (left.take n).length = n := by rw [List.length_take]; omega
    have fe : findAt (k + 1) (p : Int) ((left.take n).length - 1) = findN (k + 1) p (n - 1) := by rw [tl]; exact find_eq (by omega) _ (by omega)
    obtain ⟨a, ha⟩ : ∃ a, a = findN (k + 1) p (n - 1) := ⟨_, rfl⟩
    have al : a ≤ n - 1 := by rw [ha]; exact findN_le _ _ _
    have ap : cT a (k + 1) ≤ p := by rw [ha]; exact find_le (by omega) _
    have we : waysI (a : Int) (k + 1) = (cT a (k + 1) : Int) := cT_eq a (by omega) (k + 1) (by omega)
    have sb : (p : Int) - (cT a (k + 1) : Int) = ((p - cT a (k + 1) : Nat) : Int) := by omega
    have tk : (left.take n).take a = left.take a := by rw [List.take_take, Nat.min_eq_left (by omega)]
    have gd : (left.take n).getD a 0 = left.getD a 0 := by
      rw [List.getD_eq_getElem?_getD, List.getD_eq_getElem?_getD, List.getElem?_take, if_pos (by omega)]
    have w0 : waysI 0 (k + 1) = 0 := by
      have := cT_eq 0 (by omega) (k + 1) (by omega)
      rw [cT_0 k (by omega)] at this
      exact this
    rw [← ha] at ok fe
    obtain ⟨i1, i2, i3⟩ := fa_idx left k (p - cT a (k + 1)) a (by omega) (by omega) (by omega) ok.2
    refine ⟨?_, ?_, ?_⟩
    · rw [faOk, fe, tk, we, sb, i1, w0, tl, decide_eq_true n0, decide_eq_true (by omega : (0 : Int) ≤ (p : Int))]
      rfl
    · rw [faL, fe, tk, we, sb, i2, gd, idxN, ← ha]
      rfl
    · intro b hb
      rw [idxN, ← ha] at hb
      rcases List.mem_cons.mp hb with e | e
      · omega
      · have := i3 b e; omega
theorem idx_len : ∀ k p n : Nat, (idxN k p n).length = k
  | 0, _, _ => rfl
  | k + 1, p, n => by
    show (idxN k _ _).length + 1 = k + 1
    rw [idx_len k]
theorem pf_sum {gone left : List Int} {n : Nat} (hn : n ≤ 13) (low : ∀ b : Nat, b < n → left.getD b 0 - 2 - (((gone.filter fun o => decide (o < left.getD b 0)).length : Nat) : Int) = (b : Int)) : ∀ bs : List Nat, (∀ b ∈ bs, b < n) → bs.length ≤ 5 → pfM gone (vals left bs) = (sumN bs : Int)
  | [], _, _ => rfl
  | b :: bs, hb, hl => by
    rw [List.length_cons] at hl
    have ih := pf_sum hn low bs (fun x hx => hb x (List.mem_cons_of_mem _ hx)) (by omega)
    have b1 := hb b List.mem_cons_self
    show waysI (left.getD b 0 - 2 - (((gone.filter fun o => decide (o < left.getD b 0)).length : Nat) : Int)) ((vals left bs).length + 1) + pfM gone (vals left bs) = ((cT b (bs.length + 1) + sumN bs : Nat) : Int)
    rw [ih, low b b1, show (vals left bs).length = bs.length from List.length_map _, cT_eq b (by omega) _ (by omega)]
    omega
theorem low_nil : ∀ b : Nat, b < 13 → every.getD b 0 - 2 - ((((([] : List Int)).filter fun o => decide (o < every.getD b 0)).length : Nat) : Int) = (b : Int) := by decide
theorem adj_desc : ∀ rs : List Int, ((rs.dropLast.zip (rs.drop 1)).all fun p => decide (p.2 < p.1)) = true → rs.Pairwise fun a b => b < a
  | [], _ => List.Pairwise.nil
  | [a], _ => List.pairwise_singleton _ _
  | a :: b :: rs, h => by
    have h' : (decide (b < a) && (((b :: rs).dropLast.zip ((b :: rs).drop 1)).all fun p => decide (p.2 < p.1))) = true := h
    rw [Bool.and_eq_true, decide_eq_true_iff] at h'
    have ih := adj_desc (b :: rs) h'.2
    refine List.pairwise_cons.mpr ⟨fun y hy => ?_, ih⟩
    rcases List.mem_cons.mp hy with e | e
    · omega
    · have := (List.pairwise_cons.mp ih).1 y e; omega
end Cd
set_option Elab.async false
set_option linter.all false
set_option maxRecDepth 100000
set_option maxHeartbeats 4000000
namespace Cd
open PySem L2
def fallN : List Nat → Nat → Prop
  | [], _ => True
  | b :: bs, n => b < n ∧ fallN bs b
theorem cT_k0 : ∀ m : Nat, m < 14 → cT m 0 = 1 := by decide
theorem cT_pas : ∀ m : Nat, m < 13 → ∀ k : Nat, k < 5 → cT (m + 1) (k + 1) = cT m (k + 1) + cT m k := by decide
theorem find_lt {k p : Nat} (hk : k < 5) : ∀ a, p < cT (a + 1) (k + 1) → p < cT (findN (k + 1) p a + 1) (k + 1)
  | 0, h => h
  | a + 1, h => by
    show p < cT ((bif Nat.blt p (cT (a + 1) (k + 1)) then findN (k + 1) p a else a + 1) + 1) (k + 1)
    cases c : Nat.blt p (cT (a + 1) (k + 1)) with
    | true => exact find_lt hk a (Nat.ble_eq.mp c)
    | false => exact h
theorem idx_sum : ∀ (k p n : Nat), k ≤ 5 → n ≤ 13 → p < cT n k → okN k p n = true ∧ sumN (idxN k p n) = p ∧ fallN (idxN k p n) n
  | 0, p, n, _, hn, h => by
    rw [cT_k0 n (by omega)] at h
    refine ⟨rfl, ?_, trivial⟩
    show 0 = p
    omega
  | k + 1, p, n, hk, hn, h => by
    have n0 : 0 < n := by
      rcases Nat.eq_zero_or_pos n with e | e
      · subst e; rw [cT_0 k (by omega)] at h; omega
      · exact e
    obtain ⟨a, ha⟩ : ∃ a, a = findN (k + 1) p (n - 1) := ⟨_, rfl⟩
    have al : a ≤ n - 1 := by rw [ha]; exact findN_le _ _ _
    have ap : cT a (k + 1) ≤ p := by rw [ha]; exact find_le (by omega) _
    have au : p < cT (a + 1) (k + 1) := by rw [ha]; exact find_lt (by omega) (n - 1) (by rw [show n - 1 + 1 = n by omega]; exact h)
    rw [cT_pas a (by omega) k (by omega)] at au
    obtain ⟨i1, i2, i3⟩ := idx_sum k (p - cT a (k + 1)) a (by omega) (by omega) (by omega)
    refine ⟨?_, ?_, ?_⟩
    · rw [okN, ← ha, i1, show Nat.blt 0 n = true from Nat.ble_eq.mpr n0]; rfl
    · rw [idxN, ← ha]
      show cT a ((idxN k (p - cT a (k + 1)) a).length + 1) + sumN (idxN k (p - cT a (k + 1)) a) = p
      rw [idx_len, i2]
      omega
    · rw [idxN, ← ha]
      exact ⟨by omega, i3⟩
/-- the first ahead of the second -/
def ltN : List Nat → List Nat → Bool
  | [], _ => false
  | _ :: _, [] => false
  | x :: xs, y :: ys => if x = y then ltN xs ys else decide (x < y)
theorem find_mono {k p p' : Nat} (h : p ≤ p') : ∀ a, findN k p a ≤ findN k p' a
  | 0 => Nat.le_refl _
  | a + 1 => by
    have ih := find_mono (k := k) h a
    show (bif Nat.blt p (cT (a + 1) k) then findN k p a else a + 1) ≤ (bif Nat.blt p' (cT (a + 1) k) then findN k p' a else a + 1)
    cases c' : Nat.blt p' (cT (a + 1) k) with
    | true =>
      have : p' < cT (a + 1) k := Nat.ble_eq.mp c'
      rw [show Nat.blt p (cT (a + 1) k) = true from Nat.ble_eq.mpr (by show p + 1 ≤ _; omega)]
      exact ih
    | false =>
      have := findN_le k p (a + 1)
      exact this
theorem idx_lt : ∀ (k p p' n : Nat), k ≤ 5 → n ≤ 13 → p < p' → p' < cT n k → ltN (idxN k p n) (idxN k p' n) = true
  | 0, p, p', n, _, hn, h, h' => by
    rw [cT_k0 n (by omega)] at h'
    omega
  | k + 1, p, p', n, hk, hn, h, h' => by
    obtain ⟨o1, s1, f1⟩ := idx_sum (k + 1) p n hk hn (by omega)
    obtain ⟨o2, s2, f2⟩ := idx_sum (k + 1) p' n hk hn h'
    have m := find_mono (k := k + 1) (show p ≤ p' by omega) (n - 1)
    have al := findN_le (k + 1) p' (n - 1)
    have ap : cT (findN (k + 1) p (n - 1)) (k + 1) ≤ p := find_le (by omega) _
    have n0 : 0 < n := by
      rcases Nat.eq_zero_or_pos n with e | e
      · subst e; rw [cT_0 k (by omega)] at h'; omega
      · exact e
    have au : p' < cT (findN (k + 1) p' (n - 1) + 1) (k + 1) := find_lt (by omega) (n - 1) (by rw [show n - 1 + 1 = n by omega]; exact h')
    show (if findN (k + 1) p (n - 1) = findN (k + 1) p' (n - 1) then ltN (idxN k (p - cT (findN (k + 1) p (n - 1)) (k + 1)) (findN (k + 1) p (n - 1))) (idxN k (p' - cT (findN (k + 1) p' (n - 1)) (k + 1)) (findN (k + 1) p' (n - 1))) else decide (findN (k + 1) p (n - 1) < findN (k + 1) p' (n - 1))) = true
    by_cases c : findN (k + 1) p (n - 1) = findN (k + 1) p' (n - 1)
    · rw [if_pos c, ← c]
      rw [← c, cT_pas _ (by omega) k (by omega)] at au
      exact idx_lt k _ _ _ (by omega) (by omega) (by omega) (by omega)
    · rw [if_neg c]
      exact decide_eq_true (by omega)
end Cd
set_option Elab.async false
set_option linter.all false
set_option maxRecDepth 100000
set_option maxHeartbeats 4000000
namespace Cd
open PySem L2
theorem top_nn {rs : List Int} (h : ∀ x ∈ rs, 2 ≤ x ∧ x ≤ 14) : 0 ≤ topM rs := by
  unfold topM
  have hd : 0 ≤ rs.headD 0 := by
    cases rs with
    | nil => decide
    | cons x xs => have := h x List.mem_cons_self; show 0 ≤ x; omega
  split
  · decide
  · split
    · exact hd
    · decide
theorem rise_at {left : List Int} (hl : left.Pairwise fun a b => a < b) {b b' : Nat} (h : b' < b) (hb : b < left.length) : left.getD b' 0 < left.getD b 0 := by
  rw [List.getD_eq_getElem?_getD, List.getD_eq_getElem?_getD, List.getElem?_eq_getElem hb, List.getElem?_eq_getElem (by omega), Option.getD_some, Option.getD_some]
  exact List.pairwise_iff_getElem.mp hl b' b (by omega) hb h
theorem vals_desc {left : List Int} (hl : left.Pairwise fun a b => a < b) : ∀ (bs : List Nat) (n : Nat), fallN bs n → n ≤ left.length → (vals left bs).Pairwise (fun a b => b < a) ∧ ∀ x ∈ vals left bs, ∃ b, b < n ∧ x = left.getD b 0
  | [], _, _, _ => ⟨List.Pairwise.nil, fun x h => by cases h⟩
  | b :: bs, n, h, hn => by
    obtain ⟨h1, h2⟩ := h
    obtain ⟨i1, i2⟩ := vals_desc hl bs b h2 (by omega)
    refine ⟨List.pairwise_cons.mpr ⟨fun y hy => ?_, i1⟩, fun x hx => ?_⟩
    · obtain ⟨b', hb', rfl⟩ := i2 y hy
      exact rise_at hl hb' (by omega)
    · rcases List.mem_cons.mp hx with e | e
      · exact ⟨b, h1, e⟩
      · obtain ⟨b', hb', e'⟩ := i2 x e
        exact ⟨b', by omega, e'⟩
theorem vals_lt {left : List Int} (hl : left.Pairwise fun a b => a < b) : ∀ bs bs' : List Nat, (∀ b ∈ bs, b < left.length) → (∀ b ∈ bs', b < left.length) → ltN bs bs' = true → ltI (vals left bs) (vals left bs') = true
  | [], _, _, _, h => by cases h
  | _ :: _, [], _, _, h => by cases h
  | x :: xs, y :: ys, h1, h2, h => by
    show ltI (left.getD x 0 :: vals left xs) (left.getD y 0 :: vals left ys) = true
    unfold ltI
    have h : (if x = y then ltN xs ys else decide (x < y)) = true := h
    by_cases c : x = y
    · subst c
      rw [if_pos rfl] at h ⊢
      exact vals_lt hl xs ys (fun b hb => h1 b (List.mem_cons_of_mem _ hb)) (fun b hb => h2 b (List.mem_cons_of_mem _ hb)) h
    · rw [if_neg c] at h
      have r := rise_at hl (of_decide_eq_true h) (h2 y List.mem_cons_self)
      rw [if_neg (by omega)]
      exact decide_eq_true r
theorem ix_mem {left : List Int} {b : Nat} (h : b < left.length) : left.getD b 0 ∈ left := by
  rw [List.getD_eq_getElem?_getD, List.getElem?_eq_getElem h, Option.getD_some]
  exact List.getElem_mem h
theorem adj_ofP : ∀ rs : List Int, rs.Pairwise (fun a b => b < a) → ((rs.dropLast.zip (rs.drop 1)).all fun p => decide (p.2 < p.1)) = true
  | [], _ => rfl
  | [a], _ => rfl
  | a :: b :: rs, h => by
    obtain ⟨h1, h2⟩ := List.pairwise_cons.mp h
    show (decide (b < a) && (((b :: rs).dropLast.zip ((b :: rs).drop 1)).all fun p => decide (p.2 < p.1))) = true
    rw [decide_eq_true (h1 b List.mem_cons_self), Bool.true_and]
    exact adj_ofP (b :: rs) h2
theorem fall_ofP {rs : List Int} {m : Nat} (hl : rs.length = m) (hd : rs.Pairwise fun a b => b < a) (hr : ∀ x ∈ rs, 2 ≤ x ∧ x ≤ 14) : fallB rs m = true := by
  unfold fallB
  rw [decide_eq_true hl, Bool.true_and, Bool.and_eq_true]
  refine ⟨List.all_eq_true.mpr fun x hx => ?_, adj_ofP rs hd⟩
  have := hr x hx
  rw [decide_eq_true this.1, decide_eq_true this.2]; rfl
theorem fall_inv {rs : List Int} {m : Nat} (h : fallB rs m = true) : rs.length = m ∧ rs.Pairwise (fun a b => b < a) ∧ ∀ x ∈ rs, 2 ≤ x ∧ x ≤ 14 := by
  unfold fallB at h
  rw [Bool.and_eq_true, Bool.and_eq_true, decide_eq_true_iff] at h
  refine ⟨h.1, adj_desc _ h.2.2, fun x hx => ?_⟩
  have := List.all_eq_true.mp h.2.1 x hx
  rwa [Bool.and_eq_true, decide_eq_true_iff, decide_eq_true_iff] at this
theorem every_rise : every.Pairwise fun a b => a < b := by decide
theorem left_rise (g : List Int) : (leftM g).Pairwise fun a b => a < b := every_rise.filter _
def aN (fr w p : Nat) : List Int := vals every (idxN fr (p / w) 13)
def bN (fr mo w p : Nat) : List Int := vals (leftM (aN fr w p)) (idxN mo (p % w) (13 - fr))
def lowB (fr : Nat) (a : List Int) : Bool := Nat.beq (leftM a).length (13 - fr) && (List.range (13 - fr)).all fun b => decide ((leftM a).getD b 0 - 2 - (((a.filter fun o => decide (o < (leftM a).getD b 0)).length : Nat) : Int) = (b : Int))
structure Kds (k : Int) (fr mo w n : Nat) : Prop where
  efr : frM k = fr
  emo : moM k = mo
  ew : waysI (13 - (fr : Int)) mo = (w : Int)
  cw : cT (13 - fr) mo = w
  cn : n = cT 13 fr * w
  w0 : 0 < w
  f2 : fr = 1 ∨ fr = 2
  m3 : mo ≤ 3
  kk : k = 1 ∨ k = 2 ∨ k = 3 ∨ k = 6 ∨ k = 7
  low : ∀ a, fallB a fr = true → lowB fr a = true
theorem low_facts {fr : Nat} {a : List Int} (h : lowB fr a = true) : (leftM a).length = 13 - fr ∧ ∀ b : Nat, b < 13 - fr → (leftM a).getD b 0 - 2 - (((a.filter fun o => decide (o < (leftM a).getD b 0)).length : Nat) : Int) = (b : Int) := by
  unfold lowB at h
  rw [Bool.and_eq_true] at h
  exact ⟨Nat.eq_of_beq_eq_true h.1, fun b hb => of_decide_eq_true (List.all_eq_true.mp h.2 b (List.mem_range.mpr hb))⟩
theorem Kds.parts {k : Int} {fr mo w n p : Nat} (K : Kds k fr mo w n) (hp : p < n) : p / w < cT 13 fr ∧ p % w < cT (13 - fr) mo := by
  have w0 := K.w0
  refine ⟨?_, by rw [K.cw]; exact Nat.mod_lt _ w0⟩
  rw [K.cn] at hp
  exact (Nat.div_lt_iff_lt_mul w0).mpr hp
theorem Kds.fallA {k : Int} {fr mo w n p : Nat} (K : Kds k fr mo w n) (hp : p < n) : fallB (aN fr w p) fr = true := by
  obtain ⟨q1, q2⟩ := K.parts hp
  have f2 := K.f2
  obtain ⟨o1, s1, f1⟩ := idx_sum fr (p / w) 13 (by omega) (by decide) q1
  obtain ⟨d1, d2⟩ := vals_desc every_rise _ _ f1 (by decide)
  refine fall_ofP (by unfold aN vals; rw [List.length_map, idx_len]) d1 fun x hx => ?_
  obtain ⟨b, hb, rfl⟩ := d2 x hx
  exact every_in (ix_mem hb)
theorem Kds.at {k : Int} {fr mo w n p : Nat} (K : Kds k fr mo w n) (hp : p < n) : okKP k p ∧ rkM k p = (k, aN fr w p ++ bN fr mo w p) ∧ Frm (rkM k p) ∧ vldB (rkM k p) = true ∧ pkM (rkM k p) = (p : Int) := by
  have kk := K.kk
  have f2 := K.f2
  have m3 := K.m3
  have w0 := K.w0
  have n48 : ¬ (k = 4 ∨ k = 8) := by omega
  have n05 : ¬ (k = 0 ∨ k = 5) := by omega
  obtain ⟨q1, q2⟩ := K.parts hp
  obtain ⟨t1, t3, tf1⟩ := idx_sum fr (p / w) 13 (by omega) (by decide) q1
  obtain ⟨t2, t4, tf2⟩ := idx_sum mo (p % w) (13 - fr) (by omega) (by omega) q2
  have t5 := K.fallA hp
  obtain ⟨ll, lo⟩ := low_facts (K.low _ t5)
  obtain ⟨db, db2⟩ := vals_desc (left_rise (aN fr w p)) _ _ tf2 (by omega)
  have inL : ∀ x ∈ bN fr mo w p, x ∈ leftM (aN fr w p) := fun x hx => by
    obtain ⟨b, hb, rfl⟩ := db2 x hx
    exact ix_mem (by omega)
  have t6 : fallB (bN fr mo w p) mo = true := fall_ofP (by unfold bN vals; rw [List.length_map, idx_len]) db fun x hx => left_rng (inL x hx)
  have t7 : ((bN fr mo w p).any fun x => decide (x ∈ aN fr w p)) = false := by
    rw [List.any_eq_false]
    intro x hx
    have := (List.mem_filter.mp (inL x hx)).2
    simpa using this
  have fd : (p : Int).fdiv (w : Int) = ((p / w : Nat) : Int) := by
    rw [Int.fdiv_eq_ediv_of_nonneg _ (by omega)]
    rfl
  have dm : (p : Int) - ((p / w : Nat) : Int) * (w : Int) = ((p % w : Nat) : Int) := by
    have := Nat.div_add_mod p w
    have h2 : (w : Int) * ((p / w : Nat) : Int) + ((p % w : Nat) : Int) = (p : Int) := by
      rw [← Int.natCast_mul, ← Int.natCast_add, this]
    rw [Int.mul_comm] at h2
    omega
  obtain ⟨a1, a2, a3⟩ := fa_idx every fr (p / w) 13 (by omega) (by decide) (by decide) t1
  have a1 : faOk fr ((p / w : Nat) : Int) every = true := a1
  have a2 : faL fr ((p / w : Nat) : Int) every = aN fr w p := a2
  obtain ⟨b1, b2, b3⟩ := fa_idx (leftM (aN fr w p)) mo (p % w) (13 - fr) (by omega) (by omega) (by omega) t2
  rw [← ll, List.take_length] at b1 b2
  have b2 : faL mo ((p % w : Nat) : Int) (leftM (aN fr w p)) = bN fr mo w p := by
    rw [b2, ll]; rfl
  have ae : aheadM k p = aN fr w p := by
    unfold aheadM
    rw [K.efr, K.emo, K.ew, fd, a2]
  have be : backM k p = ((p % w : Nat) : Int) := by
    unfold backM
    rw [K.efr, K.emo, K.ew, fd, dm]
  have re : rkM k p = (k, aN fr w p ++ bN fr mo w p) := by
    unfold rkM
    rw [if_neg n48, if_neg n05, ae, be, K.emo, b2]
  have la : (aN fr w p).length = fr := by
    unfold aN vals
    rw [List.length_map, idx_len]
  have lb : (bN fr mo w p).length = mo := by
    unfold bN vals
    rw [List.length_map, idx_len]
  have tk : (aN fr w p ++ bN fr mo w p).take fr = aN fr w p := List.take_left' la
  have dr : (aN fr w p ++ bN fr mo w p).drop fr = bN fr mo w p := List.drop_left' la
  rw [re]
  refine ⟨.inr (.inr ⟨kk, ?_, ?_⟩), rfl, ⟨by show 0 ≤ k; omega, by show k ≤ 8; omega, ?_, ?_⟩, ?_, ?_⟩
  · rw [K.efr, K.emo, K.ew, fd]; exact a1
  · rw [ae, be, K.emo]; exact b1
  · show (aN fr w p ++ bN fr mo w p).length = lenM k
    unfold lenM
    rw [if_neg n05, if_neg n48, List.length_append, la, lb, K.efr, K.emo]
  · intro x hx
    rcases List.mem_append.mp hx with e | e
    · rw [← a2] at e
      exact every_in (faL_mem _ _ _ a1 x e)
    · rw [← b2] at e
      exact left_rng (faL_mem _ _ _ b1 x e)
  · unfold vldB
    rw [if_neg (show ¬ (k = 4 ∨ k = 8) from n48), if_neg (show ¬ (k = 0 ∨ k = 5) from n05)]
    show (fallB ((aN fr w p ++ bN fr mo w p).take (frM k)) (frM k) && (fallB ((aN fr w p ++ bN fr mo w p).drop (frM k)) (moM k) && !(((aN fr w p ++ bN fr mo w p).drop (frM k)).any fun x => decide (x ∈ (aN fr w p ++ bN fr mo w p).take (frM k))))) = true
    rw [K.efr, K.emo, tk, dr, t5, t6, t7]
    rfl
  · unfold pkM
    rw [if_neg n48, if_neg n05]
    show pfM [] ((aN fr w p ++ bN fr mo w p).take (frM k)) * waysI (13 - (frM k : Int)) (moM k) + pfM ((aN fr w p ++ bN fr mo w p).take (frM k)) ((aN fr w p ++ bN fr mo w p).drop (frM k)) = _
    rw [K.efr, K.emo, tk, dr, K.ew]
    have s1 : pfM [] (aN fr w p) = ((p / w : Nat) : Int) := by
      have := pf_sum (gone := []) (left := every) (n := 13) (by decide) low_nil (idxN fr (p / w) 13) a3 (by rw [idx_len]; omega)
      rw [t3] at this
      exact this
    have s2 : pfM (aN fr w p) (bN fr mo w p) = ((p % w : Nat) : Int) := by
      have := pf_sum (gone := aN fr w p) (left := leftM (aN fr w p)) (n := 13 - fr) (by omega) lo (idxN mo (p % w) (13 - fr)) b3 (by rw [idx_len]; omega)
      rw [t4] at this
      exact this
    rw [s1, s2]
    omega
theorem ltI_appL : ∀ a a' b b' : List Int, a.length = a'.length → ltI a a' = true → ltI (a ++ b) (a' ++ b') = true
  | [], [], _, _, _, h => by cases h
  | [], _ :: _, _, _, h, _ => by cases h
  | _ :: _, [], _, _, h, _ => by cases h
  | x :: xs, y :: ys, b, b', hl, h => by
    show ltI (x :: (xs ++ b)) (y :: (ys ++ b')) = true
    unfold ltI at h ⊢
    by_cases c : x = y
    · rw [if_pos c] at h ⊢
      exact ltI_appL xs ys b b' (by simpa using hl) h
    · rw [if_neg c] at h ⊢
      exact h
theorem ltI_appR : ∀ a b b' : List Int, ltI b b' = true → ltI (a ++ b) (a ++ b') = true
  | [], _, _, h => h
  | x :: xs, b, b', h => by
    show ltI (x :: (xs ++ b)) (x :: (xs ++ b')) = true
    unfold ltI
    rw [if_pos rfl]
    exact ltI_appR xs b b' h
theorem Kds.lt {k : Int} {fr mo w n p : Nat} (K : Kds k fr mo w n) (hp : p + 1 < n) : ltI (rkM k p).2 (rkM k (p + 1)).2 = true := by
  rw [(K.at (show p < n by omega)).2.1, (K.at hp).2.1]
  show ltI (aN fr w p ++ bN fr mo w p) (aN fr w (p + 1) ++ bN fr mo w (p + 1)) = true
  have f2 := K.f2
  have m3 := K.m3
  have w0 := K.w0
  obtain ⟨q1, q2⟩ := K.parts (show p < n by omega)
  obtain ⟨r1, r2⟩ := K.parts hp
  have le : p / w ≤ (p + 1) / w := Nat.div_le_div_right (by omega)
  rcases Nat.eq_or_lt_of_le le with e | e
  · have a := Nat.div_add_mod p w
    have b := Nat.div_add_mod (p + 1) w
    rw [← e] at b
    have lt : p % w < (p + 1) % w := by omega
    have ea : aN fr w (p + 1) = aN fr w p := by unfold aN; rw [← e]
    have eb : bN fr mo w (p + 1) = vals (leftM (aN fr w p)) (idxN mo ((p + 1) % w) (13 - fr)) := by unfold bN; rw [ea]
    rw [ea, eb]
    refine ltI_appR _ _ _ ?_
    obtain ⟨ll, _⟩ := low_facts (K.low _ (K.fallA (show p < n by omega)))
    obtain ⟨o1, _, _⟩ := idx_sum mo (p % w) (13 - fr) (by omega) (by omega) q2
    obtain ⟨o2, _, _⟩ := idx_sum mo ((p + 1) % w) (13 - fr) (by omega) (by omega) r2
    have b1 := (fa_idx (leftM (aN fr w p)) mo (p % w) (13 - fr) (by omega) (by omega) (by omega) o1).2.2
    have b2 := (fa_idx (leftM (aN fr w p)) mo ((p + 1) % w) (13 - fr) (by omega) (by omega) (by omega) o2).2.2
    exact vals_lt (left_rise _) _ _ (fun b hb => by have := b1 b hb; omega) (fun b hb => by have := b2 b hb; omega) (idx_lt mo _ _ _ (by omega) (by omega) lt r2)
  · refine ltI_appL _ _ _ _ (by unfold aN vals; rw [List.length_map, List.length_map, idx_len, idx_len]) ?_
    obtain ⟨o1, _, _⟩ := idx_sum fr (p / w) 13 (by omega) (by decide) q1
    obtain ⟨o2, _, _⟩ := idx_sum fr ((p + 1) / w) 13 (by omega) (by decide) r1
    exact vals_lt every_rise _ _ (fa_idx every fr (p / w) 13 (by omega) (by decide) (by decide) o1).2.2 (fa_idx every fr ((p + 1) / w) 13 (by omega) (by decide) (by decide) o2).2.2 (idx_lt fr _ _ _ (by omega) (by decide) e r1)
end Cd
set_option Elab.async false
set_option linter.all false
set_option maxRecDepth 100000
set_option maxHeartbeats 4000000
namespace Cd
open PySem L2
end Cd
set_option Elab.async false
set_option linter.all false
set_option maxRecDepth 100000
set_option maxHeartbeats 4000000
namespace Cd
open PySem L2
theorem adj_of : ∀ rs : List Int, rs.Pairwise (fun a b => b < a) → ((rs.dropLast.zip (rs.drop 1)).all fun p => decide (p.2 < p.1)) = true
  | [], _ => rfl
  | [a], _ => rfl
  | a :: b :: rs, h => by
    obtain ⟨h1, h2⟩ := List.pairwise_cons.mp h
    show (decide (b < a) && (((b :: rs).dropLast.zip ((b :: rs).drop 1)).all fun p => decide (p.2 < p.1))) = true
    rw [decide_eq_true (h1 b List.mem_cons_self), Bool.true_and]
    exact adj_of (b :: rs) h2
theorem fall_of {rs : List Int} {m : Nat} (hl : rs.length = m) (hd : rs.Pairwise fun a b => b < a) (hr : ∀ x ∈ rs, 2 ≤ x ∧ x ≤ 14) : fallB rs m = true := by
  unfold fallB
  rw [decide_eq_true hl, Bool.true_and, Bool.and_eq_true]
  refine ⟨List.all_eq_true.mpr fun x hx => ?_, adj_of rs hd⟩
  have := hr x hx
  rw [decide_eq_true this.1, decide_eq_true this.2]; rfl
theorem le_step {c : Int → Int} {r r' : Int} (h : leP (c r', r') (c r, r) = true ∧ ((c r, r) : Int × Int) ≠ (c r', r')) (e : c r = c r') : r' < r := by
  obtain ⟨h1, h2⟩ := h
  unfold leP at h1
  rw [e] at h1 h2
  have : r ≠ r' := fun z => h2 (by rw [z])
  simp at h1
  omega
theorem len2 : ∀ l : List Int, l.length = 2 → ∃ a b, l = [a, b]
  | [a, b], _ => ⟨a, b, rfl⟩
theorem len3 : ∀ l : List Int, l.length = 3 → ∃ a b c, l = [a, b, c]
  | [a, b, c], _ => ⟨a, b, c, rfl⟩
theorem len4 : ∀ l : List Int, l.length = 4 → ∃ a b c d, l = [a, b, c, d]
  | [a, b, c, d], _ => ⟨a, b, c, d, rfl⟩
theorem grp (cnt : Int → Int) (l : List Int) (x : Int) (hs : (l.map cnt, x) ∈ shapes) (hp : (l.map fun r => (cnt r, r)).Pairwise fun p q => leP q p = true ∧ p ≠ q) (rg : ∀ r ∈ l, 2 ≤ r ∧ r ≤ 14) : Frm (x, l) ∧ vldB (x, l) = true := by
  simp only [shapes, List.mem_cons, List.not_mem_nil, or_false, Prod.mk.injEq] at hs
  have ne : ∀ a b, cnt a ≠ cnt b → a ≠ b := fun a b h e => h (by rw [e])
  rcases hs with ⟨h, rfl⟩ | ⟨h, rfl⟩ | ⟨h, rfl⟩ | ⟨h, rfl⟩ | ⟨h, rfl⟩
  · obtain ⟨a, b, c, d, rfl⟩ := len4 l (by have := congrArg List.length h; rwa [List.length_map] at this)
    · skip
      simp only [List.map_cons, List.map_nil, List.cons.injEq, and_true] at h
      obtain ⟨ha, hb, hc, hd⟩ := h
      simp only [List.map_cons, List.map_nil, List.pairwise_cons, List.mem_cons, List.not_mem_nil, or_false, forall_eq_or_imp, forall_eq] at hp
      have s1 := le_step hp.2.1.1 (by rw [hb, hc])
      have s2 := le_step hp.2.2.1 (by rw [hc, hd])
      have n1 := ne a b (by rw [ha, hb]; decide)
      have n2 := ne a c (by rw [ha, hc]; decide)
      have n3 := ne a d (by rw [ha, hd]; decide)
      refine ⟨⟨by show (0 : Int) ≤ 1; decide, by show (1 : Int) ≤ 8; decide, rfl, rg⟩, ?_⟩
      show (fallB [a] 1 && (fallB [b, c, d] 3 && !([b, c, d].any fun x => decide (x ∈ [a])))) = true
      rw [fall_of (m := 1) rfl (List.pairwise_singleton _ _) (fun x hx => rg x (by simp at hx; simp [hx])), fall_of (rs := [b, c, d]) (m := 3) rfl (by simp; omega) (fun x hx => rg x (List.mem_cons_of_mem _ hx))]
      simp; omega
  · obtain ⟨a, b, c, rfl⟩ := len3 l (by have := congrArg List.length h; rwa [List.length_map] at this)
    · skip
      simp only [List.map_cons, List.map_nil, List.cons.injEq, and_true] at h
      obtain ⟨ha, hb, hc⟩ := h
      simp only [List.map_cons, List.map_nil, List.pairwise_cons, List.mem_cons, List.not_mem_nil, or_false, forall_eq_or_imp, forall_eq] at hp
      have s1 := le_step hp.1.1 (by rw [ha, hb])
      have n1 := ne a c (by rw [ha, hc]; decide)
      have n2 := ne b c (by rw [hb, hc]; decide)
      refine ⟨⟨by show (0 : Int) ≤ 2; decide, by show (2 : Int) ≤ 8; decide, rfl, rg⟩, ?_⟩
      show (fallB [a, b] 2 && (fallB [c] 1 && !([c].any fun x => decide (x ∈ [a, b])))) = true
      rw [fall_of (rs := [a, b]) (m := 2) rfl (by simp; omega) (fun x hx => rg x (by simp at hx; rcases hx with h | h <;> simp [h])), fall_of (rs := [c]) (m := 1) rfl (List.pairwise_singleton _ _) (fun x hx => rg x (by simp at hx; simp [hx]))]
      simp; omega
  · obtain ⟨a, b, c, rfl⟩ := len3 l (by have := congrArg List.length h; rwa [List.length_map] at this)
    · skip
      simp only [List.map_cons, List.map_nil, List.cons.injEq, and_true] at h
      obtain ⟨ha, hb, hc⟩ := h
      simp only [List.map_cons, List.map_nil, List.pairwise_cons, List.mem_cons, List.not_mem_nil, or_false, forall_eq_or_imp, forall_eq] at hp
      have s1 := le_step hp.2.1 (by rw [hb, hc])
      have n1 := ne a b (by rw [ha, hb]; decide)
      have n2 := ne a c (by rw [ha, hc]; decide)
      refine ⟨⟨by show (0 : Int) ≤ 3; decide, by show (3 : Int) ≤ 8; decide, rfl, rg⟩, ?_⟩
      show (fallB [a] 1 && (fallB [b, c] 2 && !([b, c].any fun x => decide (x ∈ [a])))) = true
      rw [fall_of (rs := [a]) (m := 1) rfl (List.pairwise_singleton _ _) (fun x hx => rg x (by simp at hx; simp [hx])), fall_of (rs := [b, c]) (m := 2) rfl (by simp; omega) (fun x hx => rg x (List.mem_cons_of_mem _ hx))]
      simp; omega
  · obtain ⟨a, b, rfl⟩ := len2 l (by have := congrArg List.length h; rwa [List.length_map] at this)
    · skip
      simp only [List.map_cons, List.map_nil, List.cons.injEq, and_true] at h
      obtain ⟨ha, hb⟩ := h
      have n1 := ne a b (by rw [ha, hb]; decide)
      refine ⟨⟨by show (0 : Int) ≤ 6; decide, by show (6 : Int) ≤ 8; decide, rfl, rg⟩, ?_⟩
      show (fallB [a] 1 && (fallB [b] 1 && !([b].any fun x => decide (x ∈ [a])))) = true
      rw [fall_of (rs := [a]) (m := 1) rfl (List.pairwise_singleton _ _) (fun x hx => rg x (by simp at hx; simp [hx])), fall_of (rs := [b]) (m := 1) rfl (List.pairwise_singleton _ _) (fun x hx => rg x (by simp at hx; simp [hx]))]
      simp; omega
  · obtain ⟨a, b, rfl⟩ := len2 l (by have := congrArg List.length h; rwa [List.length_map] at this)
    · skip
      simp only [List.map_cons, List.map_nil, List.cons.injEq, and_true] at h
      obtain ⟨ha, hb⟩ := h
      have n1 := ne a b (by rw [ha, hb]; decide)
      refine ⟨⟨by show (0 : Int) ≤ 7; decide, by show (7 : Int) ≤ 8; decide, rfl, rg⟩, ?_⟩
      show (fallB [a] 1 && (fallB [b] 1 && !([b].any fun x => decide (x ∈ [a])))) = true
      rw [fall_of (rs := [a]) (m := 1) rfl (List.pairwise_singleton _ _) (fun x hx => rg x (by simp at hx; simp [hx])), fall_of (rs := [b]) (m := 1) rfl (List.pairwise_singleton _ _) (fun x hx => rg x (by simp at hx; simp [hx]))]
      simp; omega
theorem top_rng {rs : List Int} (hr : ∀ x ∈ rs, 2 ≤ x ∧ x ≤ 14) (hl : rs.length = 5) (h : 0 < topM rs) : topM rs ∈ ([5, 6, 7, 8, 9, 10, 11, 12, 13, 14] : List Int) := by
  have key : 5 ≤ topM rs ∧ topM rs ≤ 14 := by
    unfold topM at h ⊢
    split
    · omega
    · rename_i n1
      rw [if_neg n1] at h
      split
      · rename_i e
        match rs, hl, e with
        | [a, b, c, d, x], _, e =>
          have e5 : x = a - 4 := by
            have := congrArg (fun l : List Int => l.getD 4 0) e
            simpa using this
          have := hr a (by simp)
          have := hr x (by simp)
          show 5 ≤ a ∧ a ≤ 14
          omega
      · rename_i n2
        rw [if_neg n2] at h
        omega
  simp only [List.mem_cons, List.not_mem_nil, or_false]
  omega
theorem rank_frm {five : List Card} (h5 : five.length = 5) (f : Fit five) : Frm (rankM five) ∧ vldB (rankM five) = true := by
  have rg : ∀ x ∈ ranksM five, 2 ≤ x ∧ x ≤ 14 := fun x hx => by
    obtain ⟨c, hc, rfl⟩ := List.mem_map.mp (ranks_mem hx)
    exact f.2 c hc
  unfold rankM
  by_cases c : (ranksM five).length < 5
  · rw [if_pos c]
    obtain ⟨x, hx⟩ := Option.isSome_iff_exists.mp (shape_ok h5 f.1 c)
    rw [hx, Option.getD_some]
    have re := rows_eqL f
    have e1 : ranksM five = ranksL (five.map (·.1)) := ranks_eqL f
    have e2 : shapeM five = (ranksM five).map fun r => (((five.map (·.1)).count r : Nat) : Int) := by
      rw [e1]
      unfold shapeM
      rw [re, List.map_map]; rfl
    have m := lookup_memL hx
    rw [e2] at m
    exact grp (fun r => (((five.map (·.1)).count r : Nat) : Int)) _ x m (by rw [e1]; exact rowsL_desc _) rg
  · rw [if_neg c]
    obtain ⟨l5, pd, _⟩ := unlike h5 f c
    have tp : 0 < topM (ranksM five) → topM (ranksM five) ∈ ([5, 6, 7, 8, 9, 10, 11, 12, 13, 14] : List Int) := top_rng rg l5
    have tn := top_nn rg
    have one : ∀ k : Int, k = 4 ∨ k = 8 → 0 < topM (ranksM five) → Frm (k, [topM (ranksM five)]) ∧ vldB (k, [topM (ranksM five)]) = true := fun k hk h0 => by
      have t := tp h0
      generalize topM (ranksM five) = T at t
      have t' := t
      simp only [List.mem_cons, List.not_mem_nil, or_false] at t'
      refine ⟨⟨by show 0 ≤ k; omega, by show k ≤ 8; omega, ?_, fun x hx => by rw [List.mem_singleton.mp hx]; omega⟩, ?_⟩
      · show 1 = lenM k
        unfold lenM
        rw [if_neg (by omega), if_pos hk]
      · unfold vldB
        rw [if_pos (show k = 4 ∨ k = 8 from hk)]
        show (fallB [T] 1 && decide (T ∈ _)) = true
        rw [fall_of (rs := [T]) (m := 1) rfl (List.pairwise_singleton _ _) (fun x hx => by rw [List.mem_singleton.mp hx]; omega), Bool.true_and]
        exact decide_eq_true t
    have many : ∀ k : Int, k = 0 ∨ k = 5 → topM (ranksM five) = 0 → Frm (k, ranksM five) ∧ vldB (k, ranksM five) = true := fun k hk h0 => by
      refine ⟨⟨by show 0 ≤ k; omega, by show k ≤ 8; omega, ?_, rg⟩, ?_⟩
      · show (ranksM five).length = lenM k
        unfold lenM
        rw [if_pos hk, l5]
      · unfold vldB
        rw [if_neg (show ¬ (k = 4 ∨ k = 8) by omega), if_pos (show k = 0 ∨ k = 5 from hk)]
        show (fallB (ranksM five) 5 && decide (topM (ranksM five) = 0)) = true
        rw [fall_of l5 pd rg, decide_eq_true h0]; rfl
    by_cases t0 : 0 < topM (ranksM five)
    · cases al : alikeM five with
      | true =>
        rw [decide_eq_true t0, Bool.true_and, if_pos rfl]
        exact one 8 (.inr rfl) t0
      | false =>
        rw [Bool.and_false, if_neg (by decide), if_neg (by decide), if_pos t0]
        exact one 4 (.inl rfl) t0
    · cases al : alikeM five with
      | true =>
        rw [decide_eq_false t0, Bool.false_and, if_neg (by decide), if_pos rfl]
        exact many 5 (.inr rfl) (by omega)
      | false =>
        rw [Bool.and_false, if_neg (by decide), if_neg (by decide), if_neg t0]
        exact many 0 (.inl rfl) (by omega)
end Cd
set_option Elab.async false
set_option linter.all false
set_option maxRecDepth 100000
set_option maxHeartbeats 4000000
namespace Cd
open PySem L2
def fallD (ts : List PyData) (m : Nat) : Bool := match intsD ts with
  | some ns => fallB ns m
  | none => false
def isrB : PyData → Bool
  | .tuple [.int k, .tuple ts] => decide (0 ≤ k ∧ k ≤ 8) && (match intsD ts with
    | some ns => vldB (k, ns)
    | none => false)
  | _ => false
theorem intsD_some : ∀ {ts : List PyData} {ns : List Int}, intsD ts = some ns → ts = ns.map .int
  | [], ns, e => by simp [intsD] at e; subst e; rfl
  | d :: ts, ns, e => by
    cases d with
    | int i =>
      simp only [intsD, Option.map_eq_some_iff] at e
      obtain ⟨ms, e1, rfl⟩ := e
      rw [intsD_some e1]; rfl
    | _ => simp [intsD] at e
theorem intsD_none_mem : ∀ {ts : List PyData}, intsD ts = none → ∃ d ∈ ts, ∀ i, d ≠ .int i
  | [], e => by cases e
  | d :: ts, e => by
    cases d with
    | int i =>
      simp only [intsD, Option.map_eq_none_iff] at e
      obtain ⟨x, hx, h⟩ := intsD_none_mem e
      exact ⟨x, List.mem_cons_of_mem _ hx, h⟩
    | _ => exact ⟨_, List.mem_cons_self, fun i z => by cases z⟩
theorem intsD_none_of : ∀ {ts : List PyData} {d : PyData}, d ∈ ts → (∀ i, d ≠ .int i) → intsD ts = none
  | [], d, h, _ => nomatch h
  | e :: ts, d, h, hd => by
    rcases List.mem_cons.mp h with rfl | h
    · cases d with
      | int i => exact absurd rfl (hd i)
      | _ => rfl
    · have r := intsD_none_of h hd
      cases e with
      | int i =>
        show (intsD ts).map (i :: ·) = none
        rw [r]; rfl
      | _ => rfl
theorem fall_none {ts : List PyData} (e : intsD ts = none) (f m : Nat) : (fallD (ts.take f) f && fallD (ts.drop f) m) = false := by
  obtain ⟨d, hd, h⟩ := intsD_none_mem e
  have : d ∈ ts.take f ∨ d ∈ ts.drop f := by
    rw [← List.take_append_drop f ts] at hd
    exact List.mem_append.mp hd
  rcases this with h1 | h1
  · have : fallD (ts.take f) f = false := by unfold fallD; rw [intsD_none_of h1 h]
    rw [this]; rfl
  · have : fallD (ts.drop f) m = false := by unfold fallD; rw [intsD_none_of h1 h]
    rw [this, Bool.and_false]
theorem fallD_ints (ns : List Int) (m : Nat) : fallD (ns.map .int) m = fallB ns m := by unfold fallD; rw [intsD_map]
theorem fallB_len {ns : List Int} {m : Nat} (h : fallB ns m = true) : ns.length = m := by
  unfold fallB at h
  simp only [Bool.and_eq_true, decide_eq_true_eq] at h
  exact h.1
theorem fallB_rng {ns : List Int} {m : Nat} (h : fallB ns m = true) : ∀ x ∈ ns, 2 ≤ x ∧ x ≤ 14 := fun x hx => by
  unfold fallB at h
  simp only [Bool.and_eq_true, decide_eq_true_eq, List.all_eq_true] at h
  exact h.2.1 x hx
theorem vld_rng {k : Int} {ns : List Int} (h : vldB (k, ns) = true) : ∀ x ∈ ns, 2 ≤ x ∧ x ≤ 14 := by
  unfold vldB at h
  split at h
  · rw [Bool.and_eq_true] at h; exact fallB_rng h.1
  split at h
  · rw [Bool.and_eq_true] at h; exact fallB_rng h.1
  · rw [Bool.and_eq_true, Bool.and_eq_true] at h
    intro x hx
    rw [← List.take_append_drop (frM k) ns] at hx
    rcases List.mem_append.mp hx with hx | hx
    · exact fallB_rng h.1 x hx
    · exact fallB_rng h.2.1 x hx
theorem vld_len {k : Int} {ns : List Int} (h : vldB (k, ns) = true) : ns.length = lenM k := by
  unfold vldB at h
  unfold lenM
  split at h
  · rename_i c
    rw [Bool.and_eq_true] at h
    have := fallB_len h.1
    rw [if_neg (by simp only at c; omega), if_pos c]; exact this
  split at h
  · rename_i c
    rw [Bool.and_eq_true] at h
    have := fallB_len h.1
    rw [if_pos c]; exact this
  · rename_i c1 c2
    rw [Bool.and_eq_true, Bool.and_eq_true] at h
    rw [if_neg c2, if_neg c1]
    have a := fallB_len h.1
    have b := fallB_len h.2.1
    simp only at a b
    rw [List.length_take] at a
    rw [List.length_drop] at b
    have := lenB_pos (k := k)
    omega
where lenB_pos {k : Int} : 1 ≤ moM k := by unfold moM; split <;> (try split) <;> omega
section
variable {fns : Nat → Option FnD} {h : Hi} {cf : Calls} {q : Nat}
theorem sl_from (ts : List PyData) (j : Nat) : opf3 (.slice true false) (.tuple ts) (.int (j : Int)) .none = some (.tuple (ts.drop j)) := by
  have := slice_T (f := fun d : PyData => d) (xs := ts) (l := true) (u := false) (a := .int (j : Int)) (b := .none) (lo := some (j : Int)) (hi := none) rfl rfl
  rw [List.map_id' ts, cut_from, List.map_id'] at this
  exact this
theorem sl_to (ts : List PyData) (j : Nat) : opf3 (.slice false true) (.tuple ts) .none (.int (j : Int)) = some (.tuple (ts.take j)) := by
  have := slice_T (f := fun d : PyData => d) (xs := ts) (l := false) (u := true) (a := .none) (b := .int (j : Int)) (lo := none) (hi := some (j : Int)) rfl rfl
  rw [List.map_id' ts, cut_lo, List.map_id'] at this
  exact this
def okR : PyData → Bool
  | .int i => decide (2 ≤ i) && decide (i ≤ 14)
  | _ => false
/-- is_falling of any tuple -/
theorem fallingD_eval (F94 : fns 94 = some d94) {ts : List PyData} {m : Nat} (hz : ts.length < 900) : callF fns (q + 1) 94 [.p (.tuple ts), .p (.int (m : Int))] h = .ok (.p (.bool (fallD ts m))) h := by
  cases e : intsD ts with
  | some ns =>
    have := intsD_some e
    subst this
    rw [List.length_map] at hz
    rw [fallD_ints]
    exact falling_eval F94 hz
  | none =>
    have fd : fallD ts m = false := by unfold fallD; rw [e]
    rw [fd, call_eq F94 rfl]
    generalize callF fns q = cf
    let X : Ev := [some (.p (.tuple ts)), some (.p (.int (m : Int))), none, none]
    have c1 : evalE cf X (.comp [2] (.name 2) (.e (.var 0)) [] (.and_ (.isi (.var 2) .int) (.and_ (.not_ (.isi (.var 2) .bool)) (.and_ (.op2d .le (.lit (.int 2)) (.var 2)) (.op2d .le (.var 2) (.lit (.int 14))))))) h = .ok (.p (.list ((ts.map okR).map .bool))) h := by
      rw [List.map_map]
      refine comp_all (fun d : PyData => d) (fun d => .bool (okR d)) (by simp [X]) (by omega) fun x hx => ⟨[some (.p (.tuple ts)), some (.p (.int (m : Int))), some (.p x), none], by simp [X], ?_⟩
      cases x with
      | int i =>
        by_cases c : 2 ≤ i
        · simp [isTy, andK, notK, c, okR]
        · simp [isTy, andK, notK, c, okR]
      | bool b => simp [isTy, andK, notK, okR]
      | _ => simp [isTy, andK, notK, okR]
    have al : ((ts.map okR).all id) = false := by
      obtain ⟨d, hd, hn⟩ := intsD_none_mem e
      rw [← Bool.not_eq_true]
      intro z
      rw [List.all_eq_true] at z
      have := z (okR d) (List.mem_map.mpr ⟨d, hd, rfl⟩)
      cases d with
      | int i => exact hn i rfl
      | _ => cases this
    show finF h.length (evalSs cf b94 X h) = _
    rw [b94_eq]
    unfold ls94
    by_cases c : ts.length = m
    · have ne : ((ts.length : Int) ≠ (m : Int)) = False := by simp; omega
      have t0 : evalS cf s94_0 X h = .ok .nx X h := by
        unfold s94_0
        simp [X, isTy, ne, c]
      rw [ss_cons, t0, RS.bind_nx, ss_cons]
      simp only [s94_1, st_if, et_not, et_val, bor_op1, ev_op1, bor_comp, c1, R.bind_ok, unP_p, o_allL, al, Option.map_some, ofO_some, truth_b, Bool.not_false, R.toS_ok, if_true, ss_cons, st_ret, ev_lit, RS.bind_rt, fin_rp, List.take_length]
    · have ne : ((ts.length : Int) = (m : Int)) = False := by simp; omega
      rw [ss_cons]
      simp [s94_0, X, isTy, ne]
abbrev envI (d : PyData) (v1 v2 v3 v4 : Option Val) : Ev := [some (.p d), v1, v2, v3, v4, none]
theorem isr_eval (F48 : fns 48 = some d48) (F94 : fns 94 = some d94) (F95 : fns 95 = some d95) {d : PyData} (few : ∀ k ts, d = .tuple [.int k, .tuple ts] → ts.length < 900) : callF fns (q + 2) 95 [.p d] h = .ok (.p (.bool (isrB d))) h := by
  have e94 : ∀ (ts : List PyData) (m : Nat), ts.length < 900 → callF fns (q + 1) 94 [.p (.tuple ts), .p (.int (m : Int))] h = .ok (.p (.bool (fallD ts m))) h := fun ts m z => fallingD_eval F94 z
  have e48 : ∀ rs : List Int, rs.length = 5 → callF fns (q + 1) 48 [.p (intsT rs)] h = .ok (.p (.int (topM rs))) h := fun rs z => top_eval F48 z
  rw [call_eq F95 rfl]
  generalize callF fns (q + 1) = cf at e94 e48
  show finF h.length (evalSs cf b95 (envI d none none none none) h) = _
  rw [b95_eq]
  unfold ls95
  have bad : isrB d = false → evalT cf (envI d none none none none) (.or_ (.not_ (.val (.isi (.var 0) .tuple))) (.or_ (.val (.op2 .ne (.op1 .len (.var 0)) (.lit (.int 2)))) (.not_ (.val (.isi (.op2b .ix (.var 0) (.lit (.int 1))) .tuple))))) h = .ok true h → finF h.length (evalSs cf (s95_0 :: [s95_1, s95_2, s95_3, s95_4, s95_5, s95_6, s95_7]) (envI d none none none none) h) = .ok (.p (.bool (isrB d))) h := fun e1 e2 => by
    rw [ss_cons, e1]
    simp only [s95_0, st_if, e2, R.toS_ok, if_true, ss_cons, st_ret, ev_lit, RS.bind_rt, fin_rp, List.take_length]
  match d, few, bad with
  | .none, _, bad => exact bad rfl (by simp [isTy])
  | .bool _, _, bad => exact bad rfl (by simp [isTy])
  | .int _, _, bad => exact bad rfl (by simp [isTy])
  | .str _, _, bad => exact bad rfl (by simp [isTy])
  | .list _, _, bad => exact bad rfl (by simp [isTy])
  | .dict _, _, bad => exact bad rfl (by simp [isTy])
  | .tuple [], _, bad => exact bad rfl (by simp [isTy])
  | .tuple [a], _, bad => exact bad (by cases a <;> rfl) (by simp [isTy])
  | .tuple (a :: b :: c :: r), _, bad =>
    refine bad (by cases a <;> first | rfl | (cases b <;> rfl)) ?_
    have : ¬ ((r.length : Int) + 1 + 1 + 1 = 2) := by omega
    simp [isTy, this]
  | .tuple [a, b], few, bad =>
    have a1 : atI [a, b] 1 = some b := rfl
    by_cases hb : ∃ ts, b = .tuple ts
    case neg =>
      have tb : isTy .tuple b = false := by
        cases b with
        | tuple ts => exact absurd ⟨ts, rfl⟩ hb
        | _ => rfl
      have ta : isTy .tuple (.tuple [a, b]) = true := rfl
      refine bad ?_ (by simp [ta, a1, tb])
      cases b with
      | tuple ts => exact absurd ⟨ts, rfl⟩ hb
      | _ => cases a <;> rfl
    obtain ⟨ts, rfl⟩ := hb
    let Rs : Option Val := some (.p (.tuple ts))
    have t0 : evalS cf s95_0 (envI (.tuple [a, .tuple ts]) none none none none) h = .ok .nx (envI (.tuple [a, .tuple ts]) none none none none) h := by
      simp [s95_0, isTy, a1]
    have t1 : evalS cf s95_1 (envI (.tuple [a, .tuple ts]) none none none none) h = .ok .nx (envI (.tuple [a, .tuple ts]) (some (.p a)) Rs none none) h := by simp [s95_1, Rs]
    rw [ss_cons, t0, RS.bind_nx, ss_cons, t1, RS.bind_nx, ss_cons]
    have badk : isrB (.tuple [a, .tuple ts]) = false → evalT cf (envI (.tuple [a, .tuple ts]) (some (.p a)) Rs none none) (.or_ (.not_ (.val (.isi (.var 1) .int))) (.or_ (.val (.isi (.var 1) .bool)) (.not_ (.val (.and_ (.op2d .le (.lit (.int 0)) (.var 1)) (.op2d .le (.var 1) (.lit (.int 8)))))))) h = .ok true h → finF h.length ((evalS cf s95_2 (envI (.tuple [a, .tuple ts]) (some (.p a)) Rs none none) h).bind (evalSs cf [s95_3, s95_4, s95_5, s95_6, s95_7])) = .ok (.p (.bool (isrB (.tuple [a, .tuple ts])))) h := fun e1 e2 => by
      rw [e1]
      simp only [s95_2, st_if, e2, R.toS_ok, if_true, ss_cons, st_ret, ev_lit, RS.bind_rt, fin_rp, List.take_length]
    match a, few, badk with
    | .none, _, badk => exact badk rfl (by simp [isTy])
    | .bool _, _, badk => exact badk rfl (by simp [isTy])
    | .str _, _, badk => exact badk rfl (by simp [isTy])
    | .list _, _, badk => exact badk rfl (by simp [isTy])
    | .tuple _, _, badk => exact badk rfl (by simp [isTy])
    | .dict _, _, badk => exact badk rfl (by simp [isTy])
    | .int k, few, badk =>
      let Kd : Option Val := some (.p (.int k))
      have hz := few k ts rfl
      by_cases kr : 0 ≤ k ∧ k ≤ 8
      case neg =>
        refine badk (by show (decide (0 ≤ k ∧ k ≤ 8) && _) = false; rw [decide_eq_false kr]; rfl) ?_
        by_cases c0 : 0 ≤ k
        · have c8 : ¬ k ≤ 8 := fun z => kr ⟨c0, z⟩
          simp [isTy, andK, c0, c8]
        · simp [isTy, andK, c0]
      obtain ⟨lo, hi⟩ := kr
      have isr : isrB (.tuple [.int k, .tuple ts]) = (match intsD ts with
        | some ns => vldB (k, ns)
        | none => false) := by
        show (decide (0 ≤ k ∧ k ≤ 8) && _) = _
        rw [decide_eq_true ⟨lo, hi⟩, Bool.true_and]
      rw [isr]
      have t2 : evalS cf s95_2 (envI (.tuple [.int k, .tuple ts]) Kd Rs none none) h = .ok .nx (envI (.tuple [.int k, .tuple ts]) Kd Rs none none) h := by simp [s95_2, Kd, isTy, andK, lo, hi]
      rw [t2, RS.bind_nx, ss_cons]
      by_cases c48 : k = 4 ∨ k = 8
      · have i4 := in48 k
        rw [decide_eq_true c48] at i4
        have e9 : cf 94 [.p (.tuple ts), .p (.int 1)] h = .ok (.p (.bool (fallD ts 1))) h := e94 ts 1 hz
        have u : evalS cf s95_3 (envI (.tuple [.int k, .tuple ts]) Kd Rs none none) h = .ok (.rt (.p (.bool (match intsD ts with
          | some ns => vldB (k, ns)
          | none => false)))) (envI (.tuple [.int k, .tuple ts]) Kd Rs none none) h := by
          simp only [s95_3, st_if, et_val, bor_op2, ev_op2, ev_var, Kd, Rs, slot_0, slot_s, ofO_some, R.bind_ok, unP_p, bor_tup, ev_tup, eps_cons, eps_nil, ev_lit, i4, Option.map_some, truth_b, R.toS_ok, if_true, ss_cons, st_ret, ev_and, ev_call, ees_cons, ees_nil, e9]
          cases ei : intsD ts with
          | none =>
            have : fallD ts 1 = false := by unfold fallD; rw [ei]
            simp only [this, andK, R.toS_ok, RS.bind_rt]
          | some ns =>
            have := intsD_some ei
            subst this
            simp only [fallD_ints]
            have vv : vldB (k, ns) = (fallB ns 1 && decide (ns.headD 0 ∈ ([5, 6, 7, 8, 9, 10, 11, 12, 13, 14] : List Int))) := by unfold vldB; rw [if_pos c48]
            rw [vv]
            cases ef : fallB ns 1 with
            | false => simp only [andK, R.toS_ok, RS.bind_rt, Bool.false_and]
            | true =>
              obtain ⟨x, rfl⟩ := List.length_eq_one_iff.mp (fallB_len ef)
              have tp := o_inI x [5, 6, 7, 8, 9, 10, 11, 12, 13, 14]
              have tp' : opf2 .isIn (.int x) (.tuple [.int 5, .int 6, .int 7, .int 8, .int 9, .int 10, .int 11, .int 12, .int 13, .int 14]) = some (.bool (decide (x ∈ ([5, 6, 7, 8, 9, 10, 11, 12, 13, 14] : List Int)))) := tp
              simp only [andK, bor_op2b, ev_op2b, ev_op2, bor_var, ev_var, slot_0, slot_s, borV_p, ofO_some, R.bind_ok, unP_p, bor_lit, ev_lit, List.map_cons, List.map_nil, o_ixT, atI_c0, tp', Option.map_some, R.toS_ok, RS.bind_rt, Bool.true_and, List.headD_cons]
              rfl
        rw [u, RS.bind_rt, fin_rp, List.take_length]
      · have i4 := in48 k
        rw [decide_eq_false c48] at i4
        have t3 : evalS cf s95_3 (envI (.tuple [.int k, .tuple ts]) Kd Rs none none) h = .ok .nx (envI (.tuple [.int k, .tuple ts]) Kd Rs none none) h := by
          simp only [s95_3, st_if, et_val, bor_op2, ev_op2, ev_var, Kd, Rs, slot_0, slot_s, ofO_some, R.bind_ok, unP_p, bor_tup, ev_tup, eps_cons, eps_nil, ev_lit, i4, Option.map_some, truth_b, R.toS_ok, Bool.false_eq_true, if_false, ss_nil]
        rw [t3, RS.bind_nx, ss_cons]
        have i0 := in05 k
        by_cases c05 : k = 0 ∨ k = 5
        · rw [decide_eq_true c05] at i0
          have e9 : cf 94 [.p (.tuple ts), .p (.int 5)] h = .ok (.p (.bool (fallD ts 5))) h := e94 ts 5 hz
          have u : evalS cf s95_4 (envI (.tuple [.int k, .tuple ts]) Kd Rs none none) h = .ok (.rt (.p (.bool (match intsD ts with
            | some ns => vldB (k, ns)
            | none => false)))) (envI (.tuple [.int k, .tuple ts]) Kd Rs none none) h := by
            simp only [s95_4, st_if, et_val, bor_op2, ev_op2, ev_var, Kd, Rs, slot_0, slot_s, ofO_some, R.bind_ok, unP_p, bor_tup, ev_tup, eps_cons, eps_nil, ev_lit, i0, Option.map_some, truth_b, R.toS_ok, if_true, ss_cons, st_ret, ev_and, ev_call, ees_cons, ees_nil, e9]
            cases ei : intsD ts with
            | none =>
              have : fallD ts 5 = false := by unfold fallD; rw [ei]
              simp only [this, andK, R.toS_ok, RS.bind_rt]
            | some ns =>
              have := intsD_some ei
              subst this
              simp only [fallD_ints]
              have vv : vldB (k, ns) = (fallB ns 5 && decide (topM ns = 0)) := by unfold vldB; rw [if_neg c48, if_pos c05]
              rw [vv]
              cases ef : fallB ns 5 with
              | false => simp only [andK, R.toS_ok, RS.bind_rt, Bool.false_and]
              | true =>
                have e4 := e48 ns (fallB_len ef)
                simp only [andK, ev_op2, bor_call, ev_call, ees_cons, ees_nil, ev_var, slot_0, slot_s, ofO_some, R.bind_ok, e4, unP_p, bor_lit, ev_lit, o_eqI, Option.map_some, R.toS_ok, RS.bind_rt, Bool.true_and]
          rw [u, RS.bind_rt, fin_rp, List.take_length]
        · rw [decide_eq_false c05] at i0
          have kk : k = 1 ∨ k = 2 ∨ k = 3 ∨ k = 6 ∨ k = 7 := by omega
          have t4 : evalS cf s95_4 (envI (.tuple [.int k, .tuple ts]) Kd Rs none none) h = .ok .nx (envI (.tuple [.int k, .tuple ts]) Kd Rs none none) h := by
            simp only [s95_4, st_if, et_val, bor_op2, ev_op2, ev_var, Kd, Rs, slot_0, slot_s, ofO_some, R.bind_ok, unP_p, bor_tup, ev_tup, eps_cons, eps_nil, ev_lit, i0, Option.map_some, truth_b, R.toS_ok, Bool.false_eq_true, if_false, ss_nil]
          have sh := shared_at kk
          let Fi : Option Val := some (.p (.int (frM k : Int)))
          let Mo : Option Val := some (.p (.int (moM k : Int)))
          have t5 : evalS cf s95_5 (envI (.tuple [.int k, .tuple ts]) Kd Rs none none) h = .ok .nx (envI (.tuple [.int k, .tuple ts]) Kd Rs Fi Mo) h := by
            unfold s95_5
            simp only [sharedL] at sh
            simp only [st_unpack, ev_op2b, bor_lit, ev_lit, R.bind_ok, unP_p, ev_var, Kd, slot_0, slot_s, ofO_some, o_ixT, sh, Option.map_some, R.toS_ok, bt_tup, bts_cons, bts_nil, bt_name, Option.bind_some, setSlot_0, setSlot_s, Fi, Mo]
          have sa := sl_from ts (frM k)
          have sb := sl_to ts (frM k)
          have e9a := e94 (ts.take (frM k)) (frM k) (by rw [List.length_take]; omega)
          have e9b := e94 (ts.drop (frM k)) (moM k) (by rw [List.length_drop]; omega)
          rw [t4, RS.bind_nx, ss_cons, t5, RS.bind_nx, ss_cons]
          have tt : evalT cf (envI (.tuple [.int k, .tuple ts]) Kd Rs Fi Mo) (.or_ (.not_ (.val (.call 94 [(.op3b (.slice false true) (.var 2) (.lit .none) (.var 3)), (.var 3)]))) (.not_ (.val (.call 94 [(.op3b (.slice true false) (.var 2) (.var 3) (.lit .none)), (.var 4)])))) h = .ok (!(fallD (ts.take (frM k)) (frM k) && fallD (ts.drop (frM k)) (moM k))) h := by
            simp only [et_or, et_not, et_val, bor_call, ev_call, ees_cons, ees_nil, ev_op3b, bor_var, ev_var, ev_lit, Rs, Fi, Mo, slot_0, slot_s, borV_p, ofO_some, R.bind_ok, unP_p, sa, sb, Option.map_some, e9a, truth_b]
            cases fallD (ts.take (frM k)) (frM k) with
            | false => simp
            | true => simp [e9b]
          cases ef : (fallD (ts.take (frM k)) (frM k) && fallD (ts.drop (frM k)) (moM k)) with
          | false =>
            have z : (match intsD ts with
              | some ns => vldB (k, ns)
              | none => false) = false := by
              cases ei : intsD ts with
              | none => rfl
              | some ns =>
                have := intsD_some ei
                subst this
                rw [← List.map_take, ← List.map_drop, fallD_ints, fallD_ints] at ef
                show vldB (k, ns) = false
                unfold vldB
                rw [if_neg c48, if_neg c05]
                simp only
                rw [← Bool.and_assoc, ef, Bool.false_and]
            rw [z]
            simp only [s95_6, st_if, tt, ef, Bool.not_false, R.toS_ok, if_true, ss_cons, st_ret, ev_lit, RS.bind_rt, fin_rp, List.take_length]
          | true =>
            cases ei : intsD ts with
            | none =>
              rw [fall_none ei] at ef
              cases ef
            | some ns =>
              have := intsD_some ei
              subst this
              have vv : vldB (k, ns) = !((ns.drop (frM k)).any fun x => decide (x ∈ ns.take (frM k))) := by
                rw [← List.map_take, ← List.map_drop, fallD_ints, fallD_ints] at ef
                unfold vldB
                rw [if_neg c48, if_neg c05]
                simp only
                rw [← Bool.and_assoc, ef, Bool.true_and]
              have t6 : evalS cf s95_6 (envI (.tuple [.int k, .tuple (ns.map .int)]) Kd Rs Fi Mo) h = .ok .nx (envI (.tuple [.int k, .tuple (ns.map .int)]) Kd Rs Fi Mo) h := by
                simp only [s95_6, st_if, tt, ef, Bool.not_true, R.toS_ok, Bool.false_eq_true, if_false, ss_nil]
              rw [t6, RS.bind_nx, ss_cons]
              rw [List.length_map] at hz
              rw [← List.map_drop] at sa
              rw [← List.map_take] at sb
              have c1 : evalE cf (envI (.tuple [.int k, .tuple (ns.map .int)]) Kd Rs Fi Mo) (.comp [5] (.name 5) (.e (.op3b (.slice true false) (.var 2) (.var 3) (.lit .none))) [] (.op2 .isIn (.var 5) (.op3b (.slice false true) (.var 2) (.lit .none) (.var 3)))) h = .ok (.p (.list (((ns.drop (frM k)).map fun x => decide (x ∈ ns.take (frM k))).map .bool))) h := by
                rw [List.map_map]
                refine comp_all PyData.int _ (by simp only [es_e, ev_op3b, bor_var, Rs, Fi, slot_0, slot_s, borV_p, ev_var, ofO_some, R.bind_ok, unP_p, ev_lit, sa, Option.map_some, items_T]) (by rw [List.length_drop]; omega) fun x hx => ⟨[some (.p (.tuple [.int k, .tuple (ns.map .int)])), Kd, Rs, Fi, Mo, some (.p (.int x))], by simp, ?_⟩
                have ii := o_inI x (ns.take (frM k))
                simp only [ev_op2, bor_op3b, ev_op3b, bor_var, ev_var, Rs, Fi, slot_0, slot_s, borV_p, ofO_some, R.bind_ok, unP_p, ev_lit, sb, Option.map_some, ii]
                rfl
              have an : (((ns.drop (frM k)).map fun x => decide (x ∈ ns.take (frM k))).any id) = (ns.drop (frM k)).any fun x => decide (x ∈ ns.take (frM k)) := by rw [List.any_map]; rfl
              simp only [s95_7, st_ret, ev_not, ev_op1, bor_comp, c1, R.bind_ok, unP_p, o_anyL, an, Option.map_some, ofO_some, notK_t, R.toS_ok, RS.bind_rt, fin_rp, List.take_length, vv]
end
end Cd
set_option Elab.async false
set_option linter.all false
set_option maxRecDepth 100000
set_option maxHeartbeats 4000000
namespace Cd
open PySem L2
def fiM (k : Int) : Nat := if k = 0 ∨ k = 5 then 5 else frM k
def descB (p : List Int) : Bool := decide (p = (sortI p).reverse)
def fitsM (k : Int) (ns : List Int) : Bool := decide (ns.length = lenM k) && (decide ((dedup ns).length = ns.length) && (descB (ns.take (fiM k)) && (descB (ns.drop (fiM k)) &&
  (if k = 4 ∨ k = 8 then decide (5 ≤ ns.headD 0) else (!decide (k = 0 ∨ k = 5)) || (!decide (gi ns 0 - gi ns 4 = 4) && !decide (ns = [14, 5, 4, 3, 2]))))))
theorem dedup_iff (l : List Int) : (dedup l).length = l.length ↔ l.Nodup := by
  constructor
  · induction l with
    | nil => exact fun _ => List.nodup_nil
    | cons x r ih =>
      intro h
      unfold dedup at h
      have h1 := dedup_le r
      split at h
      · rw [List.length_cons] at h; omega
      · rename_i hx
        rw [List.length_cons, List.length_cons] at h
        exact List.nodup_cons.mpr ⟨hx, ih (by omega)⟩
  · induction l with
    | nil => exact fun _ => rfl
    | cons x r ih =>
      intro h
      obtain ⟨h1, h2⟩ := List.nodup_cons.mp h
      unfold dedup
      rw [if_neg h1, List.length_cons, ih h2, List.length_cons]
theorem desc_iff (p : List Int) : descB p = true ↔ p.Pairwise (fun a b => b ≤ a) := by
  unfold descB
  rw [decide_eq_true_iff]
  constructor
  · intro e
    rw [e, List.pairwise_reverse]
    exact sortI_sorted p
  · intro h
    have := sorted_uniq (l := sortI p) (m := p.reverse) ((sortI_perm p).trans p.reverse_perm.symm) (sortI_sorted p) (by rw [List.pairwise_reverse]; exact h)
    rw [this, List.reverse_reverse]
theorem strict_iff {p : List Int} (hn : p.Nodup) : p.Pairwise (fun a b => b ≤ a) ↔ p.Pairwise (fun a b => b < a) := by
  constructor
  · intro h
    exact h.imp₂ (fun a b h1 (h2 : a ≠ b) => by omega) hn
  · intro h; exact h.imp fun z => by omega
theorem fall_iff {p : List Int} {m : Nat} (hr : ∀ x ∈ p, 2 ≤ x ∧ x ≤ 14) : fallB p m = true ↔ p.length = m ∧ p.Pairwise (fun a b => b < a) :=
  ⟨fun h => ⟨(fall_inv h).1, (fall_inv h).2.1⟩, fun h => fall_of h.1 h.2 hr⟩
theorem top_zero {ns : List Int} (h5 : ns.length = 5) (hd : ns.Pairwise fun a b => b < a) (hr : ∀ x ∈ ns, 2 ≤ x ∧ x ≤ 14) : (!decide (gi ns 0 - gi ns 4 = 4) && !decide (ns = [14, 5, 4, 3, 2])) = decide (topM ns = 0) := by
  match ns, h5 with
  | [a, b, c, d, e], _ =>
    simp only [List.pairwise_cons, List.mem_cons, List.not_mem_nil, or_false, forall_eq_or_imp, forall_eq] at hd hr
    obtain ⟨⟨a1, a2, a3, a4⟩, ⟨b1, b2, b3⟩, ⟨c1, c2⟩, d1, _⟩ := hd
    unfold topM
    have lst : (List.range 5).map (fun k : Nat => ([a, b, c, d, e] : List Int).headD 0 - (k : Int)) = [a - 0, a - 1, a - 2, a - 3, a - 4] := rfl
    rw [lst]
    have g0 : gi [a, b, c, d, e] 0 = a := rfl
    have g4 : gi [a, b, c, d, e] 4 = e := rfl
    rw [g0, g4]
    by_cases l : ([a, b, c, d, e] : List Int) = [14, 5, 4, 3, 2]
    · rw [if_pos l, decide_eq_true l]; simp
    · rw [if_neg l, decide_eq_false l]
      by_cases q : a - e = 4
      · have : ([a, b, c, d, e] : List Int) = [a - 0, a - 1, a - 2, a - 3, a - 4] := by
          simp only [List.cons.injEq, and_true]
          omega
        rw [if_pos this, decide_eq_true q]
        have : ¬ (a = 0) := by omega
        simp [this]
      · have : ¬ ([a, b, c, d, e] : List Int) = [a - 0, a - 1, a - 2, a - 3, a - 4] := by
          simp only [List.cons.injEq, and_true]
          omega
        rw [if_neg this, decide_eq_false q]
        rfl
theorem fits_vld {k : Int} {ns : List Int} (h0 : 0 ≤ k) (h8 : k ≤ 8) (hr : ∀ x ∈ ns, 2 ≤ x ∧ x ≤ 14) : fitsM k ns = vldB (k, ns) := by
  have rt : ∀ j, ∀ x ∈ ns.take j, 2 ≤ x ∧ x ≤ 14 := fun j x hx => hr x (List.mem_of_mem_take hx)
  have rd : ∀ j, ∀ x ∈ ns.drop j, 2 ≤ x ∧ x ≤ 14 := fun j x hx => hr x (List.mem_of_mem_drop hx)
  rw [Bool.eq_iff_iff]
  unfold fitsM
  rw [Bool.and_eq_true, Bool.and_eq_true, Bool.and_eq_true, Bool.and_eq_true, decide_eq_true_iff, decide_eq_true_iff, desc_iff, desc_iff, dedup_iff]
  unfold vldB
  simp only
  by_cases c48 : k = 4 ∨ k = 8
  · have n05 : ¬ (k = 0 ∨ k = 5) := by omega
    rw [if_pos c48, if_pos c48, Bool.and_eq_true, fall_iff hr, decide_eq_true_iff, decide_eq_true_iff]
    have l1 : lenM k = 1 := by unfold lenM; rw [if_neg n05, if_pos c48]
    rw [l1]
    constructor
    · rintro ⟨a, b, _, _, e⟩
      obtain ⟨x, rfl⟩ := List.length_eq_one_iff.mp a
      have := hr x List.mem_cons_self
      simp only [List.headD_cons] at e ⊢
      refine ⟨⟨rfl, List.pairwise_singleton _ _⟩, ?_⟩
      simp only [List.mem_cons, List.not_mem_nil, or_false]
      omega
    · rintro ⟨⟨a, _⟩, e⟩
      obtain ⟨x, rfl⟩ := List.length_eq_one_iff.mp a
      have f1 : fiM k = 1 := by unfold fiM frM; rw [if_neg n05, if_neg (by omega)]
      rw [f1]
      simp only [List.headD_cons, List.mem_cons, List.not_mem_nil, or_false] at e ⊢
      refine ⟨rfl, by simp, List.pairwise_singleton _ _, List.Pairwise.nil, by omega⟩
  rw [if_neg c48, if_neg c48]
  by_cases c05 : k = 0 ∨ k = 5
  · have l5 : lenM k = 5 := by unfold lenM; rw [if_pos c05]
    have f5 : fiM k = 5 := by unfold fiM; rw [if_pos c05]
    rw [if_pos c05, l5, f5, Bool.and_eq_true, fall_iff hr, decide_eq_true c05, Bool.not_true, Bool.false_or]
    constructor
    · rintro ⟨a, b, c, _, e⟩
      rw [List.take_of_length_le (by omega)] at c
      have st := (strict_iff b).mp c
      rw [top_zero a st hr] at e
      exact ⟨⟨a, st⟩, e⟩
    · rintro ⟨⟨a, st⟩, e⟩
      rw [← top_zero a st hr] at e
      rw [List.take_of_length_le (by omega), List.drop_of_length_le (by omega)]
      exact ⟨a, st.imp fun z => by omega, st.imp fun z => by omega, List.Pairwise.nil, e⟩
  · rw [if_neg c05]
    have lm : lenM k = frM k + moM k := by unfold lenM; rw [if_neg c05, if_neg c48]
    have fm : fiM k = frM k := by unfold fiM; rw [if_neg c05]
    rw [lm, fm, Bool.and_eq_true, Bool.and_eq_true, fall_iff (rt _), fall_iff (rd _), decide_eq_false c05, Bool.not_false, Bool.true_or]
    rw [Bool.not_eq_true', List.any_eq_false, List.length_take, List.length_drop]
    constructor
    · rintro ⟨a, b, c, d, _⟩
      have nd := b
      rw [← List.take_append_drop (frM k) ns, List.nodup_append] at nd
      obtain ⟨n1, n2, n3⟩ := nd
      refine ⟨⟨by omega, (strict_iff n1).mp c⟩, ⟨by omega, (strict_iff n2).mp d⟩, fun x hx => ?_⟩
      rw [decide_eq_true_iff]
      exact fun hy => n3 x hy x hx rfl
    · rintro ⟨⟨a, b⟩, ⟨c, d⟩, e⟩
      refine ⟨?_, ?_, b.imp fun z => by omega, d.imp fun z => by omega, rfl⟩
      · have : 1 ≤ moM k := by unfold moM; split <;> (try split) <;> omega
        omega
      · rw [← List.take_append_drop (frM k) ns, List.nodup_append]
        refine ⟨b.imp fun z => by omega, d.imp fun z => by omega, fun x hx y hy z => ?_⟩
        have := e y hy
        rw [decide_eq_true_iff] at this
        rw [z] at hx
        exact this hx
end Cd
set_option Elab.async false
set_option linter.all false
set_option maxRecDepth 100000
set_option maxHeartbeats 4000000
namespace Cd
open PySem L2
def s164_0 : S := .try_ [.ret (.call 98 [(.var 0)])] [(2, [.ret (.lit .none)])]
def ls164 : List S := [s164_0]
theorem b164_eq : b164 = ls164 := rfl
def s165_0 : S := .set 2 (.tup [(.lit (.int 5)), (.lit (.int 4)), (.lit (.int 3)), (.lit (.int 3)), (.lit (.int 1)), (.lit (.int 5)), (.lit (.int 2)), (.lit (.int 2)), (.lit (.int 1))])
def s165_1 : S := .if_ (.or_ (.val (.op2 .ne (.op1 .len (.var 1)) (.op2b .ix (.var 2) (.var 0)))) (.val (.op2 .ne (.op1 .lenDict (.comp [5] (.name 5) (.e (.var 1)) [] (.tup [(.var 5), (.lit (.int 0))]))) (.op1 .len (.var 1))))) [.ret (.lit (.bool false))] []
def s165_2 : S := .set 3 (.op2b .ix (.tup [(.lit (.int 5)), (.lit (.int 1)), (.lit (.int 2)), (.lit (.int 1)), (.lit (.int 1)), (.lit (.int 5)), (.lit (.int 1)), (.lit (.int 1)), (.lit (.int 1))]) (.var 0))
def s165_3_0 : S := .if_ (.or_ (.val (.op2 .ne (.op1 .list (.var 4)) (.op1 .rev (.op1 .sorted (.var 4))))) (.and_ (.val (.var 4)) (.not_ (.val (.and_ (.op2d .le (.lit (.int 2)) (.op1 .min (.var 4))) (.and_ (.op2d .le (.op1 .min (.var 4)) (.op1 .max (.var 4))) (.op2d .le (.op1 .max (.var 4)) (.lit (.int 14))))))))) [.ret (.lit (.bool false))] []
def ls165_3 : List S := [s165_3_0]
def s165_3 : S := .for_ (.name 4) (.e (.tup [(.op3b (.slice false true) (.var 1) (.lit .none) (.var 3)), (.op3b (.slice true false) (.var 1) (.var 3) (.lit .none))])) ls165_3
def s165_4 : S := .if_ (.val (.op2 .isIn (.var 0) (.tup [(.lit (.int 4)), (.lit (.int 8))]))) [.ret (.op2 .ge (.op2b .ix (.var 1) (.lit (.int 0))) (.lit (.int 5)))] []
def s165_5 : S := .ret (.or_ (.op2 .notIn (.var 0) (.tup [(.lit (.int 0)), (.lit (.int 5))])) (.and_ (.op2 .ne (.op2d .sub (.op2b .ix (.var 1) (.lit (.int 0))) (.op2b .ix (.var 1) (.lit (.int 4)))) (.lit (.int 4))) (.op2 .ne (.op1 .tuple (.var 1)) (.tup [(.lit (.int 14)), (.lit (.int 5)), (.lit (.int 4)), (.lit (.int 3)), (.lit (.int 2))]))))
def ls165 : List S := [s165_0, s165_1, s165_2, s165_3, s165_4, s165_5]
theorem b165_eq : b165 = ls165 := rfl
def s166_0 : S := .unpack (.tup [(.name 1), (.name 2)]) (.var 0)
def s166_1 : S := .set 3 (.mk (.lst [(.tup [(.var 1)]), (.tup [(.var 1), (.var 2), (.lit (.int 1))]), (.lst [(.var 1), (.var 2)]), (.tup [(.var 1), (.op1 .list (.var 2))]), (.tup [(.lit (.bool true)), (.var 2)]), (.tup [(.lit (.int 9)), (.var 2)]), (.tup [(.op1 .neg (.lit (.int 1))), (.var 2)])]))
def s166_2 : S := .ext (.var 3) (.lst [(.tup [(.var 1), (.op2d .add (.var 2) (.op3b (.slice true false) (.var 2) (.op1 .neg (.lit (.int 1))) (.lit .none)))]), (.tup [(.var 1), (.op3b (.slice false true) (.var 2) (.lit .none) (.op1 .neg (.lit (.int 1))))]), (.tup [(.op1 .strI (.var 1)), (.var 2)]), (.tup [(.var 1), (.tup [])]), (.lit .none), (.tup [])])
def s166_3_0_0 : S := .app (.var 3) (.tup [(.var 1), (.op2d .add (.op2d .add (.op3b (.slice false true) (.var 2) (.lit .none) (.var 4)) (.tup [(.var 5)])) (.op3b (.slice true false) (.var 2) (.op2d .addI (.var 4) (.lit (.int 1))) (.lit .none)))])
def ls166_3_0 : List S := [s166_3_0_0]
def s166_3_0 : S := .for_ (.name 5) (.e (.tup [(.lit (.int 1)), (.lit (.int 15)), (.lit (.bool true)), (.tup [(.lit (.int 5))])])) ls166_3_0
def ls166_3 : List S := [s166_3_0]
def s166_3 : S := .for_ (.name 4) (.rng1 (.op1 .len (.var 2))) ls166_3
def s166_4 : S := .ret (.freeze 3)
def ls166 : List S := [s166_0, s166_1, s166_2, s166_3, s166_4]
theorem b166_eq : b166 = ls166 := rfl
def s167_0 : S := .set 1 (.mk (.lst []))
def s167_1_0 : S := .set 3 (.call 50 [(.call 59 [(.var 0), (.var 1), (.lit (.int 5))])])
def s167_1_1 : S := .unpack (.tup [(.name 4), (.name 5)]) (.var 3)
def s167_1_2 : S := .if_ (.or_ (.not_ (.val (.call 95 [(.var 3)]))) (.or_ (.val (.op1 .isNone (.call 164 [(.var 3)]))) (.not_ (.val (.call 165 [(.var 4), (.var 5)]))))) [.ret (.lit (.bool false))] []
def s167_1_3_0 : S := .if_ (.or_ (.val (.call 95 [(.var 6)])) (.and_ (.val (.op2 .notInS (.lit (.str ("[" : Str))) (.op1 .repr (.var 6)))) (.val (.op1 .notNone (.call 164 [(.var 6)]))))) [.ret (.lit (.bool false))] []
def ls167_1_3 : List S := [s167_1_3_0]
def s167_1_3 : S := .for_ (.name 6) (.e (.call 166 [(.var 3)])) ls167_1_3
def s167_1_4_0_0 : S := .if_ (.val (.op2 .ne (.call 95 [(.tup [(.var 7), (.var 10)])]) (.call 165 [(.var 7), (.var 10)]))) [.ret (.lit (.bool false))] []
def ls167_1_4_0 : List S := [s167_1_4_0_0]
def s167_1_4_0 : S := .for_ (.name 10) (.e (.tup [(.var 5), (.op1 .revT (.var 5))])) ls167_1_4_0
def ls167_1_4 : List S := [s167_1_4_0]
def s167_1_4 : S := .for_ (.name 7) (.rng1 (.lit (.int 9))) ls167_1_4
def s167_1_5 : S := .set 8 (.op1 .tuple (.comp [11] (.name 11) (.rng1 (.call 14 [(.var 0), (.var 1), (.lst [(.lit (.int 1)), (.lit (.int 2)), (.lit (.int 3)), (.lit (.int 4)), (.lit (.int 5))])])) [] (.op2d .add (.lit (.int 2)) (.call 13 [(.var 0), (.var 1), (.lit (.int 13))]))))
def s167_1_6_0 : S := .if_ (.val (.op2 .ne (.call 95 [(.tup [(.var 7), (.var 8)])]) (.call 165 [(.var 7), (.var 8)]))) [.ret (.lit (.bool false))] []
def ls167_1_6 : List S := [s167_1_6_0]
def s167_1_6 : S := .for_ (.name 7) (.rng1 (.lit (.int 9))) ls167_1_6
def s167_1_7_0 : S := .set 10 (.op1 .tuple (.comp [12] (.name 12) (.rng1 (.lit (.int 5))) [] (.op2d .sub (.var 9) (.var 12))))
def s167_1_7_1 : S := .if_ (.or_ (.val (.call 95 [(.tup [(.lit (.int 0)), (.var 10)])])) (.or_ (.val (.call 95 [(.tup [(.lit (.int 5)), (.var 10)])])) (.not_ (.val (.call 95 [(.tup [(.lit (.int 4)), (.tup [(.var 9)])])]))))) [.ret (.lit (.bool false))] []
def ls167_1_7 : List S := [s167_1_7_0, s167_1_7_1]
def s167_1_7 : S := .for_ (.name 9) (.e (.tup [(.lit (.int 6)), (.lit (.int 14))])) ls167_1_7
def ls167_1 : List S := [s167_1_0, s167_1_1, s167_1_2, s167_1_3, s167_1_4, s167_1_5, s167_1_6, s167_1_7]
def s167_1 : S := .for_ (.name 2) (.rng1 (.lit (.int 2))) ls167_1
def s167_2 : S := .ret (.and_ (.not_ (.call 95 [(.tup [(.lit (.int 4)), (.tup [(.lit (.int 4))])])])) (.and_ (.not_ (.call 95 [(.tup [(.lit (.int 8)), (.tup [(.lit (.int 2))])])])) (.not_ (.call 95 [(.tup [(.lit (.int 0)), (.tup [(.lit (.int 14)), (.lit (.int 5)), (.lit (.int 4)), (.lit (.int 3)), (.lit (.int 2))])])]))))
def ls167 : List S := [s167_0, s167_1, s167_2]
theorem b167_eq : b167 = ls167 := rfl
end Cd
set_option Elab.async false
set_option linter.all false
set_option maxRecDepth 100000
set_option maxHeartbeats 4000000
namespace Cd
open PySem L2
structure Sh1 (d : PyData) (n : Nat) : Prop where
  lay : d.canLay0 = true
  dep : d.depth ≤ n
theorem Sh1.mono {d : PyData} {n m : Nat} (h : Sh1 d n) (l : n ≤ m) : Sh1 d m := ⟨h.lay, Nat.le_trans h.dep l⟩
theorem sh_all {n : Nat} : ∀ xs : List PyData, (∀ x ∈ xs, Sh1 x n) → PyData.canLayAll0 xs = true ∧ PyData.depthAll xs ≤ n
  | [], _ => ⟨by simp [PyData.canLayAll0], Nat.zero_le _⟩
  | x :: xs, h => by
    obtain ⟨a, b⟩ := sh_all xs fun y hy => h y (List.mem_cons_of_mem _ hy)
    have hx := h x List.mem_cons_self
    refine ⟨by simp [PyData.canLayAll0, hx.lay, a], ?_⟩
    show max (PyData.depth x) (PyData.depthAll xs) ≤ n
    exact Nat.max_le.mpr ⟨hx.dep, b⟩
theorem sh_tup {xs : List PyData} {n : Nat} (h : ∀ x ∈ xs, Sh1 x n) : Sh1 (.tuple xs) (n + 1) := by
  obtain ⟨a, b⟩ := sh_all xs h
  refine ⟨by simpa [PyData.canLay0] using a, ?_⟩
  show PyData.depthAll xs + 1 ≤ n + 1
  omega
theorem sh_int (i : Int) (n : Nat) : Sh1 (.int i) n := ⟨by simp [PyData.canLay0], Nat.zero_le _⟩
theorem sh_str {x : Str} (h : PyData.canLay0 (.str x) = true) (n : Nat) : Sh1 (.str x) n := ⟨h, Nat.zero_le _⟩
theorem Sh1.shaped {d : PyData} (h : Sh1 d 60) : SeqAt.shaped d = true := by
  show (d.canLay0 && decide (d.depth ≤ 64)) = true
  rw [h.lay, Bool.true_and, decide_eq_true_iff]
  have := h.dep; omega
structure Rp1 (d : PyData) (n w : Nat) : Prop extends Sh1 d n where
  sho : d.showable = true
  ish : d.intsShort 13 = true
  wt : d.weight ≤ w
theorem rp_all {n w : Nat} : ∀ xs : List PyData, (∀ x ∈ xs, Rp1 x n w) → PyData.showableAll xs = true ∧ PyData.intsShortAll 13 xs = true ∧ PyData.weightAll xs ≤ xs.length * (w + 1)
  | [], _ => ⟨by simp [PyData.showableAll], by simp [PyData.intsShortAll], Nat.zero_le _⟩
  | x :: xs, h => by
    obtain ⟨a, b, c⟩ := rp_all xs fun y hy => h y (List.mem_cons_of_mem _ hy)
    have hx := h x List.mem_cons_self
    refine ⟨by simp [PyData.showableAll, hx.sho, a], by simp [PyData.intsShortAll, hx.ish, b], ?_⟩
    show x.weight + 1 + PyData.weightAll xs ≤ _
    rw [List.length_cons, Nat.add_mul, Nat.one_mul]
    have := hx.wt
    omega
theorem rp_tup {xs : List PyData} {n w : Nat} (h : ∀ x ∈ xs, Rp1 x n w) : Rp1 (.tuple xs) (n + 1) (xs.length * (w + 1)) := by
  obtain ⟨a, b, c⟩ := rp_all xs h
  exact ⟨sh_tup fun x hx => (h x hx).toSh1, by simpa [PyData.showable] using a, by simpa [PyData.intsShort] using b, c⟩
theorem Rp1.mono {d : PyData} {n m w v : Nat} (h : Rp1 d n w) (l : n ≤ m) (l2 : w ≤ v) : Rp1 d m v := ⟨h.toSh1.mono l, h.sho, h.ish, Nat.le_trans h.wt l2⟩
theorem rp_int {i : Int} (n : Nat) (hi : i.natAbs < 1000) : Rp1 (.int i) n 10 := by
  have lg : i.natAbs.log2 < 10 := by
    rcases Nat.eq_zero_or_pos i.natAbs with z | z
    · rw [z]; decide
    · exact (Nat.log2_lt (by omega)).mpr (by omega)
  refine ⟨sh_int i n, ?_, ?_, ?_⟩
  · simp only [PyData.showable, decide_eq_true_eq]
    omega
  · simp only [PyData.intsShort, decide_eq_true_eq]
    exact PyData.shown_int_le (by omega)
  · show (if i == 0 then 0 else i.natAbs.log2 + 1) ≤ 10
    split <;> omega
theorem repr_ok {d : PyData} (hs : d.isSeqD = true) (RR : Rp1 d 5 1000) : opf1 .repr d = some (.str d.shown) := by
  show reprS _ = _
  unfold reprS
  rw [if_neg (by cases d <;> first | exact Bool.false_ne_true | cases hs)]
  have hd := PyData.hasDict_of_canLay _ RR.lay
  have hl := PyData.shown_fits (B := 13) (by omega) (by omega) (PyData.leavesShort_of_canLay0 13 _ RR.lay RR.ish) (by have := RR.wt; omega)
  have hdp := RR.dep
  rw [if_pos (by
    rw [Bool.and_eq_true, Bool.and_eq_true, Bool.and_eq_true, Bool.and_eq_true]
    refine ⟨⟨⟨⟨hs, RR.sho⟩, by rw [hd]; rfl⟩, ?_⟩, ?_⟩
    · rw [decide_eq_true_iff]; omega
    · rw [decide_eq_true_iff]; exact hl)]
theorem sh_list {xs : List PyData} {n : Nat} (h : ∀ x ∈ xs, Sh1 x n) : Sh1 (.list xs) (n + 1) := by
  obtain ⟨a, b⟩ := sh_all xs h
  refine ⟨by simpa [PyData.canLay0] using a, ?_⟩
  show PyData.depthAll xs + 1 ≤ n + 1
  omega
theorem rp_list {xs : List PyData} {n w : Nat} (h : ∀ x ∈ xs, Rp1 x n w) : Rp1 (.list xs) (n + 1) (xs.length * (w + 1)) := by
  obtain ⟨a, b, c⟩ := rp_all xs h
  exact ⟨sh_list fun x hx => (h x hx).toSh1, by simpa [PyData.showable] using a, by simpa [PyData.intsShort] using b, c⟩
theorem rp_bool (b : Bool) (n : Nat) : Rp1 (.bool b) n 0 := ⟨⟨by simp [PyData.canLay0], Nat.zero_le _⟩, by simp [PyData.showable], by simp [PyData.intsShort], Nat.le_refl _⟩
theorem rp_strC {x : Str} (n : Nat) (h : PyData.canLay0 (.str x) = true) (hl : x.cps.size ≤ 10) : Rp1 (.str x) n 10 := ⟨sh_str h n, by simp [PyData.showable], by simp [PyData.intsShort], hl⟩
theorem repr_none : opf1 .repr .none = some (.str "None") := rfl
end Cd
set_option Elab.async false
set_option linter.all false
set_option maxRecDepth 100000
set_option maxHeartbeats 4000000
namespace Cd
open PySem L2
theorem lenM_le (k : Int) : lenM k ≤ 5 := by
  unfold lenM frM moM
  split
  · omega
  · split
    · omega
    · split <;> split <;> (try split) <;> omega
section
variable {fns : Nat → Option FnD} {h : Hi} {q : Nat}
end
end Cd
set_option Elab.async false
set_option linter.all false
set_option maxRecDepth 100000
set_option maxHeartbeats 4000000
namespace Cd
open PySem L2
section
variable {h : Hi} {cf : Calls} {q : Nat}
theorem e95 {d : PyData} (few : ∀ k ts, d = .tuple [.int k, .tuple ts] → ts.length < 900) : callF fns (q + 2) 95 [.p d] h = .ok (.p (.bool (isrB d))) h := isr_eval rfl rfl rfl few
theorem isr_rank {k : Int} {ns : List Int} (h0 : 0 ≤ k) (h8 : k ≤ 8) : isrB (.tuple [.int k, intsT ns]) = vldB (k, ns) := by
  show (decide (0 ≤ k ∧ k ≤ 8) && (match intsD (ns.map .int) with | some ns => vldB (k, ns) | none => false)) = _
  rw [intsD_map, decide_eq_true ⟨h0, h8⟩, Bool.true_and]
theorem place_ok {r : Rank} (f : Frm r) (hv : vldB r = true) : callF fns (q + 5) 164 [.p (rankD r)] h = .ok (.p (.int (plM r))) h := by
  have e98 := pl_eval (fns := fns) (q := q) (h := h) rfl rfl rfl rfl rfl rfl rfl f hv
  rw [call_eq (d := d164) rfl rfl]
  generalize callF fns (q + 4) = cf at e98
  show finF h.length (evalSs cf b164 [some (.p (rankD r))] h) = _
  rw [b164_eq]
  unfold ls164
  have t : evalSs cf [.ret (.call 98 [(.var 0)])] [some (.p (rankD r))] h = .ok (.rt (.p (.int (plM r)))) [some (.p (rankD r))] h := by
    simp only [ss_cons, st_ret, ev_call, ees_cons, ees_nil, ev_var, slot_0, ofO_some, R.bind_ok, e98, R.toS_ok, RS.bind_rt]
  rw [ss_cons]
  unfold s164_0
  rw [ss_try_ok t, RS.bind_rt, fin_rp, List.take_length]
theorem place_bad {d : PyData} (few : ∀ k ts, d = .tuple [.int k, .tuple ts] → ts.length < 900) (hb : isrB d = false) : callF fns (q + 4) 164 [.p d] h = .ok (.p .none) h := by
  have e9 := e95 (q := q) (h := h) few
  have e98 : callF fns (q + 3) 98 [.p d] h = .exc ⟨2, []⟩ h := by
    rw [call_eq (d := d98) rfl rfl]
    generalize callF fns (q + 2) = cf at e9
    show finF h.length (evalSs cf b98 [some (.p d)] h) = _
    rw [b98_eq]
    unfold ls98
    have t : evalS cf s98_0 [some (.p d)] h = .exc ⟨2, []⟩ [some (.p d)] h := by
      simp only [s98_0, st_if, et_not, et_val, bor_call, ev_call, ees_cons, ees_nil, ev_var, slot_0, ofO_some, R.bind_ok, e9, unP_p, hb, truth_b, Bool.not_false, R.toS_ok, if_true, ss_cons, st_raise, eps_nil, RS.bind_exc]
    rw [ss_cons, t, RS.bind_exc, fin_exc, List.take_length]
  rw [call_eq (d := d164) rfl rfl]
  generalize callF fns (q + 3) = cf at e98
  show finF h.length (evalSs cf b164 [some (.p d)] h) = _
  rw [b164_eq]
  unfold ls164
  have t : evalSs cf [.ret (.call 98 [(.var 0)])] [some (.p d)] h = .exc ⟨2, []⟩ [some (.p d)] h := by
    simp only [ss_cons, st_ret, ev_call, ees_cons, ees_nil, ev_var, slot_0, ofO_some, R.bind_ok, e98, R.toS_exc, RS.bind_exc]
  rw [ss_cons]
  unfold s164_0
  rw [ss_try_exc t, hs_cons, if_pos (show subC 2 2 = true from rfl)]
  simp only [ss_cons, st_ret, ev_lit, R.toS_ok, RS.bind_rt, fin_rp, List.take_length]
theorem sizes_at {k : Int} (h0 : 0 ≤ k) (h8 : k ≤ 8) : opf2 .ix (.tuple [.int 5, .int 4, .int 3, .int 3, .int 1, .int 5, .int 2, .int 2, .int 1]) (.int k) = some (.int (lenM k : Int)) ∧ opf2 .ix (.tuple [.int 5, .int 1, .int 2, .int 1, .int 1, .int 5, .int 1, .int 1, .int 1]) (.int k) = some (.int (fiM k : Int)) := by
  have : k = 0 ∨ k = 1 ∨ k = 2 ∨ k = 3 ∨ k = 4 ∨ k = 5 ∨ k = 6 ∨ k = 7 ∨ k = 8 := by omega
  rcases this with e | e | e | e | e | e | e | e | e <;> rw [e] <;> exact ⟨rfl, rfl⟩
theorem ne_lists {xs ys : List Int} (hx : xs.length < 1000) (hy : ys.length < 1000) : opf2 .ne (.list (xs.map .int)) (.list (ys.map .int)) = some (.bool (!decide (xs = ys))) := by
  show (eqD (.list (xs.map .int)) (.list (ys.map .int))).map (fun b => PyData.bool !b) = _
  have : eqD (.list (xs.map .int)) (.list (ys.map .int)) = some (decide (xs = ys)) := by
    show (if scalD (.list (xs.map .int)) && scalD (.list (ys.map .int)) then _ else if SeqAt.shaped (.list (xs.map .int)) && SeqAt.shaped (.list (ys.map .int)) then some (PyData.eqv (.list (xs.map .int)) (.list (ys.map .int))) else none) = _
    rw [if_neg (by simp [scalD]), (shapedI hx).2, (shapedI hy).2, Bool.and_self, if_pos rfl, eqv_listI]
  rw [this]; rfl
theorem ne_tups {xs ys : List Int} (hx : xs.length < 1000) (hy : ys.length < 1000) : opf2 .ne (intsT xs) (intsT ys) = some (.bool (!decide (xs = ys))) := by
  show (eqD (.tuple (xs.map .int)) (.tuple (ys.map .int))).map (fun b => PyData.bool !b) = _
  have : eqD (.tuple (xs.map .int)) (.tuple (ys.map .int)) = some (decide (xs = ys)) := by
    show (if scalD (.tuple (xs.map .int)) && scalD (.tuple (ys.map .int)) then _ else if SeqAt.shaped (.tuple (xs.map .int)) && SeqAt.shaped (.tuple (ys.map .int)) then some (PyData.eqv (.tuple (xs.map .int)) (.tuple (ys.map .int))) else none) = _
    rw [if_neg (by simp [scalD]), (shapedI hx).1, (shapedI hy).1, Bool.and_self, if_pos rfl]
    congr 1
    have := eqv_listI xs ys
    rw [← this]
    simp only [PyData.eqv]
  rw [this]; rfl
abbrev envFi (k : Int) (ns : List Int) (v2 v3 v4 : Option Val) : Ev := [some (.p (.int k)), some (.p (intsT ns)), v2, v3, v4, none]
theorem part165 {k : Int} {ns p : List Int} {v2 v3 : Option Val} (hp : ∀ x ∈ p, 2 ≤ x ∧ x ≤ 14) (hl : p.length < 900) : evalSs cf ls165_3 (envFi k ns v2 v3 (some (.p (intsT p)))) h = if descB p = true then .ok .nx (envFi k ns v2 v3 (some (.p (intsT p)))) h else .ok (.rt (.p (.bool false))) (envFi k ns v2 v3 (some (.p (intsT p)))) h := by
  have so := o_sortT (xs := p)
  have rv : opf1 .rev (.list ((sortI p).map .int)) = some (.list (((sortI p).reverse).map .int)) := by
    show some (PyData.list ((sortI p).map PyData.int).reverse) = _
    rw [List.map_reverse]
  have nn := ne_lists (xs := p) (ys := (sortI p).reverse) (by omega) (by rw [List.length_reverse, (sortI_perm p).length_eq]; omega)
  have t : evalT cf (envFi k ns v2 v3 (some (.p (intsT p)))) (.or_ (.val (.op2 .ne (.op1 .list (.var 4)) (.op1 .rev (.op1 .sorted (.var 4))))) (.and_ (.val (.var 4)) (.not_ (.val (.and_ (.op2d .le (.lit (.int 2)) (.op1 .min (.var 4))) (.and_ (.op2d .le (.op1 .min (.var 4)) (.op1 .max (.var 4))) (.op2d .le (.op1 .max (.var 4)) (.lit (.int 14))))))))) h = .ok (!descB p) h := by
    have t1 : evalT cf (envFi k ns v2 v3 (some (.p (intsT p)))) (.val (.op2 .ne (.op1 .list (.var 4)) (.op1 .rev (.op1 .sorted (.var 4))))) h = .ok (!descB p) h := by
      simp only [et_val, bor_op2, ev_op2, ev_op1, bor_op1, bor_var, ev_var, slot_0, slot_s, borV_p, ofO_some, R.bind_ok, unP_p, o_lstT, so, rv, Option.map_some, nn, truth_b]
      rfl
    rw [et_or, t1, R.bind_ok]
    cases descB p with
    | false => rfl
    | true =>
      rw [ifK_eq, if_neg (by decide), et_and]
      by_cases pn : p = []
      · subst pn
        simp
      · have mn := o_minT pn
        have mx := o_maxT pn
        have m1 := hp _ (minI_mem pn)
        have m2 := hp _ (maxI_mem pn)
        have m3 := minI_le (maxI_mem pn)
        have tr : truthD (intsT p) = some true := by
          show some (!(p.map PyData.int).isEmpty) = _
          cases p with
          | nil => exact absurd rfl pn
          | cons a r => rfl
        simp only [et_val, et_not, bor_var, ev_var, slot_0, slot_s, borV_p, ofO_some, R.bind_ok, unP_p, tr, ifK_eq, if_true, bor_and, ev_and, ev_op2d, ev_lit, ev_op1, mn, mx, Option.map_some, o_le, decide_eq_true m1.1, decide_eq_true m3, decide_eq_true m2.2, andK_t, truth_b, Bool.not_true]
  unfold ls165_3 s165_3_0
  rw [ss_cons, st_if, t, R.toS_ok]
  cases descB p with
  | false => simp
  | true => simp
theorem fits_eval {k : Int} {ns : List Int} (h0 : 0 ≤ k) (h8 : k ≤ 8) (hr : ∀ x ∈ ns, 2 ≤ x ∧ x ≤ 14) (hl : ns.length < 900) : callF fns (q + 1) 165 [.p (.int k), .p (intsT ns)] h = .ok (.p (.bool (fitsM k ns))) h := by
  rw [call_eq (d := d165) rfl rfl]
  generalize callF fns q = cf
  obtain ⟨z1, z2⟩ := sizes_at h0 h8
  show finF h.length (evalSs cf b165 (envFi k ns none none none) h) = _
  rw [b165_eq]
  unfold ls165
  let Z : Option Val := some (.p (.tuple [.int 5, .int 4, .int 3, .int 3, .int 1, .int 5, .int 2, .int 2, .int 1]))
  have t0 : evalS cf s165_0 (envFi k ns none none none) h = .ok .nx (envFi k ns Z none none) h := by
    simp [s165_0, Z]
  have ln : opf1 .len (intsT ns) = some (.int (ns.length : Int)) := by
    show some (PyData.int ((ns.map PyData.int).length : Int)) = _
    rw [List.length_map]
  have c1 : evalE cf (envFi k ns Z none none) (.comp [5] (.name 5) (.e (.var 1)) [] (.tup [(.var 5), (.lit (.int 0))])) h = .ok (.p (.list (ns.map fun x => PyData.tuple [.int x, .int 0]))) h :=
    comp_all PyData.int _ (by simp) (by omega) fun x hx => ⟨[some (.p (.int k)), some (.p (intsT ns)), Z, none, none, some (.p (.int x))], by simp, by simp⟩
  have ld := len_dictI ns
  have tt : evalT cf (envFi k ns Z none none) (.or_ (.val (.op2 .ne (.op1 .len (.var 1)) (.op2b .ix (.var 2) (.var 0)))) (.val (.op2 .ne (.op1 .lenDict (.comp [5] (.name 5) (.e (.var 1)) [] (.tup [(.var 5), (.lit (.int 0))]))) (.op1 .len (.var 1))))) h = .ok (!(decide (ns.length = lenM k) && decide ((dedup ns).length = ns.length))) h := by
    have d1 : decide ((ns.length : Int) = (lenM k : Int)) = decide (ns.length = lenM k) := decide_eq_decide.mpr (by omega)
    have d2 : decide (((dedup ns).length : Int) = (ns.length : Int)) = decide ((dedup ns).length = ns.length) := decide_eq_decide.mpr (by omega)
    rw [et_or]
    have x1 : evalT cf (envFi k ns Z none none) (.val (.op2 .ne (.op1 .len (.var 1)) (.op2b .ix (.var 2) (.var 0)))) h = .ok (!decide (ns.length = lenM k)) h := by
      simp only [et_val, bor_op2, ev_op2, ev_op1, bor_op1, ev_op2b, bor_op2b, bor_var, ev_var, slot_0, slot_s, borV_p, Z, ofO_some, R.bind_ok, unP_p, ln, z1, Option.map_some, o_neI, d1, truth_b]
    have x2 : evalT cf (envFi k ns Z none none) (.val (.op2 .ne (.op1 .lenDict (.comp [5] (.name 5) (.e (.var 1)) [] (.tup [(.var 5), (.lit (.int 0))]))) (.op1 .len (.var 1)))) h = .ok (!decide ((dedup ns).length = ns.length)) h := by
      rw [et_val, bor_op2, ev_op2, ev_op1, bor_comp, c1]
      simp only [R.bind_ok, unP_p, ld, Option.map_some, ofO_some, bor_op1, ev_op1, bor_var, ev_var, slot_0, slot_s, borV_p, ln, o_neI, d2, truth_b]
    rw [x1, R.bind_ok, ifK_eq]
    cases decide (ns.length = lenM k) with
    | false => rfl
    | true =>
      rw [if_neg (by decide), x2, Bool.true_and]
  have fz : fitsM k ns = (decide (ns.length = lenM k) && decide ((dedup ns).length = ns.length) && (descB (ns.take (fiM k)) && (descB (ns.drop (fiM k)) && (if k = 4 ∨ k = 8 then decide (5 ≤ ns.headD 0) else (!decide (k = 0 ∨ k = 5)) || (!decide (gi ns 0 - gi ns 4 = 4) && !decide (ns = [14, 5, 4, 3, 2])))))) := by
    unfold fitsM; rw [Bool.and_assoc]
  rw [fz, ss_cons, t0, RS.bind_nx, ss_cons]
  cases ec : (decide (ns.length = lenM k) && decide ((dedup ns).length = ns.length)) with
  | false =>
    simp only [s165_1, st_if, tt, ec, Bool.not_false, R.toS_ok, if_true, ss_cons, st_ret, ev_lit, RS.bind_rt, fin_rp, List.take_length, Bool.false_and]
  | true =>
    have t1 : evalS cf s165_1 (envFi k ns Z none none) h = .ok .nx (envFi k ns Z none none) h := by
      simp only [s165_1, st_if, tt, ec, Bool.not_true, R.toS_ok, Bool.false_eq_true, if_false, ss_nil]
    rw [Bool.and_eq_true, decide_eq_true_iff, decide_eq_true_iff] at ec
    let Fi : Option Val := some (.p (.int (fiM k : Int)))
    have t2 : evalS cf s165_2 (envFi k ns Z none none) h = .ok .nx (envFi k ns Z Fi none) h := by
      unfold s165_2
      simp only [st_set, ev_op2b, bor_tup, ev_tup, eps_cons, eps_nil, ev_lit, R.bind_ok, unP_p, ev_var, slot_0, slot_s, ofO_some, z2, Option.map_some, R.toS_ok, setSlot_0, setSlot_s, Fi]
    rw [t1, RS.bind_nx, ss_cons, t2, RS.bind_nx, ss_cons, Bool.true_and]
    have sa : opf3 (.slice false true) (intsT ns) .none (.int (fiM k : Int)) = some (intsT (ns.take (fiM k))) := by
      rw [slice_T (lo := none) (hi := some (fiM k : Int)) rfl rfl, cut_lo]
    have sb : opf3 (.slice true false) (intsT ns) (.int (fiM k : Int)) .none = some (intsT (ns.drop (fiM k))) := by
      rw [slice_T (lo := some (fiM k : Int)) (hi := none) rfl rfl, cut_from]
    have p1 : ∀ v4 : Option Val, evalSs cf ls165_3 (envFi k ns Z Fi (some (.p (intsT (ns.take (fiM k)))))) h = _ := fun _ => part165 (fun x hx => hr x (List.mem_of_mem_take hx)) (by rw [List.length_take]; omega)
    have p2 : ∀ v4 : Option Val, evalSs cf ls165_3 (envFi k ns Z Fi (some (.p (intsT (ns.drop (fiM k)))))) h = _ := fun _ => part165 (fun x hx => hr x (List.mem_of_mem_drop hx)) (by rw [List.length_drop]; omega)
    have t3 : evalS cf s165_3 (envFi k ns Z Fi none) h = if (descB (ns.take (fiM k)) && descB (ns.drop (fiM k))) = true then .ok .nx (envFi k ns Z Fi (some (.p (intsT (ns.drop (fiM k)))))) h else .ok (.rt (.p (.bool false))) (envFi k ns Z Fi (some (.p (intsT (if descB (ns.take (fiM k)) = true then ns.drop (fiM k) else ns.take (fiM k)))))) h := by
      unfold s165_3
      rw [st_for]
      simp only [es_e, ev_tup, eps_cons, eps_nil, ev_op3b, bor_var, ev_var, ev_lit, slot_0, slot_s, borV_p, Fi, ofO_some, R.bind_ok, unP_p, sa, sb, Option.map_some, items_T, R.toS_ok]
      have b1 : ∀ (p : List Int) (v4 : Option Val), bindT (.name 4) (intsT p) (envFi k ns Z (some (.p (.int (fiM k : Int)))) v4) = some (envFi k ns Z (some (.p (.int (fiM k : Int)))) (some (.p (intsT p)))) := fun p v4 => by simp
      unfold forL
      rw [b1]
      simp only
      rw [p1 none]
      cases descB (ns.take (fiM k)) with
      | false => simp [Fi]
      | true =>
        simp only [if_true]
        unfold forL
        rw [b1]
        simp only
        rw [p2 none]
        cases descB (ns.drop (fiM k)) with
        | false => simp [Fi]
        | true => simp [forL, Fi]
    rw [t3]
    cases ed : (descB (ns.take (fiM k)) && descB (ns.drop (fiM k))) with
    | false =>
      rw [if_neg (by decide), RS.bind_rt, fin_rp, List.take_length, ← Bool.and_assoc, ed, Bool.false_and]
    | true =>
      rw [if_pos rfl, RS.bind_nx, ← Bool.and_assoc, ed, Bool.true_and, ss_cons]
      have i4 := in48 k
      have i0 := in05 k
      by_cases c48 : k = 4 ∨ k = 8
      · rw [if_pos c48]
        rw [decide_eq_true c48] at i4
        have l1 : ns.length = 1 := by
          rw [ec.1]; unfold lenM; rw [if_neg (by omega), if_pos c48]
        obtain ⟨x, rfl⟩ := List.length_eq_one_iff.mp l1
        simp only [s165_4, st_if, et_val, bor_op2, ev_op2, ev_var, slot_0, slot_s, ofO_some, R.bind_ok, unP_p, bor_tup, ev_tup, eps_cons, eps_nil, ev_lit, i4, Option.map_some, truth_b, R.toS_ok, if_true, ss_cons, st_ret, ev_op2b, bor_var, borV_p, List.map_cons, List.map_nil, o_ixT, atI_c0, bor_lit, o_ge, RS.bind_rt, fin_rp, List.take_length, List.headD_cons]
        rfl
      · rw [if_neg c48]
        rw [decide_eq_false c48] at i4
        have t4 : evalS cf s165_4 (envFi k ns Z Fi (some (.p (intsT (ns.drop (fiM k)))))) h = .ok .nx (envFi k ns Z Fi (some (.p (intsT (ns.drop (fiM k)))))) h := by
          simp only [s165_4, st_if, et_val, bor_op2, ev_op2, ev_var, slot_0, slot_s, ofO_some, R.bind_ok, unP_p, bor_tup, ev_tup, eps_cons, eps_nil, ev_lit, i4, Option.map_some, truth_b, R.toS_ok, Bool.false_eq_true, if_false, ss_nil]
        rw [t4, RS.bind_nx, ss_cons]
        have n0 : opf2 .notIn (.int k) (.tuple [.int 0, .int 5]) = some (.bool (!decide (k = 0 ∨ k = 5))) := by
          have := o_notInI k [0, 5]
          rw [show (!decide (k ∈ ([0, 5] : List Int))) = !decide (k = 0 ∨ k = 5) by congr 1; exact decide_eq_decide.mpr (by simp)] at this
          exact this
        by_cases c05 : k = 0 ∨ k = 5
        · rw [decide_eq_true c05] at n0
          rw [decide_eq_true c05]
          have l5 : ns.length = 5 := by
            rw [ec.1]; unfold lenM; rw [if_pos c05]
          match ns, l5 with
          | [a, b, c, d, e], _ =>
            have a0 : atI [PyData.int a, .int b, .int c, .int d, .int e] 0 = some (.int a) := rfl
            have a4 : atI [PyData.int a, .int b, .int c, .int d, .int e] 4 = some (.int e) := rfl
            have nn := ne_tups (xs := [a, b, c, d, e]) (ys := [14, 5, 4, 3, 2]) (by simp) (by simp)
            have nn' : opf2 .ne (.tuple [.int a, .int b, .int c, .int d, .int e]) (.tuple [.int 14, .int 5, .int 4, .int 3, .int 2]) = _ := nn
            have g0 : gi [a, b, c, d, e] 0 = a := rfl
            have g4 : gi [a, b, c, d, e] 4 = e := rfl
            rw [g0, g4]
            simp only [s165_5, st_ret, ev_or, ev_op2, ev_var, slot_0, slot_s, ofO_some, R.bind_ok, unP_p, bor_tup, ev_tup, eps_cons, eps_nil, ev_lit, n0, Option.map_some, Bool.not_true, orK_t, Bool.false_eq_true, if_false, ev_and, ev_op2d, ev_op2b, bor_var, borV_p, List.map_cons, List.map_nil, o_ixT, a0, a4, o_sub, bor_lit, o_neI, andK_t, ev_op1, o_tupT, nn', Bool.false_or]
            by_cases c : a - e = 4
            · simp [c]
            · simp [c]
        · rw [decide_eq_false c05] at n0
          rw [decide_eq_false c05]
          simp only [s165_5, st_ret, ev_or, ev_op2, ev_var, slot_0, slot_s, ofO_some, R.bind_ok, unP_p, bor_tup, ev_tup, eps_cons, eps_nil, ev_lit, n0, Option.map_some, Bool.not_false, orK_t, if_true, R.toS_ok, RS.bind_rt, fin_rp, List.take_length, Bool.true_or]
end
end Cd
set_option Elab.async false
set_option linter.all false
set_option maxRecDepth 100000
set_option maxHeartbeats 4000000
namespace Cd
open PySem L2
end Cd
set_option Elab.async false
set_option linter.all false
set_option maxRecDepth 100000
set_option maxHeartbeats 4000000
namespace Cd
open PySem L2
section
variable {fns : Nat → Option FnD} {h : Hi} {cf : Calls} {q : Nat}
end
end Cd
set_option Elab.async false
set_option linter.all false
set_option maxRecDepth 100000
set_option maxHeartbeats 4000000
namespace Cd
open PySem L2
structure Whole (cs : List Card) : Prop where
  nd : cs.Nodup
  mem : ∀ c ∈ cs, c.1 ∈ every ∧ c.2 ∈ suitsL
theorem every_rng14 : ∀ r ∈ every, 2 ≤ r ∧ r ≤ 14 := by decide
theorem len_sub {α : Type} [DecidableEq α] : ∀ (xs ys : List α), xs.Nodup → (∀ x ∈ xs, x ∈ ys) → xs.length ≤ ys.length
  | [], ys, _, _ => Nat.zero_le _
  | x :: xs, ys, h, hs => by
    obtain ⟨h1, h2⟩ := List.nodup_cons.mp h
    have hx := hs x List.mem_cons_self
    have := len_sub xs (ys.erase x) h2 fun z hz => (List.mem_erase_of_ne (fun e => h1 (by rw [← e]; exact hz))).mpr (hs z (List.mem_cons_of_mem _ hz))
    rw [List.length_erase_of_mem hx] at this
    have p : 0 < ys.length := List.length_pos_of_mem hx
    rw [List.length_cons]; omega
theorem Whole.fit {cs : List Card} (w : Whole cs) : Fit cs := by
  refine ⟨fun r => ?_, fun c hc => every_rng14 _ (w.mem c hc).1⟩
  have e : (cs.map (·.1)).count r = ((cs.filter fun c => decide (c.1 = r)).map (·.2)).length := by
    rw [List.length_map, List.count_eq_length_filter, List.filter_map, List.length_map]
    congr 1
  rw [e]
  refine len_sub _ suitsL ?_ fun z hz => ?_
  · unfold List.Nodup
    rw [List.pairwise_map]
    refine List.Pairwise.imp_of_mem ?_ (w.nd.filter _)
    intro a b ha hb hn e
    have h1 := of_decide_eq_true (List.mem_filter.mp ha).2
    have h2 := of_decide_eq_true (List.mem_filter.mp hb).2
    exact hn (Prod.ext (h1.trans h2.symm) e)
  · obtain ⟨c, hc, rfl⟩ := List.mem_map.mp hz
    exact (w.mem c (List.mem_filter.mp hc).1).2
theorem Whole.sub {cs ds : List Card} (w : Whole cs) (s : ds.Sublist cs) : Whole ds := ⟨w.nd.sublist s, fun c hc => w.mem c (s.subset hc)⟩
theorem Whole.perm {cs ds : List Card} (w : Whole cs) (p : ds.Perm cs) : Whole ds := ⟨p.nodup_iff.mpr w.nd, fun c hc => w.mem c (p.mem_iff.mp hc)⟩
section
variable {fns : Nat → Option FnD} {h : Hi} {cf : Calls} {q k n m : Nat} {env : Ev}
/-- a deal, told by what is asked of it -/
structure DealW (cs more : List Card) (s b st : Nat) : Prop where
  len : cs.length = 2 * s + b
  len2 : more.length = st
  whole : Whole (cs ++ more)
end
end Cd
set_option Elab.async false
set_option linter.all false
set_option maxRecDepth 100000
set_option maxHeartbeats 4000000
namespace Cd
open PySem L2
section
variable {cs more : List Card} {s b st : Nat}
theorem DealW.bl (D : DealW cs more s b st) : (cs.drop (2 * s)).length = b := by
  have := D.len
  rw [List.length_drop]; omega
theorem DealW.sub (D : DealW cs more s b st) {x t : List Card} (hx : x ∈ holesM cs s) (ht : t.Sublist more) : (x ++ (cs.drop (2 * s) ++ t)).Sublist (cs ++ more) := by
  obtain ⟨a, ha, rfl⟩ := List.mem_map.mp hx
  have ha := List.mem_range.mp ha
  rw [← List.append_assoc]
  refine List.Sublist.append ?_ ht
  have e : cs.drop (2 * s) = (cs.drop (2 * a + 2)).drop (2 * s - (2 * a + 2)) := by rw [List.drop_drop]; congr 1; omega
  exact (seg_app (by omega) (by rw [e]; exact List.drop_sublist _ _)).trans (List.drop_sublist _ _)
theorem DealW.two (D : DealW cs more s b st) {t : List Card} (ht : t.Sublist more) : Fit (t ++ cs.drop (2 * s)) := by
  have h : (cs.drop (2 * s) ++ t).Sublist (cs ++ more) := List.Sublist.append (List.drop_sublist _ _) ht
  exact ((D.whole.sub h).perm List.perm_append_comm).fit
end
section
variable {fns : Nat → Option FnD} {h : Hi} {cf : Calls} {q k n m : Nat} {env : Ev}
@[simp] theorem ev_freeze {i : Nat} : evalE cf env (.freeze i) h = freezeK env i h := id rfl
end
end Cd
set_option Elab.async false
set_option linter.all false
set_option maxRecDepth 100000
set_option maxHeartbeats 4000000
namespace Cd
open PySem L2
section
variable {h : Hi} {cf : Calls} {q k t : Nat}
structure Bd19 (d : PyData) : Prop where
  no : isrB d = false
  few : ∀ k ts, d = .tuple [.int k, .tuple ts] → ts.length < 900
  rp : ∃ x, opf1 .repr d = some (.str x)
theorem bd_of {d : PyData} (no : isrB d = false) (few : ∀ k ts, d = .tuple [.int k, .tuple ts] → ts.length < 900) (R : Rp1 d 4 900) (hs : d.isSeqD = true) : Bd19 d := ⟨no, few, _, repr_ok hs (R.mono (by omega) (by omega))⟩
/-- items of what is bent -/
def It (d : PyData) : Prop := Rp1 d 2 20
theorem it_int {i : Int} (hi : i.natAbs < 1000) : It (.int i) := (rp_int 2 hi).mono (Nat.le_refl _) (by omega)
theorem rp_seq {xs : List PyData} (h : ∀ x ∈ xs, It x) (hl : xs.length ≤ 7) : Rp1 (.tuple xs) 3 160 := (rp_tup h).mono (Nat.le_refl _) (by omega)
theorem rp_seqL {xs : List PyData} (h : ∀ x ∈ xs, It x) (hl : xs.length ≤ 7) : Rp1 (.list xs) 3 160 := (rp_list h).mono (Nat.le_refl _) (by omega)
theorem rp_out {xs : List PyData} (h : ∀ x ∈ xs, Rp1 x 3 160) (hl : xs.length ≤ 3) : Rp1 (.tuple xs) 4 900 := (rp_tup h).mono (Nat.le_refl _) (by omega)
theorem rp_outL {xs : List PyData} (h : ∀ x ∈ xs, Rp1 x 3 160) (hl : xs.length ≤ 3) : Rp1 (.list xs) 4 900 := (rp_list h).mono (Nat.le_refl _) (by omega)
/-- a pair of a kind and items that is no rank -/
theorem bd_pair {a : PyData} {ts : List PyData} (ha : Rp1 a 3 160) (ht : ∀ x ∈ ts, It x) (hl : ts.length ≤ 7) (no : isrB (.tuple [a, .tuple ts]) = false) : Bd19 (.tuple [a, .tuple ts]) := by
  refine bd_of no (fun k us e => ?_) (rp_out (fun x hx => ?_) (by simp)) rfl
  · simp only [PyData.tuple.injEq, List.cons.injEq, and_true] at e
    rw [← e.2]; omega
  · simp only [List.mem_cons, List.not_mem_nil, or_false] at hx
    rcases hx with rfl | rfl
    · exact ha
    · exact rp_seq ht hl
theorem isr_len {k : Int} {ns : List Int} (hl : ns.length ≠ lenM k) : isrB (.tuple [.int k, intsT ns]) = false := by
  show (decide (0 ≤ k ∧ k ≤ 8) && (match intsD (ns.map .int) with | some ns => vldB (k, ns) | none => false)) = false
  rw [intsD_map]
  have : vldB (k, ns) = false := by
    rw [← Bool.not_eq_true]
    exact fun z => hl (vld_len z)
  simp only [this, Bool.and_false]
theorem isr_odd {k : Int} {ts : List PyData} {d : PyData} (hd : d ∈ ts) (hn : ∀ i : Int, d = .int i → ¬ (2 ≤ i ∧ i ≤ 14)) : isrB (.tuple [.int k, .tuple ts]) = false := by
  show (decide (0 ≤ k ∧ k ≤ 8) && (match intsD ts with | some ns => vldB (k, ns) | none => false)) = false
  cases e : intsD ts with
  | none => simp only [Bool.and_false]
  | some ns =>
    have := intsD_some e
    subst this
    obtain ⟨i, hi, rfl⟩ := List.mem_map.mp hd
    have : vldB (k, ns) = false := by
      rw [← Bool.not_eq_true]
      exact fun z => hn i rfl (vld_rng z i hi)
    simp only [this, Bool.and_false]
theorem cut_tail {α : Type} (xs : List α) (h : 1 ≤ xs.length) : cutM xs (some (-1)) none = xs.drop (xs.length - 1) := by
  unfold cutM
  have e : HT.sIx xs.length 0 (some (-1)) = xs.length - 1 := by
    show (if (-1 : Int) < 0 then (-1 + (xs.length : Int)).toNat else min (-1 : Int).toNat xs.length) = _
    rw [if_pos (by decide)]
    omega
  rw [e, HT.sIx_none]
  exact List.take_of_length_le (by rw [List.length_drop]; exact Nat.le_refl _)
theorem str_small {k : Int} (h0 : 0 ≤ k) (h8 : k ≤ 8) : opf1 .strI (.int k) = some (.str (toString k)) ∧ PyData.canLay0 (.str (toString k : Str)) = true ∧ (toString k : Str).cps.size ≤ 10 := by
  have : k = 0 ∨ k = 1 ∨ k = 2 ∨ k = 3 ∨ k = 4 ∨ k = 5 ∨ k = 6 ∨ k = 7 ∨ k = 8 := by omega
  rcases this with e | e | e | e | e | e | e | e | e <;> rw [e] <;> exact ⟨rfl, by decide +kernel, by decide +kernel⟩
abbrev envB (r : Rank) (v1 v2 v3 v4 v5 : Option Val) : Ev := [some (.p (rankD r)), v1, v2, v3, v4, v5]
abbrev bads : List PyData := [.int 1, .int 15, .bool true, .tuple [.int 5]]
theorem bad_it : ∀ b ∈ bads, It b ∧ ∀ i : Int, b = .int i → ¬ (2 ≤ i ∧ i ≤ 14) := fun b hb => by
  simp only [bads, List.mem_cons, List.not_mem_nil, or_false] at hb
  rcases hb with rfl | rfl | rfl | rfl
  · exact ⟨it_int (by decide), fun i e => by cases e; omega⟩
  · exact ⟨it_int (by decide), fun i e => by cases e; omega⟩
  · exact ⟨(rp_bool true 2).mono (Nat.le_refl _) (by omega), fun i e => by cases e⟩
  · refine ⟨(rp_tup (n := 1) (w := 10) fun x hx => ?_).mono (Nat.le_refl _) (by simp), fun i e => by cases e⟩
    simp only [List.mem_cons, List.not_mem_nil, or_false] at hx
    rw [hx]; exact rp_int 1 (by decide)
theorem bent_eval {r : Rank} (f : Frm r) (hv : vldB r = true) : ∃ L : List PyData, (∀ d ∈ L, Bd19 d) ∧ L.length ≤ 100 ∧ callF fns (q + 1) 166 [.p (rankD r)] h = .ok (.p (.list L)) h := by
  obtain ⟨k, ns⟩ := r
  have h0 : 0 ≤ k := f.lo
  have h8 : k ≤ 8 := f.hi
  have rng : ∀ x ∈ ns, 2 ≤ x ∧ x ≤ 14 := f.rng
  have nl : ns.length = lenM k := f.len
  have l5 : ns.length ≤ 5 := by rw [nl]; exact lenM_le k
  have l1 : 1 ≤ ns.length := by
    rw [nl]; unfold lenM frM moM
    split
    · omega
    · split
      · omega
      · split <;> split <;> (try split) <;> omega
  obtain ⟨sk, sk2, sk3⟩ := str_small h0 h8
  rw [call_eq (d := d166) rfl rfl]
  generalize callF fns q = cf
  let K : PyData := .int k
  let N : PyData := intsT ns
  let K1 : Option Val := some (.p K)
  let N2 : Option Val := some (.p N)
  let R3 : Option Val := some (.ref h.length)
  let L1 : List PyData := [.tuple [K], .tuple [K, N, .int 1], .list [K, N], .tuple [K, .list (ns.map .int)], .tuple [.bool true, N], .tuple [.int 9, N], .tuple [.int (-1), N]]
  let L2 : List PyData := [.tuple [K, intsT (ns ++ ns.drop (ns.length - 1))], .tuple [K, intsT ns.dropLast], .tuple [.str (toString k), N], .tuple [K, .tuple []], .none, .tuple []]
  have t0 : evalS cf s166_0 (envB (k, ns) none none none none none) h = .ok .nx (envB (k, ns) K1 N2 none none none) h := by
    simp [s166_0, rankD, K1, N2, K, N]
  have t1 : evalS cf s166_1 (envB (k, ns) K1 N2 none none none) h = .ok .nx (envB (k, ns) K1 N2 R3 none none) (h ++ [.lst L1]) := by
    unfold s166_1
    simp only [st_set, ev_mk, ev_lst, ev_tup, eps_cons, eps_nil, ev_op1, bor_var, bor_lit, ev_var, ev_lit, slot_0, slot_s, K1, N2, borV_p, ofO_some, R.bind_ok, unP_p, o_lstT, o_neg, Option.map_some, mkK, R.toS_ok, setSlot_0, setSlot_s]
    rfl
  have sa : opf3 (.slice true false) N (.int (-1)) .none = some (intsT (ns.drop (ns.length - 1))) := by
    rw [slice_T (lo := some (-1)) (hi := none) rfl rfl, cut_tail ns l1]
  have sb : opf3 (.slice false true) N .none (.int (-1)) = some (intsT ns.dropLast) := by
    rw [slice_T (lo := none) (hi := some (-1)) rfl rfl, cut_last]
  have ad : opf2 .add N (intsT (ns.drop (ns.length - 1))) = some (intsT (ns ++ ns.drop (ns.length - 1))) := by
    show opf2 .add (.tuple (ns.map .int)) (.tuple ((ns.drop (ns.length - 1)).map .int)) = _
    rw [addT_ok (by rw [List.length_map, List.length_map, List.length_drop]; omega), ← List.map_append]
  have t2 : evalS cf s166_2 (envB (k, ns) K1 N2 R3 none none) (h ++ [.lst L1]) = .ok .nx (envB (k, ns) K1 N2 R3 none none) (h ++ [.lst (L1 ++ L2)]) := by
    have ex : extH (envB (k, ns) K1 N2 R3 none none) (.var 3) (.list L2) (h ++ [.lst L1]) = some (h ++ [.lst (L1 ++ L2)]) := by
      unfold extH
      simp only [listD, Option.bind_some, getL_var, slot_0, slot_s, R3, refOf_r, listAt_app]
      rw [if_pos (sz_ok (by simp [L1, L2]))]
      unfold storeL
      simp only [slotRef_eq, slot_0, slot_s, refOf_r, Option.map_some, set_app]
    unfold s166_2
    have e1 : evalE cf (envB (k, ns) K1 N2 R3 none none) (.lst [(.tup [(.var 1), (.op2d .add (.var 2) (.op3b (.slice true false) (.var 2) (.op1 .neg (.lit (.int 1))) (.lit .none)))]), (.tup [(.var 1), (.op3b (.slice false true) (.var 2) (.lit .none) (.op1 .neg (.lit (.int 1))))]), (.tup [(.op1 .strI (.var 1)), (.var 2)]), (.tup [(.var 1), (.tup [])]), (.lit .none), (.tup [])]) (h ++ [.lst L1]) = .ok (.p (.list L2)) (h ++ [.lst L1]) := by
      simp only [ev_lst, ev_tup, eps_cons, eps_nil, ev_op2d, ev_op3b, ev_op1, bor_var, bor_lit, ev_var, ev_lit, slot_0, slot_s, K1, N2, borV_p, ofO_some, R.bind_ok, unP_p, o_neg, Option.map_some, sa, sb, ad, K, sk]
      rfl
    rw [st_ext]
    simp only [getL_var, slot_0, slot_s, R3, refOf_r, Option.bind_some, listAt_app]
    change ((evalE cf (envB (k, ns) K1 N2 R3 none none) _ _).bind unP).toS _ _ = _
    rw [e1, R.bind_ok, unP_p, R.toS_ok, ex, ofH_some]
  have good : ∀ d ∈ L1 ++ L2, Bd19 d := fun d hd => by
    have iK : Rp1 K 3 160 := (rp_int 3 (by omega)).mono (Nat.le_refl _) (by omega)
    have iN : ∀ x ∈ ns.map PyData.int, It x := fun x hx => by
      obtain ⟨i, hi, rfl⟩ := List.mem_map.mp hx
      have := rng i hi
      exact it_int (by omega)
    have rN : Rp1 N 3 160 := rp_seq iN (by rw [List.length_map]; omega)
    rcases List.mem_append.mp hd with hd | hd
    · simp only [L1, List.mem_cons, List.not_mem_nil, or_false] at hd
      rcases hd with rfl | rfl | rfl | rfl | rfl | rfl | rfl
      · refine bd_of rfl (fun _ _ e => by simp at e) (rp_out (fun x hx => ?_) (by simp)) rfl
        simp only [List.mem_cons, List.not_mem_nil, or_false] at hx
        rw [hx]; exact iK
      · refine bd_of rfl (fun _ _ e => by simp at e) (rp_out (fun x hx => ?_) (by simp)) rfl
        simp only [List.mem_cons, List.not_mem_nil, or_false] at hx
        rcases hx with rfl | rfl | rfl
        · exact iK
        · exact rN
        · exact (rp_int 3 (by decide)).mono (Nat.le_refl _) (by omega)
      · refine bd_of rfl (fun _ _ e => by simp at e) (rp_outL (fun x hx => ?_) (by simp)) rfl
        simp only [List.mem_cons, List.not_mem_nil, or_false] at hx
        rcases hx with rfl | rfl
        · exact iK
        · exact rN
      · refine bd_of rfl (fun _ _ e => by simp at e) (rp_out (fun x hx => ?_) (by simp)) rfl
        simp only [List.mem_cons, List.not_mem_nil, or_false] at hx
        rcases hx with rfl | rfl
        · exact iK
        · exact rp_seqL iN (by rw [List.length_map]; omega)
      · exact bd_pair ((rp_bool true 3).mono (Nat.le_refl _) (by omega)) iN (by rw [List.length_map]; omega) rfl
      · refine bd_pair ((rp_int 3 (by decide)).mono (Nat.le_refl _) (by omega)) iN (by rw [List.length_map]; omega) ?_
        show (decide ((0 : Int) ≤ 9 ∧ (9 : Int) ≤ 8) && (match intsD (ns.map .int) with | some ns => vldB (9, ns) | none => false)) = false
        rw [decide_eq_false (by omega), Bool.false_and]
      · refine bd_pair ((rp_int 3 (by decide)).mono (Nat.le_refl _) (by omega)) iN (by rw [List.length_map]; omega) ?_
        show (decide ((0 : Int) ≤ -1 ∧ (-1 : Int) ≤ 8) && (match intsD (ns.map .int) with | some ns => vldB (-1, ns) | none => false)) = false
        rw [decide_eq_false (by omega), Bool.false_and]
    · simp only [L2, List.mem_cons, List.not_mem_nil, or_false] at hd
      rcases hd with rfl | rfl | rfl | rfl | rfl | rfl
      · refine bd_pair iK (fun x hx => ?_) (by rw [List.length_map, List.length_append, List.length_drop]; omega) (isr_len (by rw [List.length_append, List.length_drop]; omega))
        rw [List.map_append] at hx
        rcases List.mem_append.mp hx with hx | hx
        · exact iN x hx
        · rw [List.map_drop] at hx
          exact iN x (List.mem_of_mem_drop hx)
      · refine bd_pair iK (fun x hx => ?_) (by rw [List.length_map, List.length_dropLast]; omega) (isr_len (by rw [List.length_dropLast]; omega))
        rw [List.map_dropLast] at hx
        exact iN x (List.dropLast_subset _ hx)
      · exact bd_pair ((rp_strC 3 sk2 sk3).mono (Nat.le_refl _) (by omega)) iN (by rw [List.length_map]; omega) rfl
      · exact bd_pair iK (fun x hx => by cases hx) (by simp) (isr_len (k := k) (ns := []) (by show 0 ≠ lenM k; omega))
      · exact ⟨rfl, (fun _ _ e => by simp at e), _, repr_none⟩
      · exact bd_of rfl (fun _ _ e => by simp at e) (rp_out (fun x hx => by cases hx) (by simp)) rfl
  have iK : Rp1 K 3 160 := (rp_int 3 (by omega)).mono (Nat.le_refl _) (by omega)
  have iN : ∀ x ∈ ns.map PyData.int, It x := fun x hx => by
    obtain ⟨i, hi, rfl⟩ := List.mem_map.mp hx
    have := rng i hi
    exact it_int (by omega)
  -- the inner loop
  have inner : ∀ (a : Nat), a < ns.length → ∀ (bs : List PyData) (L : List PyData) (v5 : Option Val), (∀ b ∈ bs, b ∈ bads) → (∀ d ∈ L, Bd19 d) → L.length + bs.length < 100 →
      ∃ L' w5, (∀ d ∈ L', Bd19 d) ∧ L'.length = L.length + bs.length ∧ forL (evalSs cf ls166_3_0) (bindT (.name 5)) bs (envB (k, ns) K1 N2 R3 (some (.p (.int (a : Int)))) v5) (h ++ [.lst L]) = .ok .nx (envB (k, ns) K1 N2 R3 (some (.p (.int (a : Int)))) w5) (h ++ [.lst L']) := by
    intro a ha bs
    induction bs with
    | nil => exact fun L v5 _ g _ => ⟨L, v5, g, rfl, rfl⟩
    | cons b bs ih =>
      intro L v5 hb g hl
      rw [List.length_cons] at hl
      obtain ⟨ib, nb⟩ := bad_it b (hb b List.mem_cons_self)
      let nd : PyData := .tuple [K, .tuple ((ns.map PyData.int).take a ++ [b] ++ (ns.map PyData.int).drop (a + 1))]
      have bd : Bd19 nd := by
        refine bd_pair iK (fun x hx => ?_) ?_ (isr_odd (d := b) (by simp) nb)
        · rcases List.mem_append.mp hx with hx | hx
          · rcases List.mem_append.mp hx with hx | hx
            · exact iN x (List.mem_of_mem_take hx)
            · rw [List.mem_singleton.mp hx]; exact ib
          · exact iN x (List.mem_of_mem_drop hx)
        · rw [List.length_append, List.length_append, List.length_take, List.length_drop, List.length_map, List.length_singleton]; omega
      obtain ⟨L', w5, g', l', e⟩ := ih (L ++ [nd]) (some (.p b)) (fun x hx => hb x (List.mem_cons_of_mem _ hx)) (fun d hd => by
        rcases List.mem_append.mp hd with hd | hd
        · exact g d hd
        · rw [List.mem_singleton.mp hd]; exact bd) (by rw [List.length_append, List.length_singleton]; omega)
      refine ⟨L', w5, g', by rw [l', List.length_append, List.length_singleton, List.length_cons]; omega, ?_⟩
      unfold forL
      have eb : bindT (.name 5) b (envB (k, ns) K1 N2 R3 (some (.p (.int (a : Int)))) v5) = some (envB (k, ns) K1 N2 R3 (some (.p (.int (a : Int)))) (some (.p b))) := by simp
      rw [eb]
      have s1 := sl_to (ns.map PyData.int) a
      have s2 := sl_from (ns.map PyData.int) (a + 1)
      have a1 : opf2 .add (.tuple ((ns.map PyData.int).take a)) (.tuple [b]) = some (.tuple ((ns.map PyData.int).take a ++ [b])) := addT_ok (by rw [List.length_take, List.length_map]; simp; omega)
      have a2 : opf2 .add (.tuple ((ns.map PyData.int).take a ++ [b])) (.tuple ((ns.map PyData.int).drop (a + 1))) = some (.tuple ((ns.map PyData.int).take a ++ [b] ++ (ns.map PyData.int).drop (a + 1))) := addT_ok (by rw [List.length_append, List.length_take, List.length_drop, List.length_map, List.length_singleton]; omega)
      have ap : appH (envB (k, ns) K1 N2 R3 (some (.p (.int (a : Int)))) (some (.p b))) (.var 3) nd (h ++ [.lst L]) = some (h ++ [.lst (L ++ [nd])]) := by
        rw [appH_var, getL_var]
        simp only [slot_0, slot_s, R3, refOf_r, Option.bind_some, listAt_app]
        rw [if_pos (by have := size1000; omega)]
        simp only [Option.map_some, set_app]
      have st : evalSs cf ls166_3_0 (envB (k, ns) K1 N2 R3 (some (.p (.int (a : Int)))) (some (.p b))) (h ++ [.lst L]) = .ok .nx (envB (k, ns) K1 N2 R3 (some (.p (.int (a : Int)))) (some (.p b))) (h ++ [.lst (L ++ [nd])]) := by
        have e1 : evalE cf (envB (k, ns) K1 N2 R3 (some (.p (.int (a : Int)))) (some (.p b))) (.tup [(.var 1), (.op2d .add (.op2d .add (.op3b (.slice false true) (.var 2) (.lit .none) (.var 4)) (.tup [(.var 5)])) (.op3b (.slice true false) (.var 2) (.op2d .addI (.var 4) (.lit (.int 1))) (.lit .none)))]) (h ++ [.lst L]) = .ok (.p nd) (h ++ [.lst L]) := by
          have s2' : opf3 (.slice true false) (.tuple (ns.map PyData.int)) (.int ((a : Int) + 1)) .none = some (.tuple ((ns.map PyData.int).drop (a + 1))) := s2
          simp only [ev_tup, eps_cons, eps_nil, ev_op2d, ev_op3b, bor_var, ev_var, ev_lit, slot_0, slot_s, K1, N2, N, borV_p, ofO_some, R.bind_ok, unP_p, s1, o_addI, s2', Option.map_some, a1, a2]
          rfl
        unfold ls166_3_0 s166_3_0_0
        rw [ss_cons, st_app]
        simp only [getL_var, slot_0, slot_s, R3, refOf_r, Option.bind_some, listAt_app]
        change ((((evalE cf (envB (k, ns) K1 N2 R3 (some (.p (.int (a : Int)))) (some (.p b))) _ _).bind unP).toS _ _).bind _) = _
        rw [e1, R.bind_ok, unP_p, R.toS_ok, ap, ofH_some, RS.bind_nx, ss_nil]
      simp only [st]
      exact e
  have outer : ∀ (as : List Nat) (L : List PyData) (v4 v5 : Option Val), (∀ a ∈ as, a < ns.length) → (∀ d ∈ L, Bd19 d) → L.length + 4 * as.length < 90 →
      ∃ L' w4 w5, (∀ d ∈ L', Bd19 d) ∧ L'.length = L.length + 4 * as.length ∧ forL (evalSs cf ls166_3) (bindT (.name 4)) (as.map natD) (envB (k, ns) K1 N2 R3 v4 v5) (h ++ [.lst L]) = .ok .nx (envB (k, ns) K1 N2 R3 w4 w5) (h ++ [.lst L']) := by
    intro as
    induction as with
    | nil => exact fun L v4 v5 _ g _ => ⟨L, v4, v5, g, rfl, rfl⟩
    | cons a as ih =>
      intro L v4 v5 ha g hl
      rw [List.length_cons] at hl
      obtain ⟨L1', w5, g1, l1', e1⟩ := inner a (ha a List.mem_cons_self) bads L v5 (fun b hb => hb) g (by show L.length + 4 < 100; omega)
      have l1'' : L1'.length = L.length + 4 := l1'
      obtain ⟨L', w4, w5', g', l', e⟩ := ih L1' (some (.p (natD a))) w5 (fun x hx => ha x (List.mem_cons_of_mem _ hx)) g1 (by omega)
      refine ⟨L', w4, w5', g', by rw [l', l1'', List.length_cons]; omega, ?_⟩
      rw [List.map_cons]
      unfold forL
      have eb : bindT (.name 4) (natD a) (envB (k, ns) K1 N2 R3 v4 v5) = some (envB (k, ns) K1 N2 R3 (some (.p (.int (a : Int)))) v5) := by simp
      rw [eb]
      have st : evalSs cf ls166_3 (envB (k, ns) K1 N2 R3 (some (.p (.int (a : Int)))) v5) (h ++ [.lst L]) = .ok .nx (envB (k, ns) K1 N2 R3 (some (.p (.int (a : Int)))) w5) (h ++ [.lst L1']) := by
        unfold ls166_3 s166_3_0
        rw [ss_cons, st_for]
        simp only [es_e, ev_tup, eps_cons, eps_nil, ev_lit, R.bind_ok, unP_p, items_T, ofO_some, R.toS_ok]
        change (forL (evalSs cf ls166_3_0) (bindT (.name 5)) bads _ _).bind _ = _
        rw [e1, RS.bind_nx, ss_nil]
      simp only [st]
      exact e
  obtain ⟨L', w4, w5, g', l', e3⟩ := outer (List.range ns.length) (L1 ++ L2) none none (fun a ha => List.mem_range.mp ha) good (by rw [List.length_range]; show 13 + _ < 90; omega)
  have t3 : evalS cf s166_3 (envB (k, ns) K1 N2 R3 none none) (h ++ [.lst (L1 ++ L2)]) = .ok .nx (envB (k, ns) K1 N2 R3 w4 w5) (h ++ [.lst L']) := by
    unfold s166_3
    have ln : opf1 .len N = some (.int (ns.length : Int)) := by
      show some (PyData.int ((ns.map PyData.int).length : Int)) = _
      rw [List.length_map]
    rw [st_for, src_nat (j := ns.length) (by simp only [ev_op1, bor_var, ev_var, slot_0, slot_s, N2, borV_p, ofO_some, R.bind_ok, unP_p, ln, Option.map_some]) (by omega), R.toS_ok]
    exact e3
  have ll : L'.length ≤ 100 := by
    rw [l', List.length_range]
    show 13 + _ ≤ 100
    omega
  refine ⟨L', g', ll, ?_⟩
  show finF h.length (evalSs cf b166 (envB (k, ns) none none none none none) h) = _
  rw [b166_eq]
  unfold ls166
  rw [ss_cons, t0, RS.bind_nx, ss_cons, t1, RS.bind_nx, ss_cons, t2, RS.bind_nx, ss_cons, t3, RS.bind_nx, ss_cons]
  simp only [s166_4, st_ret, ev_freeze, freezeK, lstOf_eq, slot_0, slot_s, R3, refOf_r, Option.bind_some, listAt_app, Option.map_some, R.toS_ok, RS.bind_rt, fin_rp, set_app, take_app]
end
end Cd
set_option Elab.async false
set_option linter.all false
set_option maxRecDepth 100000
set_option maxHeartbeats 4000000
namespace Cd
open PySem L2
section
variable {H h : Hi} {cf : Calls} {q k t : Nat}
theorem hasD : HasD fns := ⟨rfl, rfl⟩
theorem comp_townS {env : Ev} {own : List Nat} {tg : Tg} {src : Src} {elt : E} {α β : Type} {k0 : Nat} (g : α → PyData) (f : β → PyData) (c B : Nat) (P : α → β → Prop) {xs : List α} (es : evalSrc cf env src (hT h t k0) = .ok (xs.map g) (hT h t k)) (hz : xs.length < 1000)
    (hx : ∀ x ∈ xs, ∀ j, j < B → ∃ y, P x y ∧ ∃ env1, bindT tg (g x) (wipeE env own) = some env1 ∧ evalE cf env1 elt (hT h t j) = .ok (.p (f y)) (hT h t (j + c))) (hB : k + c * xs.length ≤ B) (hc : 0 < c) :
    ∃ ys : List β, ys.length = xs.length ∧ (∀ i (hi : i < xs.length) (hj : i < ys.length), P xs[i] ys[i]) ∧ evalE cf env (.comp own tg src [] elt) (hT h t k0) = .ok (.p (.list (ys.map f))) (hT h t (k + c * xs.length)) := by
  obtain ⟨ys, l1, l2, l3⟩ := compL_town (h := h) (t := t) (elt := fun e h => (evalE cf e elt h).bind unP) (bt := fun x e => bindT tg x e) (env := wipeE env own) g f c B P xs k (fun x hm j hj => by
    obtain ⟨y, py, env1, e1, e2⟩ := hx x hm j hj
    exact ⟨y, py, env1, e1, by rw [e2]; rfl⟩) hB (fun _ => hc)
  refine ⟨ys, l1, l2, ?_⟩
  rw [ev_comp, es]
  exact compK2_ok (by rw [List.length_map]; exact Nat.lt_trans hz size1000) l3
abbrev Y19 (ns : List Int) (v2 v3 v4 v5 v6 v7 v8 v9 v10 : Option Val) : Ev := [some (.p (.list (ns.map .int))), some (.ref 0), v2, v3, v4, v5, v6, v7, v8, v9, v10, none, none]
theorem stF {t : Te} {env : Ev} {h : Hi} (e : evalT cf env t h = .ok false h) : evalS cf (.if_ t [.ret (.lit (.bool false))] []) env h = .ok .nx env h := by
  rw [st_if, e]; rfl
theorem turn167 (ns : List Int) (h0 : 0 < H.length) (hk : k + 100 < 1000000) {v2 v3 v4 v5 v6 v7 v8 v9 v10 : Option Val} :
    ∃ k' w3 w4 w5 w6 w7 w8 w9 w10, k' ≤ k + 30 ∧
      evalSs (callF fns (q + 6)) ls167_1 (Y19 ns v2 v3 v4 v5 v6 v7 v8 v9 v10) (hT H 0 k) = .ok .nx (Y19 ns v2 w3 w4 w5 w6 w7 w8 w9 w10) (hT H 0 k') := by
  obtain ⟨cs, cl, dk, e59⟩ := cards_evalG (fns := fns) (q := q + 3) (i := 59) (h := H) (t := 0) (k := k) hasD (show fns 59 = some d51 from rfl) ns (m := 5) (by decide) h0 (by omega)
  have fit : Fit cs := ⟨fun r => dk.count r, fun c hc => ⟨(dk.range c hc).1, (dk.range c hc).2.1⟩⟩
  obtain ⟨f, hv⟩ := rank_frm cl fit
  have e50 : ∀ h, callF fns (q + 6) 50 [.p (fivD cs)] h = .ok (.p (rankD (rankM cs))) h := fun h => rank_eval (q := q + 4) rfl rfl rfl cl (shape_ok cl fit.1)
  have e95 : ∀ (d : PyData) (h : Hi), (∀ k ts, d = .tuple [.int k, .tuple ts] → ts.length < 900) → callF fns (q + 6) 95 [.p d] h = .ok (.p (.bool (isrB d))) h := fun d h few => e95 (q := q + 4) few
  have ep : ∀ h, callF fns (q + 6) 164 [.p (rankD (rankM cs))] h = .ok (.p (.int (plM (rankM cs)))) h := fun h => place_ok (q := q + 1) f hv
  have epb : ∀ (d : PyData) (h : Hi), (∀ k ts, d = .tuple [.int k, .tuple ts] → ts.length < 900) → isrB d = false → callF fns (q + 6) 164 [.p d] h = .ok (.p .none) h := fun d h few hb => place_bad (q := q + 2) few hb
  have ef : ∀ (k : Int) (ms : List Int) (h : Hi), 0 ≤ k → k ≤ 8 → (∀ x ∈ ms, 2 ≤ x ∧ x ≤ 14) → ms.length < 900 → callF fns (q + 6) 165 [.p (.int k), .p (intsT ms)] h = .ok (.p (.bool (fitsM k ms))) h := fun k ms h a b c d => fits_eval (q := q + 5) a b c d
  have eb : ∀ h, ∃ L : List PyData, (∀ d ∈ L, Bd19 d) ∧ L.length ≤ 100 ∧ callF fns (q + 6) 166 [.p (rankD (rankM cs))] h = .ok (.p (.list L)) h := fun h => bent_eval (q := q + 5) f hv
  have dr : ∀ (j : Nat) (m : Int), j < 1000000 → 0 < m → ∃ v, 0 ≤ v ∧ v < m ∧ callF fns (q + 6) 13 [.p (.list (ns.map .int)), .ref 0, .p (.int m)] (hT H 0 j) = .ok (.p (.int v)) (hT H 0 (j + 1)) := fun j m hj hm => draw_eval (q := q + 5) hasD.f13 ns h0 hj hm
  have pk : ∀ (j : Nat) (xs : List PyData), j < 1000000 → xs ≠ [] → ∃ x ∈ xs, callF fns (q + 6) 14 [.p (.list (ns.map .int)), .ref 0, .p (.list xs)] (hT H 0 j) = .ok (.p x) (hT H 0 (j + 1)) := fun j xs hj hx => pick_eval (q := q + 4) hasD ns h0 hj hx
  change callF fns (q + 6) 59 _ _ = _ at e59
  generalize callF fns (q + 6) = cf at *
  generalize rankM cs = rr at *
  obtain ⟨kd, rs⟩ := rr
  have k0 : 0 ≤ kd := f.lo
  have k8 : kd ≤ 8 := f.hi
  have rng : ∀ x ∈ rs, 2 ≤ x ∧ x ≤ 14 := f.rng
  have l5 : rs.length ≤ 5 := by have : rs.length = lenM kd := f.len; rw [this]; exact lenM_le kd
  let R3 : Option Val := some (.p (rankD (kd, rs)))
  let K4 : Option Val := some (.p (.int kd))
  let N5 : Option Val := some (.p (intsT rs))
  have few2 : ∀ (k : Int) (ms : List Int), ms.length < 900 → ∀ k' ts, PyData.tuple [.int k, intsT ms] = .tuple [.int k', .tuple ts] → ts.length < 900 := fun k ms hl k' ts e => by
    simp only [PyData.tuple.injEq, List.cons.injEq, and_true] at e
    rw [← e.2, List.length_map]; exact hl
  have t0 : evalS cf s167_1_0 (Y19 ns v2 v3 v4 v5 v6 v7 v8 v9 v10) (hT H 0 k) = .ok .nx (Y19 ns v2 R3 v4 v5 v6 v7 v8 v9 v10) (hT H 0 (k + 1 + 5)) := by
    unfold s167_1_0
    have e59' : cf 59 [.p (.list (ns.map .int)), .ref 0, .p (.int 5)] (hT H 0 k) = .ok (.p (fivD cs)) (hT H 0 (k + 1 + 5)) := e59
    simp only [st_set, ev_call, ees_cons, ees_nil, ev_var, ev_lit, slot_0, slot_s, ofO_some, R.bind_ok, e59', e50, R.toS_ok, setSlot_0, setSlot_s, R3]
  obtain ⟨k1, hk1⟩ : ∃ k1, k1 = k + 1 + 5 := ⟨_, rfl⟩
  rw [← hk1] at t0
  have t1 : evalS cf s167_1_1 (Y19 ns v2 R3 v4 v5 v6 v7 v8 v9 v10) (hT H 0 k1) = .ok .nx (Y19 ns v2 R3 K4 N5 v6 v7 v8 v9 v10) (hT H 0 k1) := by
    simp [s167_1_1, rankD, R3, K4, N5]
  have ir : isrB (rankD (kd, rs)) = true := by
    show isrB (.tuple [.int kd, intsT rs]) = true
    rw [isr_rank k0 k8]; exact hv
  have fr : fitsM kd rs = true := by rw [fits_vld k0 k8 rng]; exact hv
  have t2 : evalS cf s167_1_2 (Y19 ns v2 R3 K4 N5 v6 v7 v8 v9 v10) (hT H 0 k1) = .ok .nx (Y19 ns v2 R3 K4 N5 v6 v7 v8 v9 v10) (hT H 0 k1) := by
    refine stF ?_
    have e1 := e95 (rankD (kd, rs)) (hT H 0 k1) (few2 kd rs (by omega))
    rw [ir] at e1
    have e2 := ef kd rs (hT H 0 k1) k0 k8 rng (by omega)
    rw [fr] at e2
    have e3 := ep (hT H 0 k1)
    simp only [et_or, et_not, et_val, bor_call, ev_call, ees_cons, ees_nil, ev_var, slot_0, slot_s, R3, K4, N5, ofO_some, R.bind_ok, unP_p, e1, truth_b, Bool.not_true, ifK_eq, Bool.false_eq_true, if_false, bor_op1, ev_op1, e3, o_isNone, isNone_int, Option.map_some, e2]
  obtain ⟨L, gL, lL, e166⟩ := eb (hT H 0 k1)
  obtain ⟨env3, h3, f3, w6, ee3, eh3⟩ := forL_inv (body := evalSs cf ls167_1_3) (bt := bindT (.name 6))
    (fun j env' h' => ∃ w6, env' = Y19 ns v2 R3 K4 N5 w6 v7 v8 v9 v10 ∧ h' = hT H 0 k1) L 0 _ _ ⟨v6, rfl, rfl⟩ (fun j env' h' _ hj x hx hI => by
      obtain ⟨w6, rfl, rfl⟩ := hI
      have B := gL x (List.mem_of_getElem? hx)
      obtain ⟨z, ez⟩ := B.rp
      have e1 := e95 x (hT H 0 k1) B.few
      rw [B.no] at e1
      have e2 := epb x (hT H 0 k1) B.few B.no
      refine ⟨_, by simp; rfl, .nx, Y19 ns v2 R3 K4 N5 (some (.p x)) v7 v8 v9 v10, hT H 0 k1, ?_, .inl rfl, some (.p x), rfl, rfl⟩
      unfold ls167_1_3
      rw [ss_cons]
      have t : evalS cf s167_1_3_0 (Y19 ns v2 R3 K4 N5 (some (.p x)) v7 v8 v9 v10) (hT H 0 k1) = .ok .nx (Y19 ns v2 R3 K4 N5 (some (.p x)) v7 v8 v9 v10) (hT H 0 k1) := by
        refine stF ?_
        obtain ⟨bb, hb⟩ : ∃ bb, opf2 .notInS (.str ("[" : Str)) (.str z) = some (.bool bb) := ⟨_, rfl⟩
        simp only [et_or, et_and, et_val, bor_call, ev_call, ees_cons, ees_nil, ev_var, slot_0, slot_s, ofO_some, R.bind_ok, unP_p, e1, truth_b, ifK_eq, Bool.false_eq_true, if_false, bor_op2, ev_op2, ev_lit, bor_op1, ev_op1, bor_var, borV_p, ez, Option.map_some, hb, e2, o_notNone, isNone_none, Bool.not_true]
        cases bb <;> rfl
      rw [t, RS.bind_nx, ss_nil])
  have t3 : evalS cf s167_1_3 (Y19 ns v2 R3 K4 N5 v6 v7 v8 v9 v10) (hT H 0 k1) = .ok .nx (Y19 ns v2 R3 K4 N5 w6 v7 v8 v9 v10) (hT H 0 k1) := by
    unfold s167_1_3
    rw [st_for]
    simp only [es_e, ev_call, ees_cons, ees_nil, ev_var, slot_0, slot_s, R3, ofO_some, R.bind_ok, unP_p, e166, items_L, R.toS_ok]
    rw [ee3, eh3] at f3
    exact f3
  -- a rank as one of another kind
  have ask : ∀ (o : Nat) (ms : List Int) (h : Hi), o < 9 → (∀ x ∈ ms, 2 ≤ x ∧ x ≤ 14) → ms.length < 900 → cf 95 [.p (.tuple [.int (o : Int), intsT ms])] h = .ok (.p (.bool (fitsM (o : Int) ms))) h ∧ cf 165 [.p (.int (o : Int)), .p (intsT ms)] h = .ok (.p (.bool (fitsM (o : Int) ms))) h := fun o ms h ho hm hl => by
    have a := e95 (.tuple [.int (o : Int), intsT ms]) h (few2 _ ms hl)
    rw [isr_rank (by omega) (by omega), ← fits_vld (by omega) (by omega) hm] at a
    exact ⟨a, ef _ ms h (by omega) (by omega) hm hl⟩
  have nb : ∀ b : Bool, opf2 .ne (.bool b) (.bool b) = some (.bool false) := fun b => by cases b <;> rfl
  have r9 : rangeD 0 9 1 = (List.range 9).map natD := rfl
  have rv : opf1 .revT (intsT rs) = some (intsT rs.reverse) := by
    show some (PyData.tuple (rs.map PyData.int).reverse) = some (PyData.tuple (rs.reverse.map PyData.int))
    rw [List.map_reverse]
  obtain ⟨env4, h4, f4, w7, w10, ee4, eh4⟩ := forL_inv (body := evalSs cf ls167_1_4) (bt := bindT (.name 7))
    (fun j env' h' => ∃ w7 w10, env' = Y19 ns v2 R3 K4 N5 w6 w7 v8 v9 w10 ∧ h' = hT H 0 k1) ((List.range 9).map natD) 0 _ _ ⟨v7, v10, rfl, rfl⟩ (fun j env' h' _ hj x hx hI => by
      obtain ⟨w7, w10, rfl, rfl⟩ := hI
      obtain ⟨o, ho, rfl⟩ := List.mem_map.mp (List.mem_of_getElem? hx)
      have ho := List.mem_range.mp ho
      obtain ⟨a1, a2⟩ := ask o rs (hT H 0 k1) ho rng (by omega)
      obtain ⟨b1, b2⟩ := ask o rs.reverse (hT H 0 k1) ho (fun x hx => rng x (List.mem_reverse.mp hx)) (by rw [List.length_reverse]; omega)
      refine ⟨_, by simp; rfl, .nx, Y19 ns v2 R3 K4 N5 w6 (some (.p (natD o))) v8 v9 (some (.p (intsT rs.reverse))), hT H 0 k1, ?_, .inl rfl, some (.p (natD o)), some (.p (intsT rs.reverse)), rfl, rfl⟩
      have one : ∀ (ms : List Int) (v10 : Option Val), cf 95 [.p (.tuple [.int (o : Int), intsT ms])] (hT H 0 k1) = .ok (.p (.bool (fitsM (o : Int) ms))) (hT H 0 k1) → cf 165 [.p (.int (o : Int)), .p (intsT ms)] (hT H 0 k1) = .ok (.p (.bool (fitsM (o : Int) ms))) (hT H 0 k1) →
          evalSs cf ls167_1_4_0 (Y19 ns v2 R3 K4 N5 w6 (some (.p (natD o))) v8 v9 (some (.p (intsT ms)))) (hT H 0 k1) = .ok .nx (Y19 ns v2 R3 K4 N5 w6 (some (.p (natD o))) v8 v9 (some (.p (intsT ms)))) (hT H 0 k1) := fun ms v10 c1 c2 => by
        unfold ls167_1_4_0
        rw [ss_cons]
        have t : evalS cf s167_1_4_0_0 (Y19 ns v2 R3 K4 N5 w6 (some (.p (natD o))) v8 v9 (some (.p (intsT ms)))) (hT H 0 k1) = .ok .nx (Y19 ns v2 R3 K4 N5 w6 (some (.p (natD o))) v8 v9 (some (.p (intsT ms)))) (hT H 0 k1) := by
          refine stF ?_
          simp only [et_val, bor_op2, ev_op2, ev_call, ees_cons, ees_nil, ev_tup, eps_cons, eps_nil, ev_var, slot_0, slot_s, natD, ofO_some, R.bind_ok, unP_p, c1, bor_call, c2, nb, Option.map_some, truth_b]
        rw [t, RS.bind_nx, ss_nil]
      have bd : ∀ (ms : List Int) (v10 : Option Val), bindT (.name 10) (intsT ms) (Y19 ns v2 R3 K4 N5 w6 (some (.p (natD o))) v8 v9 v10) = some (Y19 ns v2 R3 K4 N5 w6 (some (.p (natD o))) v8 v9 (some (.p (intsT ms)))) := fun ms v10 => by simp
      unfold ls167_1_4 s167_1_4_0
      rw [ss_cons, st_for]
      have es : evalSrc cf (Y19 ns v2 R3 K4 N5 w6 (some (.p (natD o))) v8 v9 w10) (.e (.tup [(.var 5), (.op1 .revT (.var 5))])) (hT H 0 k1) = .ok [intsT rs, intsT rs.reverse] (hT H 0 k1) := by
        simp only [es_e, ev_tup, eps_cons, eps_nil, ev_op1, bor_var, ev_var, slot_0, slot_s, N5, borV_p, ofO_some, R.bind_ok, unP_p, rv, Option.map_some, items_T]
      rw [es, R.toS_ok]
      unfold forL
      rw [bd]
      simp only
      rw [one rs none a1 a2]
      simp only
      unfold forL
      rw [bd]
      simp only
      rw [one rs.reverse none b1 b2]
      rfl)
  have t4 : evalS cf s167_1_4 (Y19 ns v2 R3 K4 N5 w6 v7 v8 v9 v10) (hT H 0 k1) = .ok .nx (Y19 ns v2 R3 K4 N5 w6 w7 v8 v9 w10) (hT H 0 k1) := by
    unfold s167_1_4
    rw [st_for, rngLit (by decide), R.toS_ok]
    rw [ee4, eh4] at f4
    rw [show ((9 : Int).toNat) = 9 from rfl, r9]
    exact f4
  -- some drawn
  obtain ⟨y, hy, ey⟩ := pk k1 [.int 1, .int 2, .int 3, .int 4, .int 5] (by omega) (by simp)
  obtain ⟨m, rfl, hm⟩ : ∃ m : Nat, y = .int (m : Int) ∧ m ≤ 5 := by
    simp only [List.mem_cons, List.not_mem_nil, or_false] at hy
    rcases hy with rfl | rfl | rfl | rfl | rfl
    · exact ⟨1, rfl, by omega⟩
    · exact ⟨2, rfl, by omega⟩
    · exact ⟨3, rfl, by omega⟩
    · exact ⟨4, rfl, by omega⟩
    · exact ⟨5, rfl, by omega⟩
  obtain ⟨ys, ly, py, ec⟩ := comp_townS (cf := cf) (h := H) (t := 0) (k0 := k1) (k := k1 + 1) (env := Y19 ns v2 R3 K4 N5 w6 w7 v8 v9 w10) (own := [11]) (tg := .name 11) (src := .rng1 (.call 14 [(.var 0), (.var 1), (.lst [(.lit (.int 1)), (.lit (.int 2)), (.lit (.int 3)), (.lit (.int 4)), (.lit (.int 5))])])) (elt := .op2d .add (.lit (.int 2)) (.call 13 [(.var 0), (.var 1), (.lit (.int 13))])) natD PyData.int 1 (k1 + 50) (fun _ y => 2 ≤ y ∧ y ≤ 14) (xs := List.range m)
    (by
      rw [es_rng1]
      simp only [ev_call, ees_cons, ees_nil, ev_var, ev_lst, eps_cons, eps_nil, ev_lit, slot_0, slot_s, ofO_some, R.bind_ok, unP_p, ey, rng1K]
      rw [if_pos (rngOk_small (by omega) (by omega)), Int.toNat_natCast, rangeD_nat]) (by rw [List.length_range]; omega)
    (fun x hx j hj => by
      obtain ⟨v, v0, v13, ev⟩ := dr j 13 (by omega) (by decide)
      refine ⟨2 + v, by omega, [some (.p (.list (ns.map .int))), some (.ref 0), v2, R3, K4, N5, w6, w7, v8, v9, w10, some (.p (natD x)), none], by simp, ?_⟩
      simp [ev]) (by rw [List.length_range]; omega) (by decide)
  rw [List.length_range] at ly ec
  have dr8 : ∀ x ∈ ys, 2 ≤ x ∧ x ≤ 14 := fun x hx => by
    obtain ⟨i, hi, rfl⟩ := List.getElem_of_mem hx
    exact py i (by rw [List.length_range]; omega) hi
  obtain ⟨k2, hk2⟩ : ∃ k2, k2 = k1 + 1 + 1 * m := ⟨_, rfl⟩
  rw [← hk2] at ec
  let D8 : Option Val := some (.p (intsT ys))
  have t5 : evalS cf s167_1_5 (Y19 ns v2 R3 K4 N5 w6 w7 v8 v9 w10) (hT H 0 k1) = .ok .nx (Y19 ns v2 R3 K4 N5 w6 w7 D8 v9 w10) (hT H 0 k2) := by
    unfold s167_1_5
    rw [st_set, ev_op1, bor_comp, ec]
    simp [D8]
  obtain ⟨env6, h6, f6, u7, ee6, eh6⟩ := forL_inv (body := evalSs cf ls167_1_6) (bt := bindT (.name 7))
    (fun j env' h' => ∃ u7, env' = Y19 ns v2 R3 K4 N5 w6 u7 D8 v9 w10 ∧ h' = hT H 0 k2) ((List.range 9).map natD) 0 _ _ ⟨w7, rfl, rfl⟩ (fun j env' h' _ hj x hx hI => by
      obtain ⟨u7, rfl, rfl⟩ := hI
      obtain ⟨o, ho, rfl⟩ := List.mem_map.mp (List.mem_of_getElem? hx)
      have ho := List.mem_range.mp ho
      obtain ⟨a1, a2⟩ := ask o ys (hT H 0 k2) ho dr8 (by omega)
      refine ⟨_, by simp; rfl, .nx, Y19 ns v2 R3 K4 N5 w6 (some (.p (natD o))) D8 v9 w10, hT H 0 k2, ?_, .inl rfl, some (.p (natD o)), rfl, rfl⟩
      unfold ls167_1_6
      rw [ss_cons]
      have t : evalS cf s167_1_6_0 (Y19 ns v2 R3 K4 N5 w6 (some (.p (natD o))) D8 v9 w10) (hT H 0 k2) = .ok .nx (Y19 ns v2 R3 K4 N5 w6 (some (.p (natD o))) D8 v9 w10) (hT H 0 k2) := by
        refine stF ?_
        simp only [et_val, bor_op2, ev_op2, ev_call, ees_cons, ees_nil, ev_tup, eps_cons, eps_nil, ev_var, slot_0, slot_s, natD, D8, ofO_some, R.bind_ok, unP_p, a1, bor_call, a2, nb, Option.map_some, truth_b]
      rw [t, RS.bind_nx, ss_nil])
  have t6 : evalS cf s167_1_6 (Y19 ns v2 R3 K4 N5 w6 w7 D8 v9 w10) (hT H 0 k2) = .ok .nx (Y19 ns v2 R3 K4 N5 w6 u7 D8 v9 w10) (hT H 0 k2) := by
    unfold s167_1_6
    rw [st_for, rngLit (by decide), R.toS_ok]
    rw [ee6, eh6] at f6
    rw [show ((9 : Int).toNat) = 9 from rfl, r9]
    exact f6
  -- rows
  have top1 : ∀ (tp : Int) (v9' v10' : Option Val), tp = 6 ∨ tp = 14 → evalSs cf ls167_1_7 (Y19 ns v2 R3 K4 N5 w6 u7 D8 (some (.p (.int tp))) v10') (hT H 0 k2) = .ok .nx (Y19 ns v2 R3 K4 N5 w6 u7 D8 (some (.p (.int tp))) (some (.p (intsT [tp - 0, tp - 1, tp - 2, tp - 3, tp - 4])))) (hT H 0 k2) := fun tp v9' v10' ht => by
    have c1 : evalE cf (Y19 ns v2 R3 K4 N5 w6 u7 D8 (some (.p (.int tp))) v10') (.comp [12] (.name 12) (.rng1 (.lit (.int 5))) [] (.op2d .sub (.var 9) (.var 12))) (hT H 0 k2) = .ok (.p (.list ([tp - 0, tp - 1, tp - 2, tp - 3, tp - 4].map .int))) (hT H 0 k2) := by
      have : ([tp - 0, tp - 1, tp - 2, tp - 3, tp - 4].map PyData.int) = (List.range 5).map fun i : Nat => PyData.int (tp - (i : Int)) := rfl
      rw [this]
      refine comp_all natD _ (by rw [rngLit (by decide)]; rfl) (by simp) fun i hi => ⟨[some (.p (.list (ns.map .int))), some (.ref 0), v2, R3, K4, N5, w6, u7, D8, some (.p (.int tp)), v10', none, some (.p (natD i))], by simp, by simp⟩
    have t0 : evalS cf s167_1_7_0 (Y19 ns v2 R3 K4 N5 w6 u7 D8 (some (.p (.int tp))) v10') (hT H 0 k2) = .ok .nx (Y19 ns v2 R3 K4 N5 w6 u7 D8 (some (.p (.int tp))) (some (.p (intsT [tp - 0, tp - 1, tp - 2, tp - 3, tp - 4])))) (hT H 0 k2) := by
      unfold s167_1_7_0
      rw [st_set, ev_op1, bor_comp, c1]
      simp
    have i0 : isrB (.tuple [.int 0, intsT [tp - 0, tp - 1, tp - 2, tp - 3, tp - 4]]) = false := by rcases ht with rfl | rfl <;> decide +kernel
    have i5 : isrB (.tuple [.int 5, intsT [tp - 0, tp - 1, tp - 2, tp - 3, tp - 4]]) = false := by rcases ht with rfl | rfl <;> decide +kernel
    have i4 : isrB (.tuple [.int 4, .tuple [.int tp]]) = true := by rcases ht with rfl | rfl <;> decide +kernel
    have z0 := e95 _ (hT H 0 k2) (few2 0 [tp - 0, tp - 1, tp - 2, tp - 3, tp - 4] (by simp))
    have z5 := e95 _ (hT H 0 k2) (few2 5 [tp - 0, tp - 1, tp - 2, tp - 3, tp - 4] (by simp))
    have z4 := e95 (.tuple [.int 4, .tuple [.int tp]]) (hT H 0 k2) (few2 4 [tp] (by simp))
    rw [i0] at z0
    rw [i5] at z5
    rw [i4] at z4
    have t1 : evalS cf s167_1_7_1 (Y19 ns v2 R3 K4 N5 w6 u7 D8 (some (.p (.int tp))) (some (.p (intsT [tp - 0, tp - 1, tp - 2, tp - 3, tp - 4])))) (hT H 0 k2) = .ok .nx (Y19 ns v2 R3 K4 N5 w6 u7 D8 (some (.p (.int tp))) (some (.p (intsT [tp - 0, tp - 1, tp - 2, tp - 3, tp - 4])))) (hT H 0 k2) := by
      refine stF ?_
      generalize intsT [tp - 0, tp - 1, tp - 2, tp - 3, tp - 4] = RW at z0 z5
      simp only [et_or, et_not, et_val, bor_call, ev_call, ees_cons, ees_nil, ev_tup, eps_cons, eps_nil, ev_lit, ev_var, slot_0, slot_s, ofO_some, R.bind_ok, unP_p, z0, truth_b, ifK_eq, Bool.false_eq_true, if_false, z5, z4, Bool.not_true]
    unfold ls167_1_7
    rw [ss_cons, t0, RS.bind_nx, ss_cons, t1, RS.bind_nx, ss_nil]
  obtain ⟨x10, t7⟩ : ∃ x10, evalS cf s167_1_7 (Y19 ns v2 R3 K4 N5 w6 u7 D8 v9 w10) (hT H 0 k2) = .ok .nx (Y19 ns v2 R3 K4 N5 w6 u7 D8 (some (.p (.int 14))) x10) (hT H 0 k2) := by
    refine ⟨some (.p (intsT [14 - 0, 14 - 1, 14 - 2, 14 - 3, 14 - 4])), ?_⟩
    have bd : ∀ (tp : Int) (v9 v10 : Option Val), bindT (.name 9) (.int tp) (Y19 ns v2 R3 K4 N5 w6 u7 D8 v9 v10) = some (Y19 ns v2 R3 K4 N5 w6 u7 D8 (some (.p (.int tp))) v10) := fun tp v9 v10 => by simp
    unfold s167_1_7
    rw [st_for]
    simp only [es_e, ev_tup, eps_cons, eps_nil, ev_lit, R.bind_ok, unP_p, items_T, ofO_some, R.toS_ok]
    unfold forL
    rw [bd]
    simp only
    rw [top1 6 none w10 (.inl rfl)]
    simp only
    unfold forL
    rw [bd]
    simp only
    rw [top1 14 none _ (.inr rfl)]
    rfl
  refine ⟨k2, R3, K4, N5, w6, u7, D8, some (.p (.int 14)), x10, by omega, ?_⟩
  unfold ls167_1
  rw [ss_cons, t0, RS.bind_nx, ss_cons, t1, RS.bind_nx, ss_cons, t2, RS.bind_nx, ss_cons, t3, RS.bind_nx, ss_cons, t4, RS.bind_nx, ss_cons, t5, RS.bind_nx, ss_cons, t6, RS.bind_nx, ss_cons, t7, RS.bind_nx, ss_nil]
theorem law167 (ns : List Int) : ∃ h', callF fns 31 167 [.p (.list (ns.map .int))] [] = .ok (.p (.bool true)) h' := by
  rw [call_eq (d := d167) (n := 30) rfl rfl]
  have tb : ∀ (k : Nat), k + 100 < 1000000 → ∀ (v2 v3 v4 v5 v6 v7 v8 v9 v10 : Option Val), ∃ k' w3 w4 w5 w6 w7 w8 w9 w10, k' ≤ k + 30 ∧
      evalSs (callF fns 30) ls167_1 (Y19 ns v2 v3 v4 v5 v6 v7 v8 v9 v10) (hT [.dead] 0 k) = .ok .nx (Y19 ns v2 w3 w4 w5 w6 w7 w8 w9 w10) (hT [.dead] 0 k') := fun k hk v2 v3 v4 v5 v6 v7 v8 v9 v10 => turn167 (q := 24) ns (by simp) hk
  have e95 : ∀ (d : PyData) (h : Hi), (∀ k ts, d = .tuple [.int k, .tuple ts] → ts.length < 900) → callF fns 30 95 [.p d] h = .ok (.p (.bool (isrB d))) h := fun d h few => Cd.e95 (q := 28) few
  generalize callF fns 30 = cf at tb e95
  have t0 : evalS cf s167_0 [some (.p (.list (ns.map .int))), none, none, none, none, none, none, none, none, none, none, none, none] [] = .ok .nx (Y19 ns none none none none none none none none none) (hT [.dead] 0 0) := by
    simp [s167_0, mkK]; rfl
  obtain ⟨env2, h2, f2, k2, b2, b3, b4, b5, b6, b7, b8, b9, b10, p1, ee, eh⟩ := forL_inv (body := evalSs cf ls167_1) (bt := bindT (.name 2))
    (fun j env' h' => ∃ (k' : Nat) (b2 b3 b4 b5 b6 b7 b8 b9 b10 : Option Val), k' ≤ 30 * j ∧ env' = Y19 ns b2 b3 b4 b5 b6 b7 b8 b9 b10 ∧ h' = hT [.dead] 0 k') (rangeD 0 2 1) 0 _ _ ⟨0, none, none, none, none, none, none, none, none, none, by omega, rfl, rfl⟩ (fun j env' h' _ hj x hx hI => by
      obtain ⟨k', b2, b3, b4, b5, b6, b7, b8, b9, b10, p1, rfl, rfl⟩ := hI
      have hl : (rangeD 0 2 1).length = 2 := rfl
      rw [hl] at hj
      obtain ⟨k'', c3, c4, c5, c6, c7, c8, c9, c10, p1', e⟩ := tb k' (by omega) (some (.p x)) b3 b4 b5 b6 b7 b8 b9 b10
      exact ⟨_, by simp, .nx, _, _, e, .inl rfl, k'', some (.p x), c3, c4, c5, c6, c7, c8, c9, c10, by omega, rfl, rfl⟩)
  have t1 : evalS cf s167_1 (Y19 ns none none none none none none none none none) (hT [.dead] 0 0) = .ok .nx env2 h2 := by
    unfold s167_1
    rw [st_for, rngLit (by decide), R.toS_ok]
    exact f2
  have t2 : ∀ env h, evalS cf s167_2 env h = .ok (.rt (.p (.bool true))) env h := fun env h => by
    have fw : ∀ (k : Int) (ms : List PyData), ms.length < 900 → ∀ k' ts, PyData.tuple [.int k, .tuple ms] = .tuple [.int k', .tuple ts] → ts.length < 900 := fun k ms hl k' ts e => by
      simp only [PyData.tuple.injEq, List.cons.injEq, and_true] at e
      rw [← e.2]; exact hl
    have z1 := e95 (.tuple [.int 4, .tuple [.int 4]]) h (fw _ _ (by simp))
    have z2 := e95 (.tuple [.int 8, .tuple [.int 2]]) h (fw _ _ (by simp))
    have z3 := e95 (.tuple [.int 0, .tuple [.int 14, .int 5, .int 4, .int 3, .int 2]]) h (fw _ _ (by simp))
    rw [show isrB (.tuple [.int 4, .tuple [.int 4]]) = false by decide +kernel] at z1
    rw [show isrB (.tuple [.int 8, .tuple [.int 2]]) = false by decide +kernel] at z2
    rw [show isrB (.tuple [.int 0, .tuple [.int 14, .int 5, .int 4, .int 3, .int 2]]) = false by decide +kernel] at z3
    simp only [s167_2, st_ret, ev_and, ev_not, ev_call, ees_cons, ees_nil, ev_tup, eps_cons, eps_nil, ev_lit, R.bind_ok, unP_p, z1, z2, z3, notK_t, Bool.not_false, andK_t, if_true, R.toS_ok]
  refine ⟨h2.take 0, ?_⟩
  show finF 0 (evalSs cf b167 [some (.p (.list (ns.map .int))), none, none, none, none, none, none, none, none, none, none, none, none] []) = _
  rw [b167_eq]
  unfold ls167
  rw [ss_cons, t0, RS.bind_nx, ss_cons, t1, RS.bind_nx, ss_cons, t2, RS.bind_rt, fin_rp]
end
end Cd
set_option Elab.async false
set_option maxRecDepth 100000
set_option maxHeartbeats 4000000
namespace Cd
theorem holds (ns : List Int) (h : ns.length ≤ 63) : okTrue (callF Γ0.fns 31 167 [scriptD ns] []) = true := by
  rw [show Γ0.fns = fns from rfl]
  have : scriptD ns = .p (.list (ns.map .int)) := rfl
  rw [this]
  obtain ⟨h', e⟩ := law167 ns
  rw [e]
  rfl
end Cd
set_option Elab.async false
set_option linter.all false
set_option maxRecDepth 100000
set_option maxHeartbeats 4000000
open PySem PySem.W PyProof.Rows
set_option maxRecDepth 100000 in
set_option maxHeartbeats 0 in
theorem PySem.Challenge.cw_cardhands_k19_whole_ranks_bent_holds : PySem.Challenge.rw_cardhands_k19_whole_ranks_bent.Holds := by
  w_on; o_law; k_head; (case hw => w_witness2)
  k_fill
  refine Cd.walk_endG (l := PySem.Challenge.rw_cardhands_k19_whole_ranks_bent) (Γ := Cd.Γ0) (fi := 167) (n := 30) "_law_script" rfl (by decide) rfl ⟨rfl, by decide, by decide⟩ Cd.holds (fun w h Y => PySem.W.kIn_of Y) ?F
  case F =>
    intro w mg fa h KX G hmg
    refine' Cd.all_mk KX G hmg ?tn0 ?tb0 ?a48 ?i48 ?l48 ?c48 ?k48 ?a49 ?i49 ?l49 ?c49 ?k49 ?a50 ?i50 ?l50 ?c50 ?k50 ?a93 ?i93 ?l93 ?c93 ?k93 ?a94 ?i94 ?l94 ?c94 ?k94 ?a95 ?i95 ?l95 ?c95 ?k95 ?a96 ?i96 ?l96 ?c96 ?k96 ?a97 ?i97 ?l97 ?c97 ?k97 ?a98 ?i98 ?l98 ?c98 ?k98 ?a13 ?i13 ?l13 ?c13 ?k13 ?a14 ?i14 ?l14 ?c14 ?k14 ?a59 ?i59 ?l59 ?c59 ?k59 ?a164 ?i164 ?l164 ?c164 ?k164 ?a165 ?i165 ?l165 ?c165 ?k165 ?a166 ?i166 ?l166 ?c166 ?k166 ?a167 ?i167 ?l167 ?c167 ?k167 ?z0 ?z1 ?z2 ?z3 ?z4 ?z5 ?z6 ?z7 ?z8 ?z9 ?z10 ?z11 ?z12 ?z13 ?z14 ?z15 ?z16 ?z17 ?z18 ?tk0_0 ?th0_0 ?tk0_1 ?th0_1 ?tk0_2 ?th0_2 ?tk0_3 ?th0_3 ?tk0_4 ?th0_4 ?cn0 ?ct0 ?cn1 ?ct1 ?cn2 ?ct2 ?cn3 ?ct3 ?ct3_8 ?ct3_7 ?ct3_6 ?ct3_5 ?ct3_4 ?ct3_3 ?ct3_2 ?ct3_1 ?ct3_0 ?eaCardError ?eqCardError ?ekCardError ?esCardError ?etCardError ?eaBadRank ?eqBadRank ?ekBadRank ?esBadRank ?etBadRank ?emCardErrorCardError ?emCardErrorBadRank ?emBadRankCardError ?emBadRankBadRank
    (case tn0 => first | k_is | rfl)
    (case tb0 => first | k_is | rfl)
    (case a48 => first | k_is | rfl)
    (case i48 => first | k_is | rfl)
    (case l48 => first | k_is | rfl)
    (case c48 => first | k_is | rfl)
    (case k48 => first | k_is | rfl)
    (case a49 => first | k_is | rfl)
    (case i49 => first | k_is | rfl)
    (case l49 => first | k_is | rfl)
    (case c49 => first | k_is | rfl)
    (case k49 => first | k_is | rfl)
    (case a50 => first | k_is | rfl)
    (case i50 => first | k_is | rfl)
    (case l50 => first | k_is | rfl)
    (case c50 => first | k_is | rfl)
    (case k50 => first | k_is | rfl)
    (case a93 => first | k_is | rfl)
    (case i93 => first | k_is | rfl)
    (case l93 => first | k_is | rfl)
    (case c93 => first | k_is | rfl)
    (case k93 => first | k_is | rfl)
    (case a94 => first | k_is | rfl)
    (case i94 => first | k_is | rfl)
    (case l94 => first | k_is | rfl)
    (case c94 => first | k_is | rfl)
    (case k94 => first | k_is | rfl)
    (case a95 => first | k_is | rfl)
    (case i95 => first | k_is | rfl)
    (case l95 => first | k_is | rfl)
    (case c95 => first | k_is | rfl)
    (case k95 => first | k_is | rfl)
    (case a96 => first | k_is | rfl)
    (case i96 => first | k_is | rfl)
    (case l96 => first | k_is | rfl)
    (case c96 => first | k_is | rfl)
    (case k96 => first | k_is | rfl)
    (case a97 => first | k_is | rfl)
    (case i97 => first | k_is | rfl)
    (case l97 => first | k_is | rfl)
    (case c97 => first | k_is | rfl)
    (case k97 => first | k_is | rfl)
    (case a98 => first | k_is | rfl)
    (case i98 => first | k_is | rfl)
    (case l98 => first | k_is | rfl)
    (case c98 => first | k_is | rfl)
    (case k98 => first | k_is | rfl)
    (case a13 => first | k_is | rfl)
    (case i13 => first | k_is | rfl)
    (case l13 => first | k_is | rfl)
    (case c13 => first | k_is | rfl)
    (case k13 => first | k_is | rfl)
    (case a14 => first | k_is | rfl)
    (case i14 => first | k_is | rfl)
    (case l14 => first | k_is | rfl)
    (case c14 => first | k_is | rfl)
    (case k14 => first | k_is | rfl)
    (case a59 => first | k_is | rfl)
    (case i59 => first | k_is | rfl)
    (case l59 => first | k_is | rfl)
    (case c59 => first | k_is | rfl)
    (case k59 => first | k_is | rfl)
    (case a164 => first | k_is | rfl)
    (case i164 => first | k_is | rfl)
    (case l164 => first | k_is | rfl)
    (case c164 => first | k_is | rfl)
    (case k164 => first | k_is | rfl)
    (case a165 => first | k_is | rfl)
    (case i165 => first | k_is | rfl)
    (case l165 => first | k_is | rfl)
    (case c165 => first | k_is | rfl)
    (case k165 => first | k_is | rfl)
    (case a166 => first | k_is | rfl)
    (case i166 => first | k_is | rfl)
    (case l166 => first | k_is | rfl)
    (case c166 => first | k_is | rfl)
    (case k166 => first | k_is | rfl)
    (case a167 => first | k_is | rfl)
    (case i167 => first | k_is | rfl)
    (case l167 => first | k_is | rfl)
    (case c167 => first | k_is | rfl)
    (case k167 => first | k_is | rfl)
    (case z0 => first | k_is | rfl)
    (case z1 => first | k_is | rfl)
    (case z2 => first | k_is | rfl)
    (case z3 => first | k_is | rfl)
    (case z4 => first | k_is | rfl)
    (case z5 => first | k_is | rfl)
    (case z6 => first | k_is | rfl)
    (case z7 => first | k_is | rfl)
    (case z8 => first | k_is | rfl)
    (case z9 => first | k_is | rfl)
    (case z10 => first | k_is | rfl)
    (case z11 => first | k_is | rfl)
    (case z12 => first | k_is | rfl)
    (case z13 => first | k_is | rfl)
    (case z14 => first | k_is | rfl)
    (case z15 => first | k_is | rfl)
    (case z16 => first | k_is | rfl)
    (case z17 => first | k_is | rfl)
    (case z18 => first | k_is | rfl)
    (case tk0_0 => first | k_is | rfl)
    (case th0_0 => first | rfl | decide +kernel)
    (case tk0_1 => first | k_is | rfl)
    (case th0_1 => first | rfl | decide +kernel)
    (case tk0_2 => first | k_is | rfl)
    (case th0_2 => first | rfl | decide +kernel)
    (case tk0_3 => first | k_is | rfl)
    (case th0_3 => first | rfl | decide +kernel)
    (case tk0_4 => first | k_is | rfl)
    (case th0_4 => first | rfl | decide +kernel)
    (case cn0 => first | k_is | rfl)
    (case ct0 => first | k_is | rfl)
    (case cn1 => first | k_is | rfl)
    (case ct1 => first | k_is | rfl)
    (case cn2 => first | k_is | rfl)
    (case ct2 => first | k_is | rfl)
    (case cn3 => first | k_is | rfl)
    (case ct3 => first | k_is | rfl)
    (case ct3_8 => first | k_is | rfl)
    (case ct3_7 => first | k_is | rfl)
    (case ct3_6 => first | k_is | rfl)
    (case ct3_5 => first | k_is | rfl)
    (case ct3_4 => first | k_is | rfl)
    (case ct3_3 => first | k_is | rfl)
    (case ct3_2 => first | k_is | rfl)
    (case ct3_1 => first | k_is | rfl)
    (case ct3_0 => first | k_is | rfl)
    (case eaCardError => first | k_is | rfl)
    (case eqCardError => first | k_exc | k_is | kernel_rfl | (with_unfolding_all rfl) | (unfold PySem.W.excIn; k_is) | (unfold PySem.W.excIn; simp; done))
    (case ekCardError => first | k_is | rfl)
    (case esCardError => first | k_is | rfl)
    (case etCardError => first | k_is | rfl)
    (case eaBadRank => first | k_is | rfl)
    (case eqBadRank => first | k_exc | k_is | kernel_rfl | (with_unfolding_all rfl) | (unfold PySem.W.excIn; k_is) | (unfold PySem.W.excIn; simp; done))
    (case ekBadRank => first | k_is | rfl)
    (case esBadRank => first | k_is | rfl)
    (case etBadRank => first | k_is | rfl)
    (case emCardErrorCardError => first | k_is | rfl)
    (case emCardErrorBadRank => first | k_is | rfl)
    (case emBadRankCardError => first | k_is | rfl)
    (case emBadRankBadRank => first | k_is | rfl)
