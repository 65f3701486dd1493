import PyProof.Rows.All
import Wide.All
import OpenK.AllK
import Wide.FinOn
import HandS.ForMost
import HandS.ForExc
import HandS.Walk
import HandS.Deep
import HandS.TupAny
import HandS.TupMul
import HandS.Style
import HandS.DictComp
import HandS.ExcOwn
import HandS.ExcIs
import HandS.HotCalls
import HandS.HeadHook1
import KE.DataMinMax
import HandS.WordsDict
import HandS.SortInts
import HandS.SortRule
import HandS.RaiseMore
import KE.KTupSum
import HandS.IsInst
import HandS.Conv
import HandS.Iter
import HandS.Defaults
import HandS.Zip
import KE.GoesMore
import KE.GoesEnum
import HandS.Small
import HandS.TryOnly
import HandS.Head0
import HandS.Head1
import HandS.Head2
import HandS.HeadEnd
import HandS.HeadHook2
import PySem.Challenge.RW_wheelstay_k42_whole_grace
set_option Elab.async false
set_option linter.all false
set_option maxRecDepth 100000
set_option maxHeartbeats 4000000
/-! The engine: pure data, a small language of slots, its evaluation. -/
namespace Wh
open PySem L2

inductive D where
  | non | bl (b : Bool) | int (i : Int) | str (s : Str)
  | tup (xs : List D) | lst (xs : List D) | dic (kvs : List (Key × D))
  | ins (c : String) (fs : List (String × D)) | box (n : Nat) | exc (c : String) | fn (f : String)
abbrev S (s : String) : Str := Str.ofString s

inductive Bo where
  | add | sub | mul | fdiv | mod | pow
  deriving DecidableEq
inductive Co where
  | lt | le | gt | ge | eq | ne | isin | notin | is_ | isnot
  deriving DecidableEq
inductive Bi where
  | len | sum | mx1 | mn1 | mxd | mx2 | mn2 | all | any | sorted | list | tup | dict | int | str | divmod
  | rlen | inr | ninr | lrng | slen | sset | skeys | lkeys | litems | count | index | get1 | get2 | join | split | part
  deriving DecidableEq
inductive Sk where
  | it | rng | enum | zip | keys | vals | items
  deriving DecidableEq
inductive Tg where
  | one (i : Nat) | many (is : List Nat)
  deriving DecidableEq

inductive E where
  | v (i : Nat) | b (i : Nat) | c (d : D)
  | bin (o : Bo) (x y : E) | neg (x : E) | not (x : E) | and (x y : E) | or (x y : E)
  | ife (t x y : E)
  | cmp (o : Co) (x y : E) | ch2 (o p : Co) (x y z : E)
  | tup (es : List E) | lst (es : List E) | dict (ks : List Key) (es : List E)
  | idx (x i : E) | sl (x lo hi : E) | rev (x : E)
  | fld (x : E) (f : String)
  | call (f : String) (es : List E) | meth (x : E) (m : String) (cs : List String) (es : List E) | new (c : String) (es : List E)
  | bi (f : Bi) (es : List E)
  | isi (x : E) (t : String)
  | comp (el : E) (tg : Tg) (k : Sk) (es cond : List E) (own : List Nat)
  | box (x : E)
  | pop (x k : E)
  | bm (f : Bi) (x : E) (ys : List E)
  | isx (x : E) (c : String)

inductive St where
  | asg (i : Nat) (ow : Bool) (e : E)
  | unp (is : List Nat) (e : E)
  | par (i j : Nat) (a b : E)
  | setf (o : E) (f : String) (e : E)
  | seti (o k e : E)
  | app (o e : E) | ext (o e : E) | spop (o k : E)
  | expr (e : E) | ret (e : E)
  | ife (t : E) (a b : List St)
  | for_ (tg : Tg) (k : Sk) (es : List E) (bd : List St)
  | whl (t : E) (bd : List St)
  | raise (c : String)
  | try_ (bd : List St) (c : String) (ks : List String) (nm : Option Nat) (su : List St)
  | fz (is : List Nat) (s : St)
  | flds (fs : List (String × E))
  | pass

/-! ### data -/
def lookK {α : Type} (kvs : List (Key × α)) (k : Key) : Option α := (kvs.find? fun kv => decide (kv.1 = k)).map (·.2)
def setK {α : Type} (kvs : List (Key × α)) (k : Key) (v : α) : List (Key × α) :=
  if (kvs.any fun kv => decide (kv.1 = k)) = true then kvs.map (fun kv => if kv.1 = k then (kv.1, v) else kv) else kvs ++ [(k, v)]
def delK {α : Type} (kvs : List (Key × α)) (k : Key) : List (Key × α) := kvs.filter fun kv => decide (kv.1 ≠ k)
def keyD : Key → D
  | .inl i => .int i
  | .inr s => .str s
def keyOf : D → Option Key
  | .int i => some (.inl i)
  | .str s => some (.inr s)
  | _ => none
def setFd (f : String) (d : D) : List (String × D) → List (String × D)
  | [] => [(f, d)]
  | (g, x) :: r => if g = f then (g, d) :: r else (g, x) :: setFd f d r
def cutD {α : Type} (xs : List α) (lo hi : Option Int) : List α :=
  (xs.drop (HT.sIx xs.length 0 lo)).take (HT.sIx xs.length xs.length hi - HT.sIx xs.length 0 lo)

mutual
/-- the library's data of this one, to a depth -/
def toP : Nat → D → Option PyData
  | 0, _ => none
  | _ + 1, .non => some .none
  | _ + 1, .bl b => some (.bool b)
  | _ + 1, .int i => some (.int i)
  | _ + 1, .str s => if PyData.strOk s = true then some (.str s) else none
  | n + 1, .tup xs => (toPs n xs).map .tuple
  | n + 1, .lst xs => (toPs n xs).map .list
  | _ + 1, _ => none
def toPs : Nat → List D → Option (List PyData)
  | _, [] => some []
  | n, x :: xs => (toP n x).bind fun p => (toPs n xs).map fun ps => p :: ps
end
/-- scalars: == without a look inside -/
def scalD : D → D → Option Bool
  | .non, .non => some true
  | .bl a, .bl b => some (a == b)
  | .int i, .int j => some (i == j)
  | .str x, .str y => some (x == y)
  | .non, .bl _ => some false | .non, .int _ => some false | .non, .str _ => some false
  | .bl _, .non => some false | .bl _, .str _ => some false
  | .int _, .non => some false | .int _, .str _ => some false
  | .str _, .non => some false | .str _, .bl _ => some false | .str _, .int _ => some false
  | _, _ => none
def dicEq (a b : List (Key × D)) : Option Bool :=
  if a.length = b.length then (if (a.all fun p => match lookK b p.1, p.2 with
    | some (.int i), .int j => i == j
    | some (.str x), .str y => x == y
    | _, _ => false) = true then some true else none) else some false
def deepD (a b : D) : Option Bool := (toP 60 a).bind fun p => (toP 60 b).map fun q => PyData.eqv p q
/-- a list of whatever things, and an empty one -/
def nilD : D → D → Option Bool
  | .lst xs, .lst [] => some xs.isEmpty
  | _, _ => none
/-- == of Python; none: not told -/
def eqD (a b : D) : Option Bool := match scalD a b with
  | some r => some r
  | none => match a, b with
    | .dic x, .dic y => dicEq x y
    | _, _ => match deepD a b with
      | some r => some r
      | none => nilD a b
def asInts : List D → Option (List Int)
  | [] => some []
  | .int i :: r => (asInts r).map (i :: ·)
  | _ :: _ => none
def asBls : List D → Option (List Bool)
  | [] => some []
  | .bl i :: r => (asBls r).map (i :: ·)
  | _ :: _ => none
def asStrs : List D → Option (List Str)
  | [] => some []
  | .str i :: r => (asStrs r).map (i :: ·)
  | _ :: _ => none
def asPrs : List D → Option (List (Int × Int))
  | [] => some []
  | .tup [.int i, .int j] :: r => (asPrs r).map ((i, j) :: ·)
  | _ :: _ => none
def asTrs : List D → Option (List (Int × Int × Str))
  | [] => some []
  | .tup [.int i, .int j, .str s] :: r => (asTrs r).map ((i, j, s) :: ·)
  | _ :: _ => none
def asKvs : List D → Option (List (Key × D))
  | [] => some []
  | .tup [k, d] :: r => (keyOf k).bind fun k => (asKvs r).map ((k, d) :: ·)
  | _ :: _ => none
/-- insertion: stable, by a strict order -/
def insBy {α : Type} (lt : α → α → Bool) (x : α) : List α → List α
  | [] => [x]
  | y :: r => if lt x y then x :: y :: r else y :: insBy lt x r
def sortBy {α : Type} (lt : α → α → Bool) : List α → List α
  | [] => []
  | x :: r => insBy lt x (sortBy lt r)
def ltI (a b : Int) : Bool := decide (a < b)
def ltS (a b : Str) : Bool := PySem.Spec.ltCps a.cps.toList b.cps.toList
def ltP (a b : Int × Int) : Bool := decide (a.1 < b.1) || (a.1 == b.1 && decide (a.2 < b.2))
def ltT (a b : Int × Int × Str) : Bool := decide (a.1 < b.1) || (a.1 == b.1 && (decide (a.2.1 < b.2.1) || (a.2.1 == b.2.1 && ltS a.2.2 b.2.2)))
def prD (p : Int × Int) : D := .tup [.int p.1, .int p.2]
def trD (p : Int × Int × Str) : D := .tup [.int p.1, .int p.2.1, .str p.2.2]
def sortD (xs : List D) : Option (List D) := match asInts xs with
  | some ns => some ((sortBy ltI ns).map .int)
  | none => match asStrs xs with
    | some ss => if ss.length < 64 then some ((sortBy ltS ss).map .str) else none
    | none => match asPrs xs with
      | some ps => some ((sortBy ltP ps).map prD)
      | none => none
def mxI : List Int → Int
  | [] => 0
  | [x] => x
  | x :: r => max x (mxI r)
def mnI : List Int → Int
  | [] => 0
  | [x] => x
  | x :: r => min x (mnI r)
def mnP : List (Int × Int) → Int × Int
  | [] => (0, 0)
  | [x] => x
  | x :: r => if ltP (mnP r) x then mnP r else x
def dedI : List Int → List Int
  | [] => []
  | x :: r => if r.contains x then dedI r else x :: dedI r
/-- the items of range(a, b, c) -/
def rngN (a b c : Int) : Nat := if 0 < c then ((b - a + c - 1) / c).toNat else if c < 0 then ((a - b + (-c) - 1) / (-c)).toNat else 0
def rngL (a c : Int) (n : Nat) : List D := (List.range n).map fun (k : Nat) => .int (a + (k : Int) * c)
def lim62 (i : Int) : Bool := decide (-(2 ^ 62) ≤ i) && decide (i < 2 ^ 62)
def big : Nat := 16777216
def optI : D → Option (Option Int)
  | .non => some none
  | .int i => some (some i)
  | _ => none
def cutT (z : Str) (lo hi : Option Int) : Str := ⟨(cutD z.cps.toList lo hi).toArray⟩

def binD : Bo → D → D → Option D
  | .add, .int i, .int j => some (.int (i + j))
  | .add, .str x, .str y => if x.length + y.length ≤ big then some (.str (x ++ y)) else none
  | .add, .tup xs, .tup ys => if xs.length + ys.length ≤ big then some (.tup (xs ++ ys)) else none
  | .add, .lst xs, .lst ys => if xs.length + ys.length ≤ big then some (.lst (xs ++ ys)) else none
  | .sub, .int i, .int j => some (.int (i - j))
  | .mul, .int i, .int j => if ((-(2 ^ 64) < i ∧ i < 2 ^ 64) ∨ (-(2 ^ 64) < j ∧ j < 2 ^ 64)) then some (.int (i * j)) else none
  | .mul, .lst xs, .int k => if 0 ≤ k ∧ k ≤ 1000 ∧ xs.length ≤ 1000 then some (.lst (List.replicate k.toNat xs).flatten) else none
  | .mul, .tup xs, .int k => if 2 ≤ k ∧ k ≤ 1000 ∧ xs.length ≤ 1000 ∧ xs ≠ [] then some (.tup (List.replicate k.toNat xs).flatten) else none
  | .fdiv, .int i, .int j => if 0 < j ∧ j < 1073741824 then some (.int (i / j)) else none
  | .mod, .int i, .int j => if 0 < j then some (.int (i % j)) else none
  | .pow, .int i, .int j => if 0 ≤ j ∧ j ≤ 100 ∧ -1000 ≤ i ∧ i ≤ 1000 then some (.int (i ^ j.toNat)) else none
  | _, _, _ => none
def flatD : D → Bool
  | .non => true | .bl _ => true | .int _ => true | .str _ => true
  | _ => false
def eqF : D → D → Bool
  | .non, .non => true
  | .bl a, .bl b => a == b
  | .bl a, .int b => (if a then 1 else 0) == b
  | .int a, .bl b => a == (if b then 1 else 0)
  | .int a, .int b => a == b
  | .str a, .str b => a == b
  | _, _ => false
def inD (x : D) : D → Option Bool
  | .lst ys => (toP 60 x).bind fun p => (toPs 59 ys).map fun ps => ps.any fun z => PyData.eqv z p
  | .tup ys => if (flatD x && ys.all flatD) = true then some (ys.any fun y => eqF y x) else none
  | .dic kvs => (keyOf x).map fun k => (lookK kvs k).isSome
  | .str z => match x with
    | .str y => some (!(Builtin.Str.occurrences z y 0 z.length 1).isEmpty)
    | _ => none
  | _ => none
def isD : D → D → Option Bool
  | .non, .non => some true
  | x, .non => match x with
    | .exc _ => none
    | .fn _ => none
    | .box _ => none
    | _ => some false
  | .bl a, .bl b => some (a == b)
  | _, _ => none
def cmpD : Co → D → D → Option D
  | .lt, .int i, .int j => some (.bl (decide (i < j)))
  | .le, .int i, .int j => some (.bl (decide (i ≤ j)))
  | .gt, .int i, .int j => some (.bl (decide (j < i)))
  | .ge, .int i, .int j => some (.bl (decide (j ≤ i)))
  | .eq, a, b => (eqD a b).map .bl
  | .ne, a, b => (eqD a b).map fun r => .bl (!r)
  | .isin, a, b => (inD a b).map .bl
  | .notin, a, b => (inD a b).map fun r => .bl (!r)
  | .is_, a, b => (isD a b).map .bl
  | .isnot, a, b => (isD a b).map fun r => .bl (!r)
  | _, _, _ => none
def idxD : D → D → Option D
  | .lst xs, .int i => atI xs i
  | .tup xs, .int i => atI xs i
  | .str z, .int i => if z.length ≤ big then (atI z.cps.toList i).map fun c => .str ⟨#[c]⟩ else none
  | .dic kvs, k => (keyOf k).bind fun k => lookK kvs k
  | _, _ => none
def slD : D → D → D → Option D
  | .lst xs, lo, hi => (optI lo).bind fun lo => (optI hi).map fun hi => .lst (cutD xs lo hi)
  | .tup xs, lo, hi => (optI lo).bind fun lo => (optI hi).map fun hi => .tup (cutD xs lo hi)
  | .str z, lo, hi => if z.length ≤ big then (optI lo).bind fun lo => (optI hi).map fun hi => .str (cutT z lo hi) else none
  | _, _, _ => none
def bltTys : List String := ["int", "bool", "str", "tuple", "list"]
def subx (c t : String) : Bool := c == t || t == "StayError" || t == "ValueError"
def isiB (a t : String) : Bool := a == t || (a == "bool" && t == "int")
def isiD (x : D) (t : String) : Option Bool := if bltTys.contains t = true then (match x with
  | .non => some (isiB "NoneType" t) | .bl _ => some (isiB "bool" t) | .int _ => some (isiB "int" t) | .str _ => some (isiB "str" t)
  | .tup _ => some (isiB "tuple" t) | .lst _ => some (isiB "list" t) | .dic _ => some (isiB "dict" t) | _ => none) else none
def strD : Str → List D := fun z => z.cps.toList.map fun c => .str ⟨#[c]⟩
def biD : Bi → List D → Option D
  | .len, [.str z] => if z.length ≤ big then some (.int z.length) else none
  | .len, [.lst xs] => some (.int xs.length)
  | .len, [.tup xs] => some (.int xs.length)
  | .len, [.dic xs] => some (.int xs.length)
  | .sum, [.lst xs] => (asInts xs).map fun ns => .int ns.sum
  | .sum, [.tup xs] => (asInts xs).map fun ns => .int ns.sum
  | .mx1, [.lst xs] => (asInts xs).bind fun ns => if ns = [] then none else some (.int (mxI ns))
  | .mx1, [.tup xs] => (asInts xs).bind fun ns => if ns = [] then none else some (.int (mxI ns))
  | .mn1, [.tup xs] => (asInts xs).bind fun ns => if ns = [] then none else some (.int (mnI ns))
  | .mn1, [.lst xs] => match asInts xs with
    | some ns => if ns = [] then none else some (.int (mnI ns))
    | none => (asPrs xs).bind fun ps => if ps = [] then none else some (prD (mnP ps))
  | .mxd, [.lst xs, .int d] => (asInts xs).map fun ns => if ns = [] then .int d else .int (mxI ns)
  | .mx2, [.int i, .int j] => some (.int (if j > i then j else i))
  | .mn2, [.int i, .int j] => some (.int (if j < i then j else i))
  | .all, [.lst xs] => (asBls xs).map fun bs => .bl (bs.all id)
  | .any, [.lst xs] => (asBls xs).map fun bs => .bl (bs.any id)
  | .sorted, [.lst xs] => (sortD xs).map .lst
  | .sorted, [.dic kvs] => if kvs.length < 64 then (sortD (kvs.map fun kv => keyD kv.1)).map .lst else none
  | .list, [.lst xs] => some (.lst xs)
  | .list, [.tup xs] => some (.lst xs)
  | .list, [.dic kvs] => some (.lst (kvs.map fun kv => keyD kv.1))
  | .tup, [.lst xs] => some (.tup xs)
  | .tup, [.tup xs] => some (.tup xs)
  | .dict, [.dic kvs] => some (.dic kvs)
  | .dict, [.lst xs] => (asKvs xs).map fun kvs => .dic (kvs.foldl (fun acc kv => setK acc kv.1 kv.2) [])
  | .int, [.bl b] => some (.int (if b then 1 else 0))
  | .int, [.int i] => some (.int i)
  | .int, [.str z] => if z.length ≤ 640 then (PySem.intText? z).map .int else none
  | .str, [.int i] => if i.natAbs < 2 ^ 100 then some (.str (toString i)) else none
  | .str, [.str z] => some (.str z)
  | .divmod, [.int i, .int j] => if 0 < j ∧ j < 1073741824 then some (.tup [.int (i / j), .int (i % j)]) else none
  | .rlen, [.int a, .int b, .int c] => if (lim62 a && lim62 b && decide (0 < c) && decide (c < 1073741824)) = true then some (.int (rngN a b c)) else none
  | .inr, [x, .int n] => match x with
    | .int i => some (.bl (decide (0 ≤ i) && decide (i < n)))
    | _ => none
  | .ninr, [x, .int n] => match x with
    | .int i => some (.bl (!(decide (0 ≤ i) && decide (i < n))))
    | _ => none
  | .lrng, [.int n] => if lim62 n = true ∧ n ≤ 1000000 then some (.lst (rngL 0 1 n.toNat)) else none
  | .slen, [.lst xs] => (asInts xs).map fun ns => .int (dedI ns).length
  | .sset, [.lst xs] => (asInts xs).bind fun ns => if ns.length < 64 then some (.lst ((sortBy ltI (dedI ns)).map .int)) else none
  | .skeys, [.dic kvs] => if kvs.length < 64 then (sortD (kvs.map fun kv => keyD kv.1)).map .lst else none
  | .lkeys, [.dic kvs] => some (.lst (kvs.map fun kv => keyD kv.1))
  | .litems, [.dic kvs] => some (.lst (kvs.map fun kv => .tup [keyD kv.1, kv.2]))
  | .count, [.lst xs, x] => (toP 60 x).bind fun p => (toPs 59 xs).map fun ps => .int (ps.countP fun z => PyData.eqv z p)
  | .index, [.lst xs, x] => (toP 60 x).bind fun p => (toPs 59 xs).bind fun ps => (ps.findIdx? fun z => PyData.eqv z p).map fun j => .int j
  | .get1, [.dic kvs, k] => (keyOf k).map fun k => (lookK kvs k).getD .non
  | .get2, [.dic kvs, k, d] => match d with
    | .box _ => none
    | d => (keyOf k).map fun k => (lookK kvs k).getD d
  | .join, [.str z, .lst xs] => (asStrs xs).bind fun ys => if (ys.map (·.length)).sum + ys.length * z.length ≤ big then some (.str (Txt.join z ys)) else none
  | .split, [.str a, .str b] => if (b.length == 0) = false ∧ a.length + 2 ≤ big then some (.lst ((Txt.split a b).map .str)) else none
  | .part, [.str a, .str b] => if (b.length == 0) = false ∧ a.length ≤ big then some (.tup [.str (Txt.partition a b).1, .str (Txt.partition a b).2.1, .str (Txt.partition a b).2.2]) else none
  | _, _ => none
def srcD : Sk → List D → Option (List D)
  | .it, [.lst xs] => some xs
  | .it, [.tup xs] => some xs
  | .it, [.str z] => if z.length ≤ big then some (strD z) else none
  | .it, [.dic kvs] => some (kvs.map fun kv => keyD kv.1)
  | .rng, [.int n] => if lim62 n = true then some (rngL 0 1 n.toNat) else none
  | .rng, [.int a, .int b] => if (lim62 a && lim62 b) = true then some (rngL a 1 (b - a).toNat) else none
  | .enum, [.lst xs] => some (xs.mapIdx fun i x => .tup [.int i, x])
  | .enum, [.tup xs] => some (xs.mapIdx fun i x => .tup [.int i, x])
  | .zip, [.lst xs, .lst ys] => some ((xs.zip ys).map fun p => .tup [p.1, p.2])
  | .zip, [.tup xs, .tup ys] => some ((xs.zip ys).map fun p => .tup [p.1, p.2])
  | .keys, [.dic kvs] => some (kvs.map fun kv => keyD kv.1)
  | .vals, [.dic kvs] => some (kvs.map fun kv => kv.2)
  | .items, [.dic kvs] => some (kvs.map fun kv => .tup [keyD kv.1, kv.2])
  | _, _ => none

/-- .. by a comprehension: what it makes has room -/
def srcC (k : Sk) (ds : List D) : Option (List D) := (srcD k ds).bind fun items => if k = .rng ∧ ¬ items.length ≤ big then none else some items

/-- what a method is asked of -/
def kdOk : Bi → D → Bool
  | .index, .lst _ => true
  | .count, .lst _ => true
  | .get1, .dic _ => true
  | .get2, .dic _ => true
  | _, _ => false
mutual
/-- no caught error within -/
def noX : D → Bool
  | .exc _ => false
  | .fn _ => false
  | .tup xs => noXs xs
  | .lst xs => noXs xs
  | .dic kvs => noXk kvs
  | .ins _ fs => noXf fs
  | _ => true
def noXs : List D → Bool
  | [] => true
  | d :: ds => noX d && noXs ds
def noXk : List (Key × D) → Bool
  | [] => true
  | (_, d) :: ds => noX d && noXk ds
def noXf : List (String × D) → Bool
  | [] => true
  | (_, d) :: ds => noX d && noXf ds
end

/-! ### evaluation -/
inductive Sl where
  | no | val (d : D) | own (d : D)
abbrev Env := List Sl
abbrev Mu := List (Bool × D)
inductive Res (α : Type) where
  | ok (a : α) (m : Mu) | exc (c : String) (m : Mu) | bad
def Res.bind {α β : Type} : Res α → (α → Mu → Res β) → Res β
  | .ok a m, k => k a m
  | .exc c m, _ => .exc c m
  | .bad, _ => .bad
def up {α : Type} : Option α → Mu → Res α
  | some a, m => .ok a m
  | none, _ => .bad
abbrev Fn := String → List D → Mu → Res D
def look (m : Mu) : D → D
  | .box n => match m[n]? with
    | some (_, d) => d
    | none => .box n
  | d => d
/-- what is an object that can be changed -/
def isObj : D → Bool
  | .lst _ => true
  | .dic _ => true
  | .ins _ _ => true
  | _ => false
def ownIf (d : D) : Sl := if isObj d = true then .own d else .val d
def slot (r : Env) (i : Nat) : Sl := (r[i]?).getD .no
def bindTg : Tg → D → Env → Option Env
  | .one i, d, r => some (r.set i (.val d))
  | .many is, .tup xs, r => if xs.length = is.length then some ((is.zip xs).foldl (fun r p => r.set p.1 (.val p.2)) r) else none
  | .many _, _, _ => none
def wipeE (r : Env) (is : List Nat) : Env := is.foldl (fun r i => r.set i .no) r
def loopC (step : D → Mu → Res (Option D)) : List D → Mu → Res (List D)
  | [], m => .ok [] m
  | x :: xs, m => (step x m).bind fun o m => (loopC step xs m).bind fun ys m => .ok (match o with
    | some y => y :: ys
    | none => ys) m
/-- a box is walked: it may not be changed meanwhile -/
def lkOf (ds : List D) (m : Mu) : Option Nat := match ds with
  | [.box n] => match m[n]? with
    | some (false, _) => some n
    | _ => none
  | _ => none
def lockO (o : Option Nat) (m : Mu) : Mu := match o with
  | some n => m.modify n fun p => (true, p.2)
  | none => m
def unlockO (o : Option Nat) (m : Mu) : Mu := match o with
  | some n => m.modify n fun p => (false, p.2)
  | none => m
def srcM (k : Sk) (ds : List D) (m : Mu) : Option (List D) := match k with
  | .rng => srcC k ds
  | .enum => srcC k ds
  | .zip => srcC k ds
  | k => srcC k (ds.map (look m))
def srcF (k : Sk) (ds : List D) (m : Mu) : Option (List D) := match ds with
  | [.dic _] => none
  | [.box _] => none
  | ds => srcM k ds m
/-- no exception leaves -/
def Res.calm {α : Type} : Res α → Res α
  | .exc _ _ => .bad
  | r => r
def Res.mapMu {α : Type} (f : Mu → Mu) : Res α → Res α
  | .ok a m => .ok a (f m)
  | .exc c m => .exc c (f m)
  | .bad => .bad
def tstD : D → Mu → Res Bool
  | .bl b, m => .ok b m
  | _, _ => .bad
mutual
def ev (F : Fn) : E → Env → Mu → Res D
  | .v i, r, m => match slot r i with
    | .val d => .ok d m
    | _ => .bad
  | .b i, r, m => match slot r i with
    | .val d => .ok d m
    | .own d => .ok d m
    | .no => .bad
  | .c d, _, m => .ok d m
  | .bin o x y, r, m => (ev F x r m).bind fun a m => (ev F y r m).bind fun b m => up (binD o (look m a) (look m b)) m
  | .neg x, r, m => (ev F x r m).bind fun a m => match a with
    | .int i => .ok (.int (-i)) m
    | _ => .bad
  | .not x, r, m => (ev F x r m).bind fun a m => (tstD a m).bind fun b m => .ok (.bl (!b)) m
  | .and x y, r, m => (ev F x r m).bind fun a m => (tstD a m).bind fun b m => if b = true then ev F y r m else .ok (.bl false) m
  | .or x y, r, m => (ev F x r m).bind fun a m => (tstD a m).bind fun b m => if b = true then .ok (.bl true) m else ev F y r m
  | .ife t x y, r, m => (ev F t r m).bind fun a m => (tstD a m).bind fun b m => if b = true then ev F x r m else ev F y r m
  | .cmp o x y, r, m => (ev F x r m).bind fun a m => (ev F y r m).bind fun b m => up (cmpD o (look m a) (look m b)) m
  | .ch2 o p x y z, r, m => (ev F x r m).bind fun a m => (ev F y r m).bind fun b m => (up (cmpD o (look m a) (look m b)) m).bind fun q m => (tstD q m).bind fun k m =>
      if k = true then (ev F z r m).bind fun c m => up (cmpD p (look m b) (look m c)) m else .ok (.bl false) m
  | .tup es, r, m => (evs F es r m).bind fun ds m => .ok (.tup ds) m
  | .lst es, r, m => (evs F es r m).bind fun ds m => .ok (.lst ds) m
  | .dict ks es, r, m => (evs F es r m).bind fun ds m => if ks.length = ds.length ∧ ks.length ≤ 15 then .ok (.dic ((ks.zip ds).foldl (fun acc kv => setK acc kv.1 kv.2) [])) m else .bad
  | .idx x i, r, m => (ev F x r m).bind fun a m => (ev F i r m).bind fun b m => up (idxD (look m a) b) m
  | .sl x lo hi, r, m => (ev F x r m).bind fun a m => (ev F lo r m).bind fun l m => (up (optI l) m).bind fun _ m => (ev F hi r m).bind fun h m => up (slD (look m a) l h) m
  | .rev x, r, m => (ev F x r m).bind fun a m => match look m a with
    | .lst xs => .ok (.lst xs.reverse) m
    | .tup xs => .ok (.tup xs.reverse) m
    | _ => .bad
  | .fld x f, r, m => (ev F x r m).bind fun a m => match look m a with
    | .ins _ fs => up (fs.lookup f) m
    | _ => .bad
  | .call f es, r, m => (evs F es r m).bind fun ds m => F f ds m
  | .meth x n cs es, r, m => (ev F x r m).bind fun a m => match look m a with
    | .ins c fs => if cs.contains c = true ∧ (fs.lookup n).isNone = true then (evs F es r m).bind fun ds m => F (c ++ "." ++ n) (a :: ds) m else .bad
    | _ => .bad
  | .new c es, r, m => (evs F es r m).bind fun ds m => (F c ds m).calm
  | .bi f es, r, m => (evs F es r m).bind fun ds m => up (biD f (ds.map (look m))) m
  | .isi x t, r, m => (ev F x r m).bind fun a m => up ((isiD (look m a) t).map .bl) m
  | .comp el tg k es cond own, r, m => (evs F es r m).bind fun ds m => (up (srcM k ds m) m).bind fun items m =>
      ((loopC (fun x m => (up (bindTg tg x (wipeE r own)) m).bind fun r' m => ((evc F cond r' m).bind fun b m => if b = true then (ev F el r' m).bind fun d m => .ok (some d) m else .ok none m).calm) items (lockO (lkOf ds m) m)).mapMu (unlockO (lkOf ds m))).bind fun xs m => .ok (.lst xs) m
  | .box x, r, m => (ev F x r m).bind fun d m => if isObj d = true then .ok (.box m.length) (m ++ [(false, d)]) else .bad
  | .pop x k, r, m => (ev F x r m).bind fun a m => (ev F k r m).bind fun b m => match a, b with
    | .box n, b => match m[n]? with
      | some (false, .lst xs) => match b with
        | .int i => match ixN xs.length i with
          | some j => (up (xs[j]?) m).bind fun d m => .ok d (m.set n (false, .lst (xs.eraseIdx j)))
          | none => .bad
        | _ => .bad
      | some (false, .dic kvs) => (up ((keyOf b).bind fun k => (lookK kvs k).map fun d => (k, d)) m).bind fun p m => .ok p.2 (m.set n (false, .dic (delK kvs p.1)))
      | _ => .bad
    | _, _ => .bad
  | .bm f x ys, r, m => (ev F x r m).bind fun a m => if kdOk f (look m a) = true then (evs F ys r m).bind fun bs m => up (biD f (look m a :: bs.map (look m))) m else .bad
  | .isx x c, r, m => (ev F x r m).bind fun a m => match a with
    | .exc k => .ok (.bl (subx k c)) m
    | _ => .bad
def evs (F : Fn) : List E → Env → Mu → Res (List D)
  | [], _, m => .ok [] m
  | e :: es, r, m => (ev F e r m).bind fun d m => (evs F es r m).bind fun ds m => .ok (d :: ds) m
/-- all tests hold -/
def evc (F : Fn) : List E → Env → Mu → Res Bool
  | [], _, m => .ok true m
  | e :: es, r, m => (ev F e r m).bind fun a m => (tstD a m).bind fun b m => if b = true then evc F es r m else .ok false m
end

inductive Rs where
  | nx (r : Env) (m : Mu) | rt (d : D) (r : Env) (m : Mu) | exc (c : String) (r : Env) (m : Mu) | bad
/-- an expression within a statement -/
def Res.on {α : Type} : Res α → Env → (α → Mu → Rs) → Rs
  | .ok a m, _, k => k a m
  | .exc c m, r, _ => .exc c r m
  | .bad, _, _ => .bad
def Rs.then : Rs → (Env → Mu → Rs) → Rs
  | .nx r m, k => k r m
  | x, _ => x
def freeze (r : Env) (is : List Nat) : Env := is.foldl (fun r i => match slot r i with
  | .own d => r.set i (.val d)
  | _ => r) r
def loopF (step : D → Env → Mu → Rs) : List D → Env → Mu → Rs
  | [], r, m => .nx r m
  | x :: xs, r, m => (step x r m).then fun r m => loopF step xs r m
def loopW (step : Env → Mu → Res Bool) (body : Env → Mu → Rs) : Nat → Env → Mu → Rs
  | 0, _, _ => .bad
  | n + 1, r, m => (step r m).on r fun b m => if b = true then (body r m).then fun r m => loopW step body n r m else .nx r m
def fuelW : Nat := 1000000
def isL : D → Bool
  | .lst _ => true
  | _ => false
def isDc : D → Bool
  | .dic _ => true
  | _ => false
/-- a place that is changed: an owned slot, or a box -/
inductive Pl where
  | sl (i : Nat) | bx (d : D)
def plc : E → D → Pl
  | .b i, _ => .sl i
  | _, d => .bx d
def chgB (d : D) (r : Env) (m : Mu) (f : D → Option D) : Rs := match d with
  | .box n => match m[n]? with
    | some (false, d) => match f d with
      | some d' => .nx r (m.set n (false, d'))
      | none => .bad
    | _ => .bad
  | _ => .bad
def chg (F : Fn) (o : Pl) (r : Env) (m : Mu) (f : D → Option D) : Rs := match o with
  | .sl i => match slot r i with
    | .own d => match f d with
      | some d' => .nx (r.set i (.own d')) m
      | none => .bad
    | .val d => chgB d r m f
    | .no => .bad
  | .bx d => chgB d r m f
def setfD (f : String) (v : D) : D → Option D
  | .ins c fs => if fs.length < 1000 then some (.ins c (setFd f v fs)) else none
  | _ => none
def setiD (k v : D) : D → Option D
  | .lst xs => match k with
    | .int i => (ixN xs.length i).map fun j => .lst (xs.set j v)
    | _ => none
  | .dic kvs => (keyOf k).bind fun k => if kvs.length < 1000000 then some (.dic (setK kvs k v)) else none
  | _ => none
def appD (v : D) : D → Option D
  | .lst xs => if xs.length < 1000000 then some (.lst (xs ++ [v])) else none
  | _ => none
def extD (v : D) : D → Option D
  | .lst xs => match v with
    | .lst ys => if xs.length + ys.length < 1000000 then some (.lst (xs ++ ys)) else none
    | _ => none
  | _ => none
def spopD (k : D) : D → Option D
  | .dic kvs => (keyOf k).bind fun k => if (lookK kvs k).isSome = true then some (.dic (delK kvs k)) else none
  | _ => none
mutual
/-- a suite that stores nothing -/
def noAsg : St → Bool
  | .ret _ => true
  | .pass => true
  | .ife _ a b => noAsgs a && noAsgs b
  | _ => false
def noAsgs : List St → Bool
  | [] => true
  | s :: ss => noAsg s && noAsgs ss
end
mutual
def ex (F : Fn) : St → Env → Mu → Rs
  | .asg i ow e, r, m => (ev F e r m).on r fun d m => .nx (r.set i (if ow = true then ownIf d else .val d)) m
  | .unp is e, r, m => (ev F e r m).on r fun d m => match bindTg (.many is) d r with
    | some r => .nx r m
    | none => .bad
  | .par i j a b, r, m => (ev F a r m).on r fun x m => (ev F b r m).on r fun y m => .nx ((r.set i (.val x)).set j (.val y)) m
  | .setf o f e, r, m => (ev F e r m).on r fun d m => (ev F o r m).on r fun a m => chg F (plc o a) r m (setfD f d)
  | .seti o k e, r, m => (ev F e r m).on r fun d m => (ev F o r m).on r fun a m => (ev F k r m).on r fun k m => chg F (plc o a) r m (setiD k d)
  | .app o e, r, m => (ev F o r m).on r fun a m => if isL (look m a) = true then (ev F e r m).on r fun d m => chg F (plc o a) r m (appD d) else .bad
  | .ext o e, r, m => (ev F o r m).on r fun a m => if isL (look m a) = true then (ev F e r m).on r fun d m => chg F (plc o a) r m (extD (look m d)) else .bad
  | .spop o k, r, m => (ev F o r m).on r fun a m => if isDc (look m a) = true then (ev F k r m).on r fun k m => chg F (plc o a) r m (spopD k) else .bad
  | .expr e, r, m => (ev F e r m).on r fun _ m => .nx r m
  | .ret e, r, m => (ev F e r m).on r fun d m => .rt d r m
  | .ife t a b, r, m => (ev F t r m).on r fun d m => (tstD d m).on r fun c m => if c = true then exs F a r m else exs F b r m
  | .for_ tg k es bd, r, m => (evs F es r m).on r fun ds m => (up (srcF k ds m) m).on r fun items m =>
      loopF (fun x r m => match bindTg tg x r with
        | some r => exs F bd r m
        | none => .bad) items r m
  | .whl t bd, r, m => loopW (fun r m => (ev F t r m).bind fun d m => tstD d m) (fun r m => exs F bd r m) fuelW r m
  | .raise c, r, m => .exc c r m
  | .try_ bd c ks nm su, r, m => match exs F bd r m with
    | .exc x r m => if ks.contains x = false then .bad else if subx x c = true then
        (match nm with
          | some i => match exs F su (r.set i (.val (.exc x))) m with
            | .nx _ m => if noAsgs su = true then .nx (r.set i .no) m else .bad
            | .rt d r' m => if noX d = true then .rt d r' m else .bad
            | _ => .bad
          | none => match exs F su r m with
            | .nx _ m => if noAsgs su = true then .nx r m else .bad
            | .rt d r' m => if noX d = true then .rt d r' m else .bad
            | _ => .bad)
        else .exc x r m
    | y => y
  | .fz is s, r, m => ex F s (freeze r is) m
  | .flds _, _, _ => .bad
  | .pass, r, m => .nx r m
def exs (F : Fn) : List St → Env → Mu → Rs
  | [], r, m => .nx r m
  | s :: ss, r, m => (ex F s r m).then fun r m => exs F ss r m
end

/-- a def: how many parameters, how many slots, its body; ini: an __init__, of the class of this name -/
structure Fd where
  ini : Bool
  np : Nat
  ns : Nat
  bd : List St
def startE (fd : Fd) (ds : List D) : Env := ds.map .val ++ List.replicate (fd.ns - ds.length) .no
/-- an __init__: fields, one behind the other -/
def iniF (F : Fn) (r : Env) : List (String × E) → List (String × D) → Mu → Res (List (String × D))
  | [], acc, m => .ok acc m
  | (f, e) :: fs, acc, m => (ev F e r m).calm.bind fun d m => iniF F r fs (setFd f d acc) m
def fldsOf : List St → List (String × E)
  | [.flds fs] => fs
  | _ => []
def runFd (F : Fn) (f : String) (fd : Fd) (ds : List D) (m : Mu) : Res D :=
  if fd.ini = true then
    (if ds.length + 1 = fd.np then (iniF F (.no :: startE ⟨true, 0, fd.ns - 1, []⟩ ds) (fldsOf fd.bd) [] m).bind fun fs m => .ok (.ins f fs) m else .bad)
  else (if ds.length = fd.np then
      match exs F fd.bd (startE fd ds) m with
      | .nx _ m => .ok .non m
      | .rt d _ m => .ok d m
      | .exc c _ m => .exc c m
      | .bad => .bad
    else .bad)
def Phi (T : String → Option Fd) : Nat → Fn
  | 0, _, _, _ => .bad
  | 1, f, ds, m => match T f with
    | some fd => if fd.ini = true then .bad else runFd (Phi T 0) f fd ds m
    | none => .bad
  | n + 2, f, ds, m => match T f with
    | some fd => if fd.ini = true then runFd (Phi T n) f fd ds m else runFd (Phi T (n + 1)) f fd ds m
    | none => .bad
end Wh
/-! From the row's own words to the engine's: names become slots. -/
namespace Wh
open PySem L2

/-- what the text is known to bind: defs, classes (boxed or not), constants, errors; the places at which what is made is a box -/
structure Tb where
  fns : List String
  cls : List String
  con : List (String × D)
  excs : List String
  bx : List (Nat × Nat)
  flds : List String
  mets : List (String × List String)
  hfns : List String
structure Cc where
  T : Tb
  N : List Str
  sc : Scope
  mu : List Nat
  oc : List Str
  hot : Bool
def cellsOf (sc : Scope) : List Str := (sc.names.filter fun p => p.2 == .cell).map (·.1)
def kindS (c : Cc) (x : Str) : Option NameKind := c.sc.names.lookup x
def okName (x : Str) : Bool := !(x == ("__debug__" : Str)) && !(x == ("__classdict__" : Str)) && !decide (x = ("__name__" : Str))
def slotOf (c : Cc) (x : Str) : Option Nat := match kindS c x with
  | some .local => c.N.findIdx? (· == x)
  | some .cell => c.N.findIdx? (· == x)
  | some .free => c.N.findIdx? (· == x)
  | _ => none
/-- a slot that is stored to -/
def slotTo (c : Cc) (x : Str) : Option Nat := match kindS c x with
  | some .local => c.N.findIdx? (· == x)
  | some .cell => if c.oc.contains x = true then c.N.findIdx? (· == x) else none
  | _ => none
def isGl (c : Cc) (x : Str) : Bool := match kindS c x with
  | some .globalImplicit => okName x
  | _ => false
def isGlN (c : Cc) (s : String) (x : Str) : Bool := decide (x = S s) && isGl c x
def nameIn (l : List String) (x : Str) : Option String := l.find? fun s => decide (S s = x)
def biNames : List (String × Nat × Bi) := [("len", 1, .len), ("sum", 1, .sum), ("max", 1, .mx1), ("min", 1, .mn1), ("max", 2, .mx2), ("min", 2, .mn2), ("all", 1, .all), ("any", 1, .any),
  ("sorted", 1, .sorted), ("list", 1, .list), ("tuple", 1, .tup), ("dict", 1, .dict), ("int", 1, .int), ("str", 1, .str), ("divmod", 2, .divmod)]
def biOf (x : Str) (n : Nat) : Option Bi := (biNames.find? fun p => decide (S p.1 = x) && p.2.1 == n).map (·.2.2)
def bmNames : List (String × Nat × Bi) := [("count", 1, .count), ("index", 1, .index)]
def bmOf (x : Str) (n : Nat) : Option Bi := (bmNames.find? fun p => decide (S p.1 = x) && p.2.1 == n).map (·.2.2)
def bo : Operator → Option Bo
  | .Add => some .add | .Sub => some .sub | .Mult => some .mul | .FloorDiv => some .fdiv | .Mod => some .mod | .Pow => some .pow
  | _ => none
def co : CmpOp → Option Co
  | .Lt => some .lt | .LtE => some .le | .Gt => some .gt | .GtE => some .ge | .Eq => some .eq | .NotEq => some .ne
  | .In => some .isin | .NotIn => some .notin | .Is => some .is_ | .IsNot => some .isnot
/-- a name of a def that changes it is read: borrowed -/
def bor (c : Cc) : E → E
  | .v i => if c.mu.contains i = true then .b i else .v i
  | e => e
def boxIf (c : Cc) (p : Pos) (e : E) : E := if c.T.bx.contains (p.line, p.col) = true then .box e else e
def cConst : Const → Option D
  | .int i => some (.int i)
  | .bool b => some (.bl b)
  | .none => some .non
  | .str s => some (.str s)
  | _ => none
def cName (c : Cc) (x : Str) : Option E := match slotOf c x with
  | some i => if okName x = true then some (.v i) else none
  | none => if isGl c x = true then (match c.T.con.find? fun p => decide (S p.1 = x) with
    | some p => some (.c p.2)
    | none => none) else none
def nameOf : Expr → Option Str
  | .Name x _ => some x
  | _ => none
def tgOf (c : Cc) : Expr → Option Tg
  | .Name x _ => (slotTo c x).map .one
  | .Tuple es _ _ => (es.mapM fun e => (nameOf e).bind (slotTo c)).map .many
  | _ => none
def tgIx : Tg → List Nat
  | .one i => [i]
  | .many is => is
def cKey : Option Expr → Option Key
  | some (.Constant (.int i) _ _) => some (.inl i)
  | some (.Constant (.str s) _ _) => some (.inr s)
  | _ => none
def isM1 : Expr → Bool
  | .UnaryOp .USub (.Constant (.int 1) _ _) _ => true
  | _ => false
/-- len(range(a, b, c)) -/
def rlOf (c : Cc) (x : Str) (as : List Expr) : Option (List Expr) := if x = S "len" then (match as with
  | [.Call (.Name y _) [a, b, d] [] _] => if isGlN c "range" y = true then some [a, b, d] else none
  | _ => none) else none
def rngOf (c : Cc) : Expr → Option Expr
  | .Call (.Name y _) [a] [] _ => if isGlN c "range" y = true then some a else none
  | _ => none
/-- what a for walks -/
def srcOf (c : Cc) : Expr → Sk × List Expr
  | .Call (.Name y p) as [] q =>
    if isGlN c "range" y = true ∧ (as.length = 1 ∨ as.length = 2) then (.rng, as) else if isGlN c "enumerate" y = true ∧ as.length = 1 then (.enum, as) else if isGlN c "zip" y = true ∧ as.length = 2 then (.zip, as)
    else (.it, [.Call (.Name y p) as [] q])
  | e => (.it, [e])
def srcTg : Sk → Tg → Bool
  | .enum, .one _ => false
  | .zip, .one _ => false
  | .items, .one _ => false
  | _, _ => true
def strOf (x : Str) : String := String.ofList (x.cps.toList.map Char.ofNat)

mutual
def cE (c : Cc) : Nat → Expr → Option E
  | 0, _ => none
  | n + 1, e => match e with
    | .Constant k _ _ => (cConst k).map .c
    | .Name x _ => cName c x
    | .BinOp a o b p => (bo o).bind fun o => (cE c n a).bind fun x => (cE c n b).map fun y => boxIf c p (.bin o (bor c x) (bor c y))
    | .UnaryOp o a _ => match o with
      | .USub => (cE c n a).map .neg
      | .Not => (cE c n a).map .not
      | _ => none
    | .BoolOp o es _ => cB c n o es
    | .IfExp t a b _ => (cE c n t).bind fun t => (cE c n a).bind fun x => (cE c n b).map fun y => .ife t x y
    | .Compare a ops bs _ => match ops, bs with
      | [o], [b] => (co o).bind fun o => (cE c n a).bind fun x => (cE c n b).map fun y => .cmp o (bor c x) (bor c y)
      | [o, p], [b, d] => (co o).bind fun o => (co p).bind fun p => (cE c n a).bind fun x => (cE c n b).bind fun y => (cE c n d).map fun z => .ch2 o p x y z
      | [o, p, q], [b, d, f] => (co o).bind fun o => (co p).bind fun p => (co q).bind fun q => (cE c n a).bind fun x => (cE c n b).bind fun y => (cE c n d).bind fun z => match z with
        | .v i => (cE c n f).map fun w => .and (.ch2 o p x y (.v i)) (.cmp q (.v i) w)
        | _ => none
      | _, _ => none
    | .Tuple es _ _ => if es.length ≤ 1000 then (cEs c n es).map .tup else none
    | .List es p => if es.length ≤ 1000 then (cEs c n es).map fun xs => boxIf c p (.lst xs) else none
    | .Dict ks es p => match ks, es with
      | [], [] => some (boxIf c p (.dict [] []))
      | _, _ => none
    | .Subscript a i p => match i with
      | .Slice lo hi st _ => match st with
        | none => (cE c n a).bind fun x => (cO c n lo).bind fun l => (cO c n hi).map fun h => boxIf c p (.sl (bor c x) l h)
        | some s => match lo, hi, s with
          | none, none, .UnaryOp .USub (.Constant (.int 1) _ _) _ => (cE c n a).map fun x => .rev (bor c x)
          | _, _, _ => none
      | i => (cE c n a).bind fun x => (cE c n i).map fun y => .idx (bor c x) y
    | .Attribute a f _ => (cE c n a).bind fun x => (nameIn c.T.flds f).map fun f => .fld (bor c x) f
    | .ListComp el gs scope p => match gs with
      | [⟨tg, it, ifs, as⟩] => if (as = 0 ∧ ifs.length ≤ 1) ∧ c.hot = false then
          (tgOf { c with sc := relS scope c.sc, oc := cellsOf scope } tg).bind fun t =>
            if blkC c.N c.sc scope ((tgIx t).filterMap fun i => (c.N[i]?).map fun x => (x, i)) = true ∧ srcTg (srcOf c it).1 t = true then
              (cEb c n (srcOf c it).2).bind fun s => (cEs { c with sc := relS scope c.sc, oc := cellsOf scope } n ifs).bind fun cs => (cE { c with sc := relS scope c.sc, oc := cellsOf scope } n el).map fun e => boxIf c p (.comp e t (srcOf c it).1 s cs (tgIx t))
            else none
        else none
      | _ => none
    | .Call f as ks p => match f with
      | .Name x _ => match ks with
        | [] => if isGl c x = true then (if c.hot = true then (if x = S "isinstance" then (match as with
              | [a, .Name t _] => if isGl c t = true then (cE c n a).bind fun e => (nameIn ("ValueError" :: c.T.excs) t).map fun t => .isx e t else none
              | _ => none)
            else match nameIn c.T.hfns x with
              | some f => (cEs c n as).map fun xs => .call f xs
              | none => none)
          else match rlOf c x as with
          | some as' => (cEb c n as').map fun xs => .bi .rlen xs
          | none => match biOf x as.length with
            | some b => (cEb c n as).map fun xs => boxIf c p (.bi b xs)
            | none => if x = S "isinstance" then (match as with
                | [a, .Name t _] => if isGl c t = true then (cE c n a).bind fun e => match nameIn bltTys t with
                    | some t => some (.isi (bor c e) t)
                    | none => (nameIn ("ValueError" :: c.T.excs) t).map fun t => .isx e t
                  else none
                | _ => none)
              else match nameIn c.T.fns x with
                | some f => (cEs c n as).map fun xs => .call f xs
                | none => match nameIn c.T.cls x with
                  | some k => (cEs c n as).map fun xs => boxIf c p (.new k xs)
                  | none => none)
          else none
        | _ => none
      | .Attribute o m pa => match ks with
        | [] => if (pa.endLine == p.line) = true then (match c.T.mets.find? fun q => decide (S q.1 = m) with
          | some g => if c.hot = true ∨ 30 ≤ as.length then none else (cE c n o).bind fun x => (cEs c n as).map fun xs => .meth x g.1 g.2 xs
          | none => match bmOf m as.length with
            | some b => (cE c n o).bind fun x => (cEb c n as).map fun ys => .bm b (bor c x) ys
            | none => none)
          else none
        | _ => none
      | _ => none
    | _ => none
def cB (c : Cc) : Nat → BoolOp → List Expr → Option E
  | 0, _, _ => none
  | n + 1, o, es => match es with
    | [] => none
    | [a] => cE c n a
    | a :: b :: r => (cE c n a).bind fun x => (cB c n o (b :: r)).map fun y => match o with
      | .And => .and x y
      | .Or => .or x y
def cEs (c : Cc) : Nat → List Expr → Option (List E)
  | 0, _ => none
  | n + 1, es => match es with
    | [] => some []
    | e :: es => (cE c n e).bind fun x => (cEs c n es).map fun xs => x :: xs
/-- operands that are read alone -/
def cEb (c : Cc) : Nat → List Expr → Option (List E)
  | 0, _ => none
  | n + 1, es => match es with
    | [] => some []
    | e :: es => (cE c n e).bind fun x => (cEb c n es).map fun xs => bor c x :: xs
def cO (c : Cc) : Nat → Option Expr → Option E
  | 0, _ => none
  | n + 1, e => match e with
    | none => some (.c .non)
    | some e => cE c n e
end

mutual
/-- what leaves the boxes alone -/
def stillE (hf : List String) : E → Bool
  | .v _ => true | .b _ => true | .c _ => true
  | .bin _ x y => stillE hf x && stillE hf y
  | .neg x => stillE hf x | .not x => stillE hf x | .and x y => stillE hf x && stillE hf y | .or x y => stillE hf x && stillE hf y
  | .ife t x y => stillE hf t && stillE hf x && stillE hf y
  | .cmp _ x y => stillE hf x && stillE hf y
  | .tup es => stillEs hf es | .lst es => stillEs hf es
  | .idx x y => stillE hf x && stillE hf y
  | .isx x _ => stillE hf x
  | .bm _ x ys => stillE hf x && stillEs hf ys
  | .call f es => hf.contains f && stillEs hf es
  | _ => false
def stillEs (hf : List String) : List E → Bool
  | [] => true
  | e :: es => stillE hf e && stillEs hf es
end
mutual
def stillS (hf : List String) : St → Bool
  | .asg _ _ e => stillE hf e
  | .ret e => stillE hf e
  | .ife t a b => stillE hf t && stillSs hf a && stillSs hf b
  | .pass => true
  | _ => false
def stillSs (hf : List String) : List St → Bool
  | [] => true
  | s :: ss => stillS hf s && stillSs hf ss
end
/-! ### statements -/
mutual
def vE (mu : List Nat) : E → List Nat
  | .v i => if mu.contains i = true then [i] else []
  | .bin _ x y => vE mu x ++ vE mu y
  | .neg x => vE mu x | .not x => vE mu x | .and x y => vE mu x ++ vE mu y | .or x y => vE mu x ++ vE mu y
  | .ife t x y => vE mu t ++ vE mu x ++ vE mu y
  | .cmp _ x y => vE mu x ++ vE mu y | .ch2 _ _ x y z => vE mu x ++ vE mu y ++ vE mu z
  | .tup es => vEs mu es | .lst es => vEs mu es | .dict _ es => vEs mu es
  | .idx x i => vE mu x ++ vE mu i | .sl x l h => vE mu x ++ vE mu l ++ vE mu h | .rev x => vE mu x
  | .fld x _ => vE mu x
  | .call _ es => vEs mu es | .meth x _ _ es => vE mu x ++ vEs mu es | .new _ es => vEs mu es
  | .bi _ es => vEs mu es | .isi x _ => vE mu x
  | .comp el _ _ es cs _ => vE mu el ++ vEs mu es ++ vEs mu cs
  | .box x => vE mu x | .pop x k => vE mu x ++ vE mu k | .bm _ x ys => vE mu x ++ vEs mu ys | .isx x _ => vE mu x
  | _ => []
def vEs (mu : List Nat) : List E → List Nat
  | [] => []
  | e :: es => vE mu e ++ vEs mu es
end
def fzIf (is : List Nat) (s : St) : St := if is = [] then s else .fz is s
/-- what is new and its own -/
def isFresh : E → Bool
  | .lst _ => true | .dict _ _ => true | .comp .. => true | .new _ _ => true
  | .bin .add _ _ => true | .bin .mul _ _ => true | .sl _ _ _ => true
  | .bi f _ => f == .list || f == .dict || f == .sorted || f == .lrng || f == .sset || f == .skeys || f == .lkeys || f == .litems || f == .split
  | _ => false
/-- slots that a def's own statements change -/
def muName (c : Cc) : Expr → List Nat
  | .Name x _ => (slotOf c x).toList
  | _ => []
def changers : List String := ["append", "extend"]
mutual
def muS (c : Cc) : Nat → Stmt → List Nat
  | 0, _ => []
  | n + 1, s => match s with
    | .Assign ts _ _ => ts.flatMap fun t => match t with
      | .Subscript o _ _ => muName c o
      | .Attribute o _ _ => muName c o
      | _ => []
    | .Expr e _ => match e with
      | .Call (.Attribute o m _) as [] _ => if (changers.any fun s => decide (S s = m)) = true ∨ (m = S "pop" ∧ as.length = 1) then muName c o else []
      | _ => []
    | .For _ _ b _ _ => muSs c n b
    | .While _ b _ _ => muSs c n b
    | .If _ a b _ => muSs c n a ++ muSs c n b
    | .Try b hs _ _ _ => muSs c n b ++ hs.flatMap fun h => match h with
      | .ExceptHandler _ _ su _ => muSs c n su
    | _ => []
def muSs (c : Cc) : Nat → List Stmt → List Nat
  | 0, _ => []
  | n + 1, ss => match ss with
    | [] => []
    | s :: r => muS c n s ++ muSs c n r
end
def lcOf : Expr → Option Scope
  | .ListComp _ _ s _ => some s
  | _ => none
def sameLine (ts : List Expr) : Bool := ts.all fun t => decide (t.pos.line = ((ts.head?.map (·.pos.line)).getD 0))
mutual
def cS (c : Cc) : Nat → Stmt → Option St
  | 0, _ => none
  | n + 1, s => match s with
    | .Pass _ => some .pass
    | .Expr e _ => match e with
      | .Call (.Attribute o m pa) as ks pc => match as, ks with
        | [a], [] => if (pa.endLine == pc.line) = true then (if m = S "append" then (cE c n o).bind fun x => (cE c n a).map fun y => fzIf (vE c.mu y) (.app (bor c x) y)
            else if m = S "extend" then (cE c n o).bind fun x => (cE c n a).map fun y => fzIf (vE c.mu (bor c y)) (.ext (bor c x) (bor c y))
            else (cE c n (.Call (.Attribute o m pa) [a] [] pc)).map fun x => fzIf (vE c.mu x) (.expr x)) else none
        | as, [] => (cE c n (.Call (.Attribute o m pa) as [] pc)).map fun x => fzIf (vE c.mu x) (.expr x)
        | _, _ => none
      | .Call (.Name x p1) as ks p2 => (cE c n (.Call (.Name x p1) as ks p2)).map fun x => fzIf (vE c.mu x) (.expr x)
      | _ => none
    | .Return v _ => match v with
      | none => some (.ret (.c .non))
      | some e => (cE c n e).map fun x => fzIf (vE c.mu x) (.ret x)
    | .Assign ts e _ => match ts with
      | [t] => match t with
        | .Name x _ => (slotTo c x).bind fun i => (cE c n e).bind fun y => if (lcOf e).isSome = true ∧ isFresh y = false then none else some (fzIf (vE c.mu y) (.asg i (c.mu.contains i && isFresh y) y))
        | .Tuple es k pt => (es.mapM fun e => (nameOf e).bind (slotTo c)).bind fun is => match e with
          | .Tuple vs k2 p2 => match is, es, vs with
            | [i, j], [.Name x px, .Name y py], [a, b] => if kindS c x = some .local ∧ kindS c y = some .local ∧ py.line = px.line ∧ ¬ ([a, b].all (foldedForSure 8)) = true ∧ ¬ ([a, b].all (constantsAlone 8)) = true ∧ i ≠ j then
                (cE c n a).bind fun x => (cE c n b).map fun y => fzIf (vE c.mu x ++ vE c.mu y) (.par i j x y)
              else none
            | _, _, _ => none
          | e => (cE c n e).map fun x => fzIf (vE c.mu (bor c x)) (.unp is (bor c x))
        | .Attribute o f _ => (cE c n e).bind fun y => (cE c n o).bind fun x => (nameIn c.T.flds f).map fun f => fzIf (vE c.mu y) (.setf (bor c x) f y)
        | .Subscript o k _ => (cE c n e).bind fun y => (cE c n o).bind fun x => (cE c n k).map fun z => fzIf (vE c.mu y ++ vE c.mu z) (.seti (bor c x) z y)
        | _ => none
      | _ => none
    | .If t a b _ => (cE c n t).bind fun t => (cSs c n a).bind fun x => (cSs c n b).map fun y => fzIf (vE c.mu t) (.ife t x y)
    | .For tg it b els _ => match els with
      | [] => (tgOf c tg).bind fun t => if srcTg (srcOf c it).1 t = true then (cEs c n (srcOf c it).2).bind fun s => (cSs c n b).map fun y => fzIf (vEs c.mu s) (.for_ t (srcOf c it).1 s y) else none
      | _ => none
    | .While t b els _ => match els with
      | [] => (cE c n t).bind fun t => (cSs c n b).map fun y => .whl t y
      | _ => none
    | .Raise e ca _ => match e, ca with
      | some (.Call (.Name x _) [.Constant (.str _) _ _] [] _), none => if isGl c x = true ∧ c.hot = false then (nameIn c.T.excs x).map .raise else none
      | _, _ => none
    | .Try b hs els fin _ => match hs, els, fin with
      | [.ExceptHandler (some (.Name x _)) nm (s0 :: su) _], [], [] => if isGl c x = true ∧ c.hot = false then (nameIn c.T.excs x).bind fun k => match nm with
          | none => (cSs c n b).bind fun y => (cHs { c with hot := true } n (s0 :: su)).bind fun z => if stillSs c.T.hfns z = true then some (.try_ y k c.T.excs none z) else none
          | some v => if kindS c v = some .local then (slotTo c v).bind fun i => (cSs c n b).bind fun y => (cHs { c with hot := true } n (s0 :: su)).bind fun z => if stillSs c.T.hfns z = true then some (.try_ y k c.T.excs (some i) z) else none else none
        else none
      | _, _, _ => none
    | _ => none
/-- a suite: stores to slots, returns, tests -/
def cH (c : Cc) : Nat → Stmt → Option St
  | 0, _ => none
  | n + 1, s => match s with
    | .Return v _ => match v with
      | none => some (.ret (.c .non))
      | some e => (cE c n e).map fun x => fzIf (vE c.mu x) (.ret x)
    | .Assign ts e _ => match ts with
      | [.Name x _] => (slotTo c x).bind fun i => (cE c n e).bind fun y => if (lcOf e).isSome = true ∨ c.mu.contains i = true then none else some (fzIf (vE c.mu y) (.asg i false y))
      | _ => none
    | .If t a b _ => (cE c n t).bind fun t => (cHs c n a).bind fun x => (cHs c n b).map fun y => fzIf (vE c.mu t) (.ife t x y)
    | _ => none
def cHs (c : Cc) : Nat → List Stmt → Option (List St)
  | 0, _ => none
  | n + 1, ss => match ss with
    | [] => some []
    | s :: r => (cH c n s).bind fun x => (cHs c n r).map fun y => x :: y
def cSs (c : Cc) : Nat → List Stmt → Option (List St)
  | 0, _ => none
  | n + 1, ss => match ss with
    | [] => some []
    | s :: r => (cS c n s).bind fun x => (cSs c n r).map fun y => x :: y
end
/-- a def: its slots are its parameters, then its other names -/
def slotsOf (ps : List Str) (sc : Scope) (more : List Str) : List Str :=
  ps ++ ((sc.names.filterMap fun (p : Str × NameKind) => if p.2 == .local || p.2 == .cell then some p.1 else none).filter fun x => !ps.contains x) ++ more.filter fun x => !(ps.contains x) && !((sc.names.lookup x) == some .local) && !((sc.names.lookup x) == some .cell)
end Wh
/-! The table of a text's defs. -/
namespace Wh
open PySem L2
def parsOf (a : Arguments) : List Str := a.args.map (·.arg)
def fastOf (sc : Scope) : List Str := sc.more.filterMap fun p => match p.2 with
  | .str s => some s
  | _ => none
def fuelC : Nat := 200
/-- the context of a def: its slots, the ones that it changes -/
def ccOf (T : Tb) (st : Stmt) : Cc :=
  let N := slotsOf (parsOf (defArgs st)) (defScope st) (fastOf (defScope st))
  let c : Cc := ⟨T, N, defScope st, [], cellsOf (defScope st), false⟩
  { c with mu := (muSs c fuelC (defBody st)).eraseDups }
def cDef (T : Tb) (ini : Bool) (st : Stmt) : Option Fd :=
  (cSs (ccOf T st) fuelC (defBody st)).map fun bd => ⟨ini, (parsOf (defArgs st)).length, (ccOf T st).N.length, bd⟩
/-- an __init__ that stores its fields alone -/
def cIni1 (c : Cc) : Stmt → Option (String × E)
  | .Assign [.Attribute (.Name x _) f _] e _ => if slotOf c x = some 0 ∧ okName x = true then (nameIn c.T.flds f).bind fun g => (cE c fuelC e).map fun y => (g, y) else none
  | _ => none
def cDefI (T : Tb) (st : Stmt) : Option Fd :=
  if 0 < (parsOf (defArgs st)).length ∧ (defBody st).length < 100 then ((defBody st).mapM (cIni1 (ccOf T st))).map fun fs => ⟨true, (parsOf (defArgs st)).length, (ccOf T st).N.length, [.flds fs]⟩ else none
/-- a def that is called while an error is handled -/
def cDefH (T : Tb) (st : Stmt) : Option Fd :=
  (cHs { ccOf T st with hot := true } fuelC (defBody st)).map fun bd => ⟨false, (parsOf (defArgs st)).length, (ccOf T st).N.length, bd⟩
def defName : Stmt → Option Str
  | .FunctionDef n _ _ _ _ _ _ _ _ _ => some n
  | _ => none
def clsOf : Stmt → Option (Str × List Stmt)
  | .ClassDef n _ _ b _ _ _ _ _ _ _ => some (n, b)
  | _ => none
end Wh
/-! How data stands in the heap: frozen (G), boxed (io), owned by a slot. -/
namespace Wh
open PySem L2

structure Wd where
  K : PySem.W.Frag
  mg : Str → Option Value
  isC : String → Addr → Prop
  ex : Option (Addr × String)
mutual
def Rep (C : Wd) (G : Hp) (io : List Addr) : D → V → Prop
  | .non, v => v = .non
  | .bl b, v => v = .bl b
  | .int i, v => v = .int i
  | .str s, v => v = .str s
  | .tup xs, v => ∃ a vs, v = .ref a ∧ SqT C.K G a vs ∧ vs.length ≤ sizeLine ∧ RepL C G io xs vs
  | .lst xs, v => ∃ a vs, v = .ref a ∧ G a = some (.lst vs) ∧ vs.length ≤ sizeLine ∧ RepL C G io xs vs
  | .dic ks, v => ∃ a kvs, v = .ref a ∧ G a = some (.dK kvs) ∧ kvs.length ≤ sizeLine ∧ RepK C G io ks kvs
  | .ins c fs, v => ∃ a A dx fvs, v = .ref a ∧ G a = some (.ins A dx fvs) ∧ C.isC c A ∧ RepF C G io fs fvs
  | .box n, v => ∃ a, v = .ref a ∧ io[n]? = some a
  | .exc c, v => ∃ a, v = .ref a ∧ C.ex = some (a, c)
  | .fn f, v => False
def RepL (C : Wd) (G : Hp) (io : List Addr) : List D → List V → Prop
  | [], vs => vs = []
  | d :: ds, vs => ∃ v r, vs = v :: r ∧ Rep C G io d v ∧ RepL C G io ds r
def RepK (C : Wd) (G : Hp) (io : List Addr) : List (Key × D) → List (Key × V) → Prop
  | [], vs => vs = []
  | (k, d) :: ds, vs => ∃ v r, vs = (k, v) :: r ∧ Rep C G io d v ∧ RepK C G io ds r
def RepF (C : Wd) (G : Hp) (io : List Addr) : List (String × D) → List (Str × V) → Prop
  | [], vs => vs = []
  | (k, d) :: ds, vs => ∃ v r, vs = (S k, v) :: r ∧ Rep C G io d v ∧ RepF C G io ds r
end
/-- an object's content -/
def IsOb (C : Wd) (G : Hp) (io : List Addr) : HO → D → Prop
  | .lst vs, .lst xs => vs.length ≤ sizeLine ∧ RepL C G io xs vs
  | .dK kvs, .dic ks => kvs.length ≤ sizeLine ∧ RepK C G io ks kvs
  | .ins A _ fvs, .ins c fs => C.isC c A ∧ RepF C G io fs fvs
  | _, _ => False
/-- as it is read now -/
def RepB (C : Wd) (H G : Hp) (io : List Addr) : D → V → Prop
  | .lst xs, v => ∃ a vs, v = .ref a ∧ Rd H a (.lst vs) ∧ vs.length ≤ sizeLine ∧ RepL C G io xs vs
  | .dic ks, v => ∃ a kvs, v = .ref a ∧ Rd H a (.dK kvs) ∧ kvs.length ≤ sizeLine ∧ RepK C G io ks kvs
  | .ins c fs, v => ∃ a A dx fvs, v = .ref a ∧ H a = some (.ins A dx fvs) ∧ C.isC c A ∧ RepF C G io fs fvs
  | d, v => Rep C G io d v
/-- what is frozen stands -/
def Sub (G H : Hp) : Prop := ∀ a u, G a = some u → (match u with
  | .ins _ _ _ => H a = some u
  | .tup _ => H a = some u
  | _ => Rd H a u)
structure WRel (C : Wd) (H G : Hp) (io : List Addr) (m : Mu) : Prop where
  sub : Sub G H
  nofrz : ∀ a o u, G a ≠ some (.frz o u)
  len : io.length = m.length
  nd : io.Nodup
  off : ∀ a ∈ io, G a = none
  box : ∀ (n : Nat) (a : Addr) (l : Bool) (d : D), io[n]? = some a → m[n]? = some (l, d) → ∃ u, IsOb C G io u d ∧ Rd H a u ∧ (∀ A dx fs, u = .ins A dx fs → H a = some u) ∧ (l = false → H a = some u) ∧ (l = true → ∃ o, H a = some (.frz o u))
structure Step (H G : Hp) (io : List Addr) (H' G' : Hp) (io' : List Addr) : Prop where
  ext : ∀ a o, H a = some o → (a ∈ io → ∃ od u, o = .frz od u) → H' a = some o
  alive : ∀ a, H' a = none → H a = none
  g : ∀ a u, G a = some u → G' a = some u
  gnew : ∀ a u, G' a = some u → G a = some u ∨ H a = none
  pre : io <+: io'
  new : ∀ a ∈ io', a ∈ io ∨ H a = none

theorem Step.refl (H G : Hp) (io : List Addr) : Step H G io H G io :=
  ⟨fun _ _ h _ => h, fun _ h => h, fun _ _ h => h, fun _ _ h => .inl h, List.prefix_rfl, fun _ h => .inl h⟩
theorem Step.trans {H G H1 G1 H2 G2 : Hp} {io io1 io2 : List Addr} (a : Step H G io H1 G1 io1) (b : Step H1 G1 io1 H2 G2 io2) : Step H G io H2 G2 io2 where
  ext := fun x o h n => b.ext x o (a.ext x o h n) fun hx => by
    rcases a.new x hx with z | z
    · exact n z
    · rw [h] at z; cases z
  alive := fun x h => a.alive x (b.alive x h)
  g := fun x u h => b.g x u (a.g x u h)
  gnew := fun x u h => by
    rcases b.gnew x u h with z | z
    · exact a.gnew x u z
    · exact .inr (a.alive x z)
  pre := a.pre.trans b.pre
  new := fun x h => by
    rcases b.new x h with z | z
    · exact a.new x z
    · exact .inr (a.alive x z)

theorem Sub.rd {G H : Hp} (s : Sub G H) {a : Addr} {u : HO} (h : G a = some u) : Rd H a u := by
  have q := s a u h
  cases u <;> first | exact q | exact .inl q
theorem Rd.mono {G H : Hp} {a : Addr} {u : HO} (hm : ∀ a u, G a = some u → H a = some u) (h : Rd G a u) : Rd H a u := by
  rcases h with h | ⟨o, h⟩
  · exact .inl (hm _ _ h)
  · exact .inr ⟨o, hm _ _ h⟩
theorem SqT.mono {K : PySem.W.Frag} {G H : Hp} {a : Addr} {vs : List V} (hm : ∀ a u, G a = some u → H a = some u) (h : SqT K G a vs) : SqT K H a vs := by
  rcases h with h | h
  · exact .inl (Rd.mono hm h)
  · exact .inr h
theorem SqL.mono {K : PySem.W.Frag} {G H : Hp} {a : Addr} {vs : List V} (hm : ∀ a u, G a = some u → H a = some u) (h : SqL K G a vs) : SqL K H a vs := by
  rcases h with h | h
  · exact .inl (Rd.mono hm h)
  · exact .inr h
theorem rd_frz {G H : Hp} (s : Sub G H) {a : Addr} {u : HO} (h : Rd G a u) : Rd H a u ∨ ∃ o, G a = some (.frz o u) := by
  rcases h with h | ⟨o, h⟩
  · exact .inl (s.rd h)
  · exact .inr ⟨o, h⟩

section
variable {C : Wd} {G G' : Hp} {io io' : List Addr}
theorem pre_get {io io' : List Addr} (h : io <+: io') {n : Nat} {a : Addr} (e : io[n]? = some a) : io'[n]? = some a := by
  obtain ⟨r, rfl⟩ := h
  rw [List.getElem?_append_left (List.getElem?_eq_some_iff.mp e).1]
  exact e
mutual
theorem Rep.mono (hG : ∀ a u, G a = some u → G' a = some u) (hi : io <+: io') : ∀ (d : D) (v : V), Rep C G io d v → Rep C G' io' d v
  | .non, v, h => h
  | .bl b, v, h => h
  | .int i, v, h => h
  | .str s, v, h => h
  | .tup xs, v, h => by
    obtain ⟨a, vs, e, q, z, r⟩ := h
    exact ⟨a, vs, e, SqT.mono hG q, z, RepL.mono hG hi xs vs r⟩
  | .lst xs, v, h => by
    obtain ⟨a, vs, e, q, z, r⟩ := h
    exact ⟨a, vs, e, hG _ _ q, z, RepL.mono hG hi xs vs r⟩
  | .dic ks, v, h => by
    obtain ⟨a, vs, e, q, z, r⟩ := h
    exact ⟨a, vs, e, hG _ _ q, z, RepK.mono hG hi ks vs r⟩
  | .ins c fs, v, h => by
    obtain ⟨a, A, dx, vs, e, q, z, r⟩ := h
    exact ⟨a, A, dx, vs, e, hG _ _ q, z, RepF.mono hG hi fs vs r⟩
  | .box n, v, h => by
    obtain ⟨a, e, q⟩ := h
    exact ⟨a, e, pre_get hi q⟩
  | .exc c, v, h => h
  | .fn f, v, h => h
theorem RepL.mono (hG : ∀ a u, G a = some u → G' a = some u) (hi : io <+: io') : ∀ (ds : List D) (vs : List V), RepL C G io ds vs → RepL C G' io' ds vs
  | [], vs, h => h
  | d :: ds, vs, h => by
    obtain ⟨v, r, e, q, t⟩ := h
    exact ⟨v, r, e, Rep.mono hG hi d v q, RepL.mono hG hi ds r t⟩
theorem RepK.mono (hG : ∀ a u, G a = some u → G' a = some u) (hi : io <+: io') : ∀ (ds : List (Key × D)) (vs : List (Key × V)), RepK C G io ds vs → RepK C G' io' ds vs
  | [], vs, h => h
  | (k, d) :: ds, vs, h => by
    obtain ⟨v, r, e, q, t⟩ := h
    exact ⟨v, r, e, Rep.mono hG hi d v q, RepK.mono hG hi ds r t⟩
theorem RepF.mono (hG : ∀ a u, G a = some u → G' a = some u) (hi : io <+: io') : ∀ (ds : List (String × D)) (vs : List (Str × V)), RepF C G io ds vs → RepF C G' io' ds vs
  | [], vs, h => h
  | (k, d) :: ds, vs, h => by
    obtain ⟨v, r, e, q, t⟩ := h
    exact ⟨v, r, e, Rep.mono hG hi d v q, RepF.mono hG hi ds r t⟩
end
theorem IsOb.mono (hG : ∀ a u, G a = some u → G' a = some u) (hi : io <+: io') {u : HO} {d : D} (h : IsOb C G io u d) : IsOb C G' io' u d := by
  cases u <;> cases d <;> first
    | exact h.elim
    | exact ⟨h.1, RepL.mono hG hi _ _ h.2⟩
    | exact ⟨h.1, RepK.mono hG hi _ _ h.2⟩
    | exact ⟨h.1, RepF.mono hG hi _ _ h.2⟩

/-! ### lists -/
theorem RepL.length : ∀ {ds : List D} {vs : List V}, RepL C G io ds vs → vs.length = ds.length
  | [], vs, h => by
    have e : vs = [] := h
    rw [e] <;> rfl
  | d :: ds, vs, h => by
    obtain ⟨v, r, rfl, _, t⟩ := h
    rw [List.length_cons, List.length_cons, RepL.length t]
theorem RepK.length : ∀ {ds : List (Key × D)} {vs : List (Key × V)}, RepK C G io ds vs → vs.length = ds.length
  | [], vs, h => by
    have e : vs = [] := h
    rw [e] <;> rfl
  | (k, d) :: ds, vs, h => by
    obtain ⟨v, r, rfl, _, t⟩ := h
    rw [List.length_cons, List.length_cons, RepK.length t]
theorem RepL.get : ∀ {ds : List D} {vs : List V} {i : Nat} {d : D}, RepL C G io ds vs → ds[i]? = some d → ∃ v, vs[i]? = some v ∧ Rep C G io d v
  | [], _, _, _, _, e => by simp at e
  | x :: ds, vs, 0, d, h, e => by
    obtain ⟨v, r, rfl, q, t⟩ := h
    have e' : x = d := by simpa using e
    subst e'
    exact ⟨v, rfl, q⟩
  | x :: ds, vs, i + 1, d, h, e => by
    obtain ⟨v, r, rfl, q, t⟩ := h
    obtain ⟨v', e1, e2⟩ := RepL.get (i := i) t (by simpa using e)
    exact ⟨v', by simpa using e1, e2⟩
theorem RepL.get' : ∀ {ds : List D} {vs : List V} {i : Nat} {v : V}, RepL C G io ds vs → vs[i]? = some v → ∃ d, ds[i]? = some d ∧ Rep C G io d v
  | [], vs, i, v, h, e => by
    have z : vs = [] := h
    rw [z] at e
    simp at e
  | x :: ds, vs, 0, v, h, e => by
    obtain ⟨w, r, rfl, q, t⟩ := h
    have e' : w = v := by simpa using e
    subst e'
    exact ⟨x, rfl, q⟩
  | x :: ds, vs, i + 1, v, h, e => by
    obtain ⟨w, r, rfl, q, t⟩ := h
    obtain ⟨d, e1, e2⟩ := RepL.get' (i := i) t (by simpa using e)
    exact ⟨d, by simpa using e1, e2⟩
theorem RepL.append : ∀ {xs ys : List D} {us ws : List V}, RepL C G io xs us → RepL C G io ys ws → RepL C G io (xs ++ ys) (us ++ ws)
  | [], ys, us, ws, h, k => by
    have z : us = [] := h
    rw [z]
    exact k
  | x :: xs, ys, us, ws, h, k => by
    obtain ⟨v, r, rfl, q, t⟩ := h
    exact ⟨v, r ++ ws, rfl, q, RepL.append t k⟩
theorem RepL.take : ∀ {xs : List D} {us : List V} (n : Nat), RepL C G io xs us → RepL C G io (xs.take n) (us.take n)
  | [], us, n, h => by
    have z : us = [] := h
    rw [z]
    simp [RepL]
  | x :: xs, us, 0, h => by simp [RepL]
  | x :: xs, us, n + 1, h => by
    obtain ⟨v, r, rfl, q, t⟩ := h
    exact ⟨v, r.take n, rfl, q, RepL.take n t⟩
theorem RepL.drop : ∀ {xs : List D} {us : List V} (n : Nat), RepL C G io xs us → RepL C G io (xs.drop n) (us.drop n)
  | [], us, n, h => by
    have z : us = [] := h
    rw [z]
    simp [RepL]
  | x :: xs, us, 0, h => h
  | x :: xs, us, n + 1, h => by
    obtain ⟨v, r, rfl, q, t⟩ := h
    exact RepL.drop n t
theorem RepL.set : ∀ {xs : List D} {us : List V} (n : Nat) {d : D} {v : V}, RepL C G io xs us → Rep C G io d v → RepL C G io (xs.set n d) (us.set n v)
  | [], us, n, d, v, h, k => by
    have z : us = [] := h
    rw [z]
    simp [RepL]
  | x :: xs, us, 0, d, v, h, k => by
    obtain ⟨w, r, rfl, q, t⟩ := h
    exact ⟨v, r, rfl, k, t⟩
  | x :: xs, us, n + 1, d, v, h, k => by
    obtain ⟨w, r, rfl, q, t⟩ := h
    exact ⟨w, r.set n v, rfl, q, RepL.set n t k⟩
theorem RepL.reverse : ∀ {xs : List D} {us : List V}, RepL C G io xs us → RepL C G io xs.reverse us.reverse
  | [], us, h => by
    have z : us = [] := h
    rw [z]
    rfl
  | x :: xs, us, h => by
    obtain ⟨v, r, rfl, q, t⟩ := h
    rw [List.reverse_cons, List.reverse_cons]
    exact RepL.append (RepL.reverse t) ⟨v, [], rfl, q, rfl⟩
theorem RepL.flat : ∀ (n : Nat) {xs : List D} {us : List V}, RepL C G io xs us → RepL C G io (List.replicate n xs).flatten (List.replicate n us).flatten
  | 0, _, _, _ => rfl
  | n + 1, xs, us, h => by
    rw [List.replicate_succ, List.replicate_succ, List.flatten_cons, List.flatten_cons]
    exact RepL.append h (RepL.flat n h)
theorem RepL.erase : ∀ {xs : List D} {us : List V} (n : Nat), RepL C G io xs us → RepL C G io (xs.eraseIdx n) (us.eraseIdx n)
  | [], us, n, h => by
    have z : us = [] := h
    rw [z]
    simp [RepL]
  | x :: xs, us, 0, h => by
    obtain ⟨w, r, rfl, q, t⟩ := h
    exact t
  | x :: xs, us, n + 1, h => by
    obtain ⟨w, r, rfl, q, t⟩ := h
    exact ⟨w, r.eraseIdx n, rfl, q, RepL.erase n t⟩
/-! ### dicts -/
theorem RepK.look (k : Key) : ∀ {ks : List (Key × D)} {kvs : List (Key × V)}, RepK C G io ks kvs → (∀ d, lookK ks k = some d → ∃ v, valV kvs k = some v ∧ Rep C G io d v) ∧ (lookK ks k = none → valV kvs k = none)
  | [], kvs, h => by
    have z : kvs = [] := h
    subst z
    exact ⟨fun d e => by simp [lookK] at e, fun _ => rfl⟩
  | (j, x) :: ks, kvs, h => by
    obtain ⟨v, r, rfl, q, t⟩ := h
    have ih := RepK.look k t
    by_cases e : j = k
    · have h1 : lookK ((j, x) :: ks) k = some x := by simp [lookK, List.find?_cons, e]
      have h2 : valV ((j, v) :: r) k = some v := by simp [valV, List.find?_cons, e]
      rw [h1, h2]
      exact ⟨fun d ed => by cases ed; exact ⟨v, rfl, q⟩, fun z => by cases z⟩
    · have h1 : lookK ((j, x) :: ks) k = lookK ks k := by simp [lookK, List.find?_cons, e]
      have h2 : valV ((j, v) :: r) k = valV r k := by simp [valV, List.find?_cons, e]
      rw [h1, h2]
      exact ih
theorem RepK.keys : ∀ {ks : List (Key × D)} {kvs : List (Key × V)}, RepK C G io ks kvs → kvs.map (·.1) = ks.map (·.1)
  | [], kvs, h => by
    have z : kvs = [] := h
    subst z
    rfl
  | (j, x) :: ks, kvs, h => by
    obtain ⟨v, r, rfl, q, t⟩ := h
    rw [List.map_cons, List.map_cons, RepK.keys t]
theorem RepK.append : ∀ {xs ys : List (Key × D)} {us ws : List (Key × V)}, RepK C G io xs us → RepK C G io ys ws → RepK C G io (xs ++ ys) (us ++ ws)
  | [], ys, us, ws, h, k => by
    have z : us = [] := h
    rw [z]
    exact k
  | (j, x) :: xs, ys, us, ws, h, k => by
    obtain ⟨v, r, rfl, q, t⟩ := h
    exact ⟨v, r ++ ws, rfl, q, RepK.append t k⟩
theorem RepK.repl {d : D} {v : V} (k : Key) (hd : Rep C G io d v) : ∀ {ks : List (Key × D)} {kvs : List (Key × V)}, RepK C G io ks kvs →
    RepK C G io (ks.map fun kv => if kv.1 = k then (kv.1, d) else kv) (kvs.map fun kv => if kv.1 = k then (kv.1, v) else kv)
  | [], kvs, h => by
    have z : kvs = [] := h
    subst z
    rfl
  | (j, x) :: ks, kvs, h => by
    obtain ⟨w, r, rfl, q, t⟩ := h
    have ih := RepK.repl k hd t
    rw [List.map_cons, List.map_cons]
    by_cases e : j = k
    · simp only [e, if_true]
      exact ⟨v, _, rfl, hd, ih⟩
    · simp only [e, if_false]
      exact ⟨w, _, rfl, q, ih⟩
theorem RepK.any (k : Key) {ks : List (Key × D)} {kvs : List (Key × V)} (h : RepK C G io ks kvs) : (kvs.any fun kv => decide (kv.1 = k)) = (ks.any fun kv => decide (kv.1 = k)) := by
  have e := RepK.keys h
  have h1 : (kvs.any fun kv => decide (kv.1 = k)) = ((kvs.map (·.1)).any fun z => decide (z = k)) := by rw [List.any_map]; rfl
  have h2 : (ks.any fun kv => decide (kv.1 = k)) = ((ks.map (·.1)).any fun z => decide (z = k)) := by rw [List.any_map]; rfl
  rw [h1, h2, e]
theorem RepK.put {d : D} {v : V} (k : Key) (hd : Rep C G io d v) {ks : List (Key × D)} {kvs : List (Key × V)} (h : RepK C G io ks kvs) : RepK C G io (setK ks k d) (putK kvs k v) := by
  unfold setK putK
  rw [RepK.any k h]
  split
  · exact RepK.repl k hd h
  · exact RepK.append h ⟨v, [], rfl, hd, rfl⟩
theorem RepK.del (k : Key) : ∀ {ks : List (Key × D)} {kvs : List (Key × V)}, RepK C G io ks kvs → RepK C G io (delK ks k) (dropK kvs k)
  | [], kvs, h => by
    have z : kvs = [] := h
    subst z
    rfl
  | (j, x) :: ks, kvs, h => by
    obtain ⟨w, r, rfl, q, t⟩ := h
    have ih := RepK.del k t
    unfold delK dropK at ih ⊢
    rw [List.filter_cons, List.filter_cons]
    by_cases e : j = k
    · simp only [e, ne_eq, not_true_eq_false, decide_false, Bool.false_eq_true, if_false]
      exact ih
    · simp only [e, ne_eq, not_false_eq_true, decide_true, if_true]
      exact ⟨w, _, rfl, q, ih⟩
/-! ### fields -/
theorem S_inj {a b : String} (h : S a = S b) : a = b := by
  unfold S at h
  rw [Str.ofString_eq_toList, Str.ofString_eq_toList] at h
  have h1 : (a.toList.map Char.toNat).toArray = (b.toList.map Char.toNat).toArray := congrArg Str.cps h
  have h2 : a.toList.map Char.toNat = b.toList.map Char.toNat := by simpa using h1
  have h3 : a.toList = b.toList := by
    have inj : ∀ {x y : List Char}, x.map Char.toNat = y.map Char.toNat → x = y := by
      intro x
      induction x with
      | nil => intro y e; cases y with
        | nil => rfl
        | cons _ _ => simp at e
      | cons c x ih => intro y e; cases y with
        | nil => simp at e
        | cons c' y =>
          simp only [List.map_cons, List.cons.injEq] at e
          rw [ih e.2]
          congr 1
          exact Char.toNat_inj.mp e.1
    exact inj h2
  exact String.toList_inj.mp h3
theorem RepF.look (f : String) : ∀ {fs : List (String × D)} {fvs : List (Str × V)}, RepF C G io fs fvs → (∀ d, fs.lookup f = some d → ∃ v, fvs.lookup (S f) = some v ∧ Rep C G io d v) ∧ (fs.lookup f = none → fvs.lookup (S f) = none)
  | [], fvs, h => by
    have z : fvs = [] := h
    subst z
    exact ⟨fun d e => (by cases e), fun _ => rfl⟩
  | (g, x) :: fs, fvs, h => by
    obtain ⟨w, r, rfl, q, t⟩ := h
    have ih := RepF.look f t
    by_cases e : f = g
    · subst e
      simp only [List.lookup_cons, beq_self_eq_true]
      exact ⟨fun d ed => by cases ed; exact ⟨w, rfl, q⟩, fun z => by cases z⟩
    · have e1 : (f == g) = false := beq_eq_false_iff_ne.mpr e
      have e2 : (S f == S g) = false := beq_eq_false_iff_ne.mpr fun z => e (S_inj z)
      simp only [List.lookup_cons, e1, e2]
      exact ih
theorem RepF.put (f : String) {d : D} {v : V} (hd : Rep C G io d v) : ∀ {fs : List (String × D)} {fvs : List (Str × V)}, RepF C G io fs fvs → RepF C G io (setFd f d fs) (putF (S f) v fvs)
  | [], fvs, h => by
    have z : fvs = [] := h
    subst z
    exact ⟨v, [], rfl, hd, rfl⟩
  | (g, x) :: fs, fvs, h => by
    obtain ⟨w, r, rfl, q, t⟩ := h
    have ih := RepF.put f hd t
    by_cases e : g = f
    · subst e
      simp only [setFd, putF, if_true]
      exact ⟨v, r, rfl, hd, t⟩
    · have e2 : S g ≠ S f := fun z => e (S_inj z)
      simp only [setFd, putF, e, e2, if_false]
      exact ⟨w, _, rfl, q, ih⟩
theorem RepF.length : ∀ {ds : List (String × D)} {vs : List (Str × V)}, RepF C G io ds vs → vs.length = ds.length
  | [], vs, h => by
    have e : vs = [] := h
    rw [e] <;> rfl
  | (k, d) :: ds, vs, h => by
    obtain ⟨v, r, rfl, _, t⟩ := h
    rw [List.length_cons, List.length_cons, RepF.length t]
end
end Wh
/-! What is wanted behind an evaluation; readings made of the engine's runs. -/
namespace Wh
open PySem L2

section
variable {C : Wd} {H G H' G' : Hp} {io io' : List Addr} {m : Mu}
theorem WRel.sqT (w : WRel C H G io m) {a : Addr} {vs : List V} (h : SqT C.K G a vs) : SqT C.K H a vs := by
  rcases h with (h | ⟨o, h⟩) | h
  · exact .inl (.inl (w.sub a _ h))
  · exact absurd h (w.nofrz a o _)
  · exact .inr h
theorem WRel.freshG (w : WRel C H G io m) {a : Addr} (h : H a = none) : G a = none := by
  cases e : G a with
  | none => rfl
  | some u =>
    rcases w.sub.rd e with q | ⟨o, q⟩ <;> (rw [h] at q; cases q)
theorem WRel.ioSome (w : WRel C H G io m) {a : Addr} (h : a ∈ io) : H a ≠ none := fun hn => by
  obtain ⟨n, hl, e⟩ := List.mem_iff_getElem.mp h
  have e1 : io[n]? = some a := by rw [List.getElem?_eq_getElem hl, e]
  have hm : n < m.length := by rw [← w.len]; exact hl
  obtain ⟨u, _, q, _⟩ := w.box n a (m[n]).1 (m[n]).2 e1 (by rw [List.getElem?_eq_getElem hm])
  rcases q with q | ⟨o, q⟩ <;> (rw [hn] at q; cases q)
theorem WRel.freshIo (w : WRel C H G io m) {a : Addr} (h : H a = none) : a ∉ io := fun z => w.ioSome z h
theorem Rep.toB (w : WRel C H G io m) : ∀ {d : D} {v : V}, Rep C G io d v → RepB C H G io d v
  | .non, _, h => h
  | .bl _, _, h => h
  | .int _, _, h => h
  | .str _, _, h => h
  | .tup _, _, h => h
  | .lst xs, v, h => by
    obtain ⟨a, vs, e, q, z, r⟩ := h
    exact ⟨a, vs, e, w.sub.rd q, z, r⟩
  | .dic ks, v, h => by
    obtain ⟨a, vs, e, q, z, r⟩ := h
    exact ⟨a, vs, e, w.sub.rd q, z, r⟩
  | .ins c fs, v, h => by
    obtain ⟨a, A, dx, vs, e, q, z, r⟩ := h
    exact ⟨a, A, dx, vs, e, w.sub a _ q, z, r⟩
  | .box _, _, h => h
  | .exc _, _, h => h
  | .fn _, _, h => h
/-- an object's content, as it is read -/
theorem IsOb.toB {u : HO} {d : D} {a : Addr} (h : IsOb C G io u d) (q : Rd H a u) (hi : ∀ A dx fs, u = .ins A dx fs → H a = some u) : RepB C H G io d (.ref a) := by
  cases u <;> cases d <;> first
    | exact h.elim
    | exact ⟨a, _, rfl, q, h.1, h.2⟩
    | exact ⟨a, _, _, _, rfl, hi _ _ _ rfl, h.1, h.2⟩
/-- read for now alone: frozen, or an owned slot's -/
def RepO (C : Wd) (H G : Hp) (io : List Addr) (d : D) (v : V) : Prop :=
  Rep C G io d v ∨ ∃ a u, v = .ref a ∧ a ∉ io ∧ Rd H a u ∧ IsOb C G io u d ∧ (∀ A dx fs, u = .ins A dx fs → H a = some u)
theorem RepO.of (h : Rep C G io d v) : RepO C H G io d v := .inl h
theorem Step.rd (s : Step H G io H' G' io') {a : Addr} {u : HO} (hn : a ∉ io) (h : Rd H a u) : Rd H' a u := by
  rcases h with h | ⟨o, h⟩
  · exact .inl (s.ext _ _ h fun z => absurd z hn)
  · exact .inr ⟨o, s.ext _ _ h fun z => absurd z hn⟩
theorem Step.offIo (s : Step H G io H' G' io') {a : Addr} {o : HO} (h : H a = some o) (hn : a ∉ io) : a ∉ io' := fun z => by
  rcases s.new a z with q | q
  · exact hn q
  · rw [h] at q; cases q
theorem Step.rdOff (s : Step H G io H' G' io') {a : Addr} {u : HO} (h : Rd H a u) (hn : a ∉ io) : a ∉ io' := by
  rcases h with h | ⟨o, h⟩ <;> exact s.offIo h hn
theorem Step.offG (s : Step H G io H' G' io') {a : Addr} {u : HO} (h : Rd H a u) (hg : G a = none) : G' a = none := by
  cases e : G' a with
  | none => rfl
  | some w =>
    rcases s.gnew a w e with q | q
    · rw [hg] at q; cases q
    · rcases h with h | ⟨o, h⟩ <;> (rw [q] at h; cases h)
theorem Rep.step (s : Step H G io H' G' io') {d : D} {v : V} (h : Rep C G io d v) : Rep C G' io' d v := Rep.mono s.g s.pre d v h
theorem RepL.step (s : Step H G io H' G' io') {d : List D} {v : List V} (h : RepL C G io d v) : RepL C G' io' d v := RepL.mono s.g s.pre d v h
theorem RepK.step (s : Step H G io H' G' io') {d : List (Key × D)} {v : List (Key × V)} (h : RepK C G io d v) : RepK C G' io' d v := RepK.mono s.g s.pre d v h
theorem IsOb.step (s : Step H G io H' G' io') {u : HO} {d : D} (h : IsOb C G io u d) : IsOb C G' io' u d := IsOb.mono s.g s.pre h
theorem RepO.step (s : Step H G io H' G' io') {d : D} {v : V} (h : RepO C H G io d v) : RepO C H' G' io' d v := by
  rcases h with h | ⟨a, u, e, n, r, q, hi⟩
  · exact .inl (h.step s)
  · exact .inr ⟨a, u, e, s.rdOff r n, s.rd n r, q.step s, fun A dx fs z => s.ext _ _ (hi A dx fs z) fun z => absurd z n⟩
theorem RepO.look (w : WRel C H G io m) {d : D} {v : V} (h : RepO C H G io d v) : RepB C H G io (look m d) v := by
  rcases h with h | ⟨a, u, e, n, r, q, hi⟩
  · cases d with
    | box n =>
      obtain ⟨a, e, q⟩ := id h
      show RepB C H G io (match m[n]? with
        | some (_, d) => d
        | none => .box n) v
      cases hm : m[n]? with
      | none => exact h
      | some p =>
        obtain ⟨l, d⟩ := p
        obtain ⟨u, ob, hr, hi, _⟩ := w.box n a l d q hm
        subst e
        exact ob.toB hr hi
    | _ => exact h.toB w
  · subst e
    have hl : Wh.look m d = d := by cases u <;> cases d <;> first | rfl | exact q.elim
    rw [hl]
    exact q.toB r hi
end

/-! ### wishes -/
/-- what is wanted of a run's end: W of what is raised, Q of what is told, told by R -/
def Post (C : Wd) (W : WX) (σ : L2.St) (H G : Hp) (io : List Addr) {α β : Type} (R : Hp → Hp → List Addr → α → β → Prop) (r : Res α) (Q : β → Hp → Prop) : Prop := match r with
  | .ok d m => ∀ v H' G' io', Step H G io H' G' io' → WRel C H' G' io' m → R H' G' io' d v → Q v H'
  | .exc c m => ∀ H' G' io' A, Step H G io H' G' io' → WRel C H' G' io' m → C.mg (S c) = some (.ref A) → W (.ref A) none σ H'
  | .bad => False
abbrev rRep (C : Wd) : Hp → Hp → List Addr → D → V → Prop := fun _ G io d v => Rep C G io d v
abbrev rRepO (C : Wd) : Hp → Hp → List Addr → D → V → Prop := fun H G io d v => RepO C H G io d v
abbrev rRepL (C : Wd) : Hp → Hp → List Addr → List D → List V → Prop := fun _ G io d v => RepL C G io d v
def RepOs (C : Wd) (H G : Hp) (io : List Addr) : List D → List V → Prop
  | [], vs => vs = []
  | d :: ds, vs => ∃ v r, vs = v :: r ∧ RepO C H G io d v ∧ RepOs C H G io ds r
/-- new and its own, or no object that changes -/
def RepN (C : Wd) (H0 H G : Hp) (io : List Addr) (d : D) (v : V) : Prop :=
  if isObj d = true then ∃ a u, v = .ref a ∧ H0 a = none ∧ H a = some u ∧ IsOb C G io u d ∧ G a = none ∧ a ∉ io else Rep C G io d v
abbrev rB : Hp → Hp → List Addr → Bool → Bool → Prop := fun _ _ _ a b => a = b

section
variable {C : Wd} {W : WX} {σ : L2.St} {H G : Hp} {io : List Addr} {α β γ δ : Type} {R : Hp → Hp → List Addr → α → β → Prop} {R' : Hp → Hp → List Addr → γ → δ → Prop}
theorem Post.bind {r : Res α} {k : α → Mu → Res γ} {Q : δ → Hp → Prop} (h : Post C W σ H G io R' (r.bind k) Q) :
    Post C W σ H G io R r (fun v H1 => ∃ G1 io1 m1 d, Step H G io H1 G1 io1 ∧ WRel C H1 G1 io1 m1 ∧ R H1 G1 io1 d v ∧ r = .ok d m1 ∧ Post C W σ H1 G1 io1 R' (k d m1) Q) := by
  cases r with
  | bad => exact h
  | exc c m => exact h
  | ok d m =>
    intro v H1 G1 io1 s w q
    refine ⟨G1, io1, m, d, s, w, q, rfl, ?_⟩
    have h' : Post C W σ H G io R' (k d m) Q := h
    cases e : k d m with
    | bad => rw [e] at h'; exact h'
    | exc c m2 =>
      rw [e] at h'
      intro H2 G2 io2 A s2 w2 q2
      exact h' H2 G2 io2 A (s.trans s2) w2 q2
    | ok d2 m2 =>
      rw [e] at h'
      intro v2 H2 G2 io2 s2 w2 q2
      exact h' v2 H2 G2 io2 (s.trans s2) w2 q2
theorem Post.mono {r : Res α} {Q Q' : β → Hp → Prop} (h : Post C W σ H G io R r Q) (hq : ∀ v H, Q v H → Q' v H) : Post C W σ H G io R r Q' := by
  cases r with
  | bad => exact h
  | exc c m => exact h
  | ok d m => exact fun v H' G' io' s w q => hq _ _ (h v H' G' io' s w q)
theorem Post.imp {r : Res α} {R2 : Hp → Hp → List Addr → α → β → Prop} {Q : β → Hp → Prop} (h : Post C W σ H G io R r Q) (hq : ∀ H' G' io' d v, R2 H' G' io' d v → R H' G' io' d v) : Post C W σ H G io R2 r Q := by
  cases r with
  | bad => exact h
  | exc c m => exact h
  | ok d m => exact fun v H' G' io' s w q => h v H' G' io' s w (hq _ _ _ _ _ q)
/-- the same end, from a later state -/
theorem Post.from {H1 G1 : Hp} {io1 : List Addr} {r : Res α} {Q : β → Hp → Prop} (s : Step H G io H1 G1 io1) (h : Post C W σ H G io R r Q) : Post C W σ H1 G1 io1 R r Q := by
  cases r with
  | bad => exact h
  | exc c m => exact fun H' G' io' A s2 w q => h H' G' io' A (s.trans s2) w q
  | ok d m => exact fun v H' G' io' s2 w q => h v H' G' io' (s.trans s2) w q
theorem upd_step {H G : Hp} {io : List Addr} {p : Addr} {o : HO} (h : H p = none) : Step H G io (upd H p o) G io where
  ext := fun a u e _ => by rw [upd_ne (ne_of_none e h)]; exact e
  alive := fun a e => by
    by_cases q : a = p
    · subst q; exact h
    · rw [upd_ne q] at e; exact e
  g := fun _ _ e => e
  gnew := fun _ _ e => .inl e
  pre := List.prefix_rfl
  new := fun _ e => .inl e
theorem WRel.laid {m : Mu} (w : WRel C H G io m) {p : Addr} {o : HO} (h : H p = none) : WRel C (upd H p o) G io m where
  sub := fun a u e => by
    have hp : a ≠ p := fun z => by subst z; rw [w.freshG h] at e; cases e
    have q := w.sub a u e
    cases u <;> first
      | (rw [upd_ne hp]; exact q)
      | (rcases q with q | ⟨o, q⟩
         · exact .inl (by rw [upd_ne hp]; exact q)
         · exact .inr ⟨o, by rw [upd_ne hp]; exact q⟩)
  nofrz := w.nofrz
  len := w.len
  nd := w.nd
  off := w.off
  box := fun n a l d h1 h2 => by
    obtain ⟨u, ob, hr, hi, hx⟩ := w.box n a l d h1 h2
    have hp : a ≠ p := fun z => w.freshIo h (z ▸ List.mem_of_getElem? h1)
    refine ⟨u, ob, ?_, fun A dx fs z => by rw [upd_ne hp]; exact hi A dx fs z, fun z => by rw [upd_ne hp]; exact hx.1 z, fun z => by rw [upd_ne hp]; exact hx.2 z⟩
    rcases hr with hr | ⟨o, hr⟩
    · exact .inl (by rw [upd_ne hp]; exact hr)
    · exact .inr ⟨o, by rw [upd_ne hp]; exact hr⟩
/-- an object is frozen -/
theorem WRel.freeze {m : Mu} (w : WRel C H G io m) {a : Addr} {u : HO} (h : H a = some u) (hf : ∀ o x, u ≠ .frz o x) (hg : G a = none) (hi : a ∉ io) : WRel C H (upd G a u) io m where
  sub := fun b x e => by
    by_cases q : b = a
    · subst q
      rw [upd_same] at e; cases e
      cases u <;> first | exact h | exact .inl h
    · rw [upd_ne q] at e; exact w.sub b x e
  nofrz := fun b o x e => by
    by_cases q : b = a
    · subst q
      rw [upd_same] at e; cases e
      exact hf _ _ rfl
    · rw [upd_ne q] at e; exact w.nofrz b o x e
  len := w.len
  nd := w.nd
  off := fun b hb => by
    have hne : b ≠ a := fun z => by subst z; exact hi hb
    rw [upd_ne hne]; exact w.off b hb
  box := fun n b l d h1 h2 => by
    obtain ⟨x, ob, r⟩ := w.box n b l d h1 h2
    exact ⟨x, ob.mono (fun c y e => by rw [upd_ne (ne_of_none e hg)]; exact e) List.prefix_rfl, r⟩
theorem IsOb.noFrz {u : HO} {d : D} (h : IsOb C G io u d) : ∀ o x, u ≠ .frz o x := fun o x e => by
  subst e
  cases d <;> exact h
theorem IsOb.rep {u : HO} {d : D} {a : Addr} (h : IsOb C G io u d) (hg : G a = some u) : Rep C G io d (.ref a) := by
  cases u <;> cases d <;> first
    | exact h.elim
    | exact ⟨a, _, rfl, hg, h.1, h.2⟩
    | exact ⟨a, _, _, _, rfl, hg, h.1, h.2⟩
/-- what is new is frozen at once -/
theorem Post.freeze {r : Res D} {Q : VK} (h : Post C W σ H G io (rRep C) r Q) : Post C W σ H G io (RepN C H) r Q := by
  cases r with
  | bad => exact h
  | exc c m => exact h
  | ok d m =>
    intro v H' G' io' s w q
    unfold RepN at q
    split at q
    · obtain ⟨a, u, rfl, h0, ha, ob, hg, hi⟩ := q
      have up : ∀ b x, G' b = some x → upd G' a u b = some x := fun b x e => by rw [upd_ne (ne_of_none e hg)]; exact e
      refine h (.ref a) H' (upd G' a u) io' ⟨s.ext, s.alive, fun b x e => up b x (s.g b x e), fun b x e => ?_, s.pre, s.new⟩ (w.freeze ha ob.noFrz hg hi) ((ob.mono up List.prefix_rfl).rep upd_same)
      by_cases z : b = a
      · subst z; exact .inr h0
      · rw [upd_ne z] at e; exact s.gnew b x e
    · exact h v H' G' io' s w q
end

/-! ### slots -/
structure SRel (C : Wd) (σ : L2.St) (H G : Hp) (io : List Addr) (r : Env) : Prop where
  len : σ.length = r.length
  at_ : ∀ i, match slot r i with
    | .no => True
    | .val d => ∃ v, σ[i]? = some (some v) ∧ Rep C G io d v
    | .own d => ∃ a u, σ[i]? = some (some (.ref a)) ∧ Rd H a u ∧ IsOb C G io u d ∧ (∀ A dx fs, u = .ins A dx fs → H a = some u) ∧ G a = none ∧ a ∉ io
theorem SRel.step {C : Wd} {σ : L2.St} {H G H' G' : Hp} {io io' : List Addr} {r : Env} (h : SRel C σ H G io r) (s : Step H G io H' G' io') : SRel C σ H' G' io' r where
  len := h.len
  at_ := fun i => by
    have q := h.at_ i
    cases e : slot r i with
    | no => trivial
    | val d =>
      rw [e] at q
      obtain ⟨v, e1, e2⟩ := q
      exact ⟨v, e1, e2.step s⟩
    | own d =>
      rw [e] at q
      obtain ⟨a, u, e1, hr, ob, hi, hg, hn⟩ := q
      exact ⟨a, u, e1, s.rd hn hr, ob.step s, fun A dx fs z => s.ext _ _ (hi A dx fs z) (fun z => absurd z hn), s.offG hr hg, s.rdOff hr hn⟩

/-! ### readings -/
/-- the reading of a run at these slots -/
def tRun (C : Wd) (W : WX) (r : Env) {α β : Type} (R : Hp → Hp → Hp → List Addr → α → β → Prop) (f : Mu → Res α) : L2.St → Hp → (β → Hp → Prop) → Prop := fun σ H Q =>
  ∃ G io m, WRel C H G io m ∧ SRel C σ H G io r ∧ Post C W σ H G io (R H) (f m) Q
def HE (C : Wd) (F : Fn) (X : Cx) (e : Expr) (c : E) : Prop := ∀ (r : Env) (W : WX), Takes X W → PE X e (tRun C W r (fun _ => rRep C) (ev F c r))
def HO_ (C : Wd) (F : Fn) (X : Cx) (e : Expr) (c : E) : Prop := ∀ (r : Env) (W : WX), Takes X W → PE X e (tRun C W r (fun _ => rRepO C) (ev F c r))
def HN (C : Wd) (F : Fn) (X : Cx) (e : Expr) (c : E) : Prop := ∀ (r : Env) (W : WX), Takes X W → PE X e (tRun C W r (RepN C) (ev F c r))
def HT (C : Wd) (F : Fn) (X : Cx) (e : Expr) (c : E) : Prop := ∀ (r : Env) (W : WX), Takes X W → PT X e (tRun C W r (fun _ => rB) fun m => (ev F c r m).bind fun d m => tstD d m)
def HA (C : Wd) (F : Fn) (X : Cx) (es : List Expr) (cs : List E) : Prop := ∀ (r : Env) (W : WX), Takes X W → PA X es (tRun C W r (fun _ => rRepL C) (evs F cs r))
def HAo (C : Wd) (F : Fn) (X : Cx) (es : List Expr) (cs : List E) : Prop := ∀ (r : Env) (W : WX), Takes X W → PA X es (tRun C W r (fun _ => RepOs C) (evs F cs r))
theorem pe_mono {X : Cx} {e : Expr} {t t' : TE} (h : PE X e t) (hm : ∀ σ H Q, t' σ H Q → t σ H Q) : PE X e t' := ⟨fun pins s σ H Q I q => h.run pins s σ H Q I (hm σ H Q q)⟩
theorem pt_mono {X : Cx} {e : Expr} {t t' : TT} (h : PT X e t) (hm : ∀ σ H Q, t' σ H Q → t σ H Q) : PT X e t' := ⟨fun pins s σ H Q I q => h.run pins s σ H Q I (hm σ H Q q)⟩
theorem pa_mono {X : Cx} {e : List Expr} {t t' : TA} (h : PA X e t) (hm : ∀ σ H Q, t' σ H Q → t σ H Q) : PA X e t' := ⟨fun pos pins s σ H Q I q => h.run pos pins s σ H Q I (hm σ H Q q)⟩
theorem HN.he {C : Wd} {F : Fn} {X : Cx} {e : Expr} {c : E} (h : HN C F X e c) : HE C F X e c := fun r W tk => pe_mono (h r W tk) fun σ H Q ⟨G, io, m, w, sr, p⟩ => ⟨G, io, m, w, sr, p.freeze⟩
theorem HE.ho {C : Wd} {F : Fn} {X : Cx} {e : Expr} {c : E} (h : HE C F X e c) : HO_ C F X e c := fun r W tk => pe_mono (h r W tk) fun σ H Q ⟨G, io, m, w, sr, p⟩ => ⟨G, io, m, w, sr, p.imp fun _ _ _ _ _ q => .inl q⟩
end Wh
/-! Operators on data. -/
namespace Wh
open PySem L2 PySem.Spec PyProof.Rows

abbrev noW : WX := fun _ _ _ _ => False
section
variable {C : Wd} {W : WX} {σ : L2.St} {H G : Hp} {io : List Addr} {m : Mu} {Q : VK}
theorem big_eq : big = sizeLine := by rw [sizeLine_eq]; rfl
/-- the heap as it was -/
theorem post_here {d : D} {v : V} (p : Post C W σ H G io (RepN C H) (.ok d m) Q) (w : WRel C H G io m) (hd : isObj d = false) (r : Rep C G io d v) : Q v H :=
  p v H G io (Step.refl H G io) w (by unfold RepN; rw [hd, if_neg Bool.false_ne_true]; exact r)
/-- a new object that changes -/
theorem post_new {d : D} {u : HO} (p : Post C W σ H G io (RepN C H) (.ok d m) Q) (w : WRel C H G io m) (hd : isObj d = true) (ob : IsOb C G io u d) {a : Addr} (ha : H a = none) : Q (.ref a) (upd H a u) :=
  p (.ref a) (upd H a u) G io (upd_step ha) (w.laid ha) (by
    unfold RepN
    rw [if_pos hd]
    exact ⟨a, u, rfl, ha, upd_same, ob, w.freshG ha, w.freshIo ha⟩)
/-- a new tuple -/
theorem tup_step {p : Addr} {vs : List V} (h : H p = none) (hg : G p = none) : Step H G io (upd H p (.tup vs)) (upd G p (.tup vs)) io where
  ext := (upd_step (G := G) (io := io) h).ext
  alive := (upd_step (G := G) (io := io) h).alive
  g := fun a u e => by rw [upd_ne (ne_of_none e hg)]; exact e
  gnew := fun a u e => by
    by_cases z : a = p
    · subst z; exact .inr h
    · rw [upd_ne z] at e; exact .inl e
  pre := List.prefix_rfl
  new := fun _ e => .inl e
theorem post_tup {xs : List D} {vs : List V} (p : Post C W σ H G io (RepN C H) (.ok (.tup xs) m) Q) (w : WRel C H G io m) (hl : vs.length ≤ sizeLine) (r : RepL C G io xs vs) {a : Addr} (ha : H a = none) : Q (.ref a) (upd H a (.tup vs)) := by
  have hg := w.freshG ha
  have up : ∀ b x, G b = some x → upd G a (.tup vs) b = some x := fun b x e => by rw [upd_ne (ne_of_none e hg)]; exact e
  refine p (.ref a) (upd H a (.tup vs)) (upd G a (.tup vs)) io (tup_step ha hg) ((w.laid ha).freeze upd_same (fun _ _ e => by cases e) hg (w.freshIo ha)) ?_
  show RepN C H _ _ io (.tup xs) (.ref a)
  unfold RepN
  rw [if_neg (by show ¬ false = true; exact Bool.false_ne_true)]
  exact ⟨a, vs, rfl, .inl (.inl upd_same), hl, RepL.mono up List.prefix_rfl xs vs r⟩
/-- a two-place operation on data, as values are read now -/
def rOp2 (C : Wd) (f : D → D → Option D) : R2 := fun x y H Q => ∃ G io m da db, WRel C H G io m ∧ RepB C H G io da x ∧ RepB C H G io db y ∧ Post C noW [] H G io (RepN C H) (up (f da db) m) Q
end

section
variable {X : Cx}
/-- lists that may be locked -/
theorem rd_lst {pins : List (Addr × Obj)} {s : Shared} {σ : L2.St} {H : Hp} {l : Addr} {xs : List V} (I : Inv X pins σ H s) (h : Rd H l (.lst xs)) :
    xs.length ≤ sizeLine ∧ ∃ (its : List Value) (n : Nat), Vals xs its ∧ xs.length = its.length ∧ s.heap.get? l = some { cls := .type "list", data := .seq its.toArray n } := by
  obtain ⟨z, its, n, r, e⟩ := h.ok I.hok
  exact ⟨z, its, n, r, r.length, e⟩
theorem op_catR : OpR X (binaryOp .Add) (fun x y H Q => ∃ l b xs zs, x = .ref l ∧ y = .ref b ∧ Rd H l (.lst xs) ∧ Rd H b (.lst zs) ∧ xs.length + zs.length ≤ sizeLine ∧ ∀ p, H p = none → Q (.ref p) (upd H p (.lst (xs ++ zs)))) := by
  intro pins s σ H x y v u Q I rx ry h
  obtain ⟨l, b, xs, zs, rfl, rfl, hH, hB, hz, q⟩ := h
  cases rx
  cases ry
  obtain ⟨z, its, n, r, hl, e⟩ := rd_lst I hH
  obtain ⟨z2, its2, n2, r2, hl2, e2⟩ := rd_lst I hB
  refine PySem.P.add_list e e2 ?_ (by rw [List.size_toArray, List.size_toArray]; omega)
  have ea : its.toArray ++ its2.toArray = (its ++ its2).toArray := by simp
  rw [ea]
  exact ⟨.ref _, _, I.lnew (t' := s.toks) (r.append r2) (by rw [List.length_append]; omega), rfl, q _ I.fresh⟩
theorem op_repR : OpR X (binaryOp .Mult) (fun x y H Q => ∃ l k xs, x = .ref l ∧ y = .int k ∧ Rd H l (.lst xs) ∧ -(2 ^ 63) ≤ k ∧ k < 2 ^ 63 ∧ xs.length * k.toNat ≤ sizeLine ∧
    ∀ p, H p = none → Q (.ref p) (upd H p (.lst (List.replicate k.toNat xs).flatten))) := by
  intro pins s σ H x y v u Q I rx ry h
  obtain ⟨l, k, xs, rfl, rfl, hH, h1, h2, hz, q⟩ := h
  cases rx
  obtain ⟨t, rfl⟩ := ry
  obtain ⟨z, its, n, r, hl, e⟩ := rd_lst I hH
  have room : its.toArray.size * k.toNat ≤ sizeLine := by
    rw [List.size_toArray, ← hl]
    exact hz
  have lid : (sizeLine : Nat) ≤ (2 ^ 63 - 1) / 8 := by decide
  have turned : ∀ j : Nat, List.foldl (fun p q => p ++ q) #[] (List.replicate j its.toArray) = (List.replicate j its).flatten.toArray := fun j => by
    have q := foldl_rep its j []
    rw [List.nil_append] at q
    exact q
  have made : List.foldl (fun p q => p ++ q) #[] (List.replicate (if its.toArray.isEmpty = true then 0 else k.toNat) its.toArray) = (List.replicate k.toNat its).flatten.toArray := by
    rw [turned]
    cases its with
    | nil => simp
    | cons a r' => rw [if_neg (by simp)]
  have c1 : ¬ (!Builtin.List.listFitsIndex k) = true := by rw [fitsIndex_both h1 h2] <;> exact Bool.false_ne_true
  have c2 : ¬ Builtin.List.listTooLong (its.toArray.size * k.toNat) = true := by rw [notLongL room] <;> exact Bool.false_ne_true
  refine wpAny_binaryOp_repeat_ref (T := "list") (U := "int") (by decide) ⟨_, e, rfl⟩ (fun s' => typeIs_int s' k t) noFill_list_mul F.fills_int_mul F.slot_int_rmul repeat_list F.slot_int_index.lookup
    (call_meets F.slot_int_rmul (typeIs_int s k t) F.entry_int_rmul (F.args_int_rmul_2 _ _) (int___rmul___int_list k t l its.toArray n)
      ⟨e, rfl, ⟨_, e, rfl⟩, call_meets F.slot_list_mul ⟨_, e, rfl⟩ F.entry_list_mul (F.args_list_mul_2 _ _) (AutoListH.list___mul___list_int_3 l its.toArray n k t c1 (by omega) c2) ⟨e, ?_⟩⟩)
  rw [made]
  exact ⟨.ref _, _, I.lnew (t' := s.toks) (r.rep k.toNat) (by rw [PyProof.Rows.lm_len_rep_flat, Nat.mul_comm]; exact hz), rfl, q _ I.fresh⟩
end
section
variable {X : Cx} {C : Wd}
theorem repL_map {C : Wd} {G : Hp} {io : List Addr} : ∀ {xs : List D} {vs : List V} {α : Type} {f : α → D} {g : α → V} {ns : List α}, xs = ns.map f → (∀ n ∈ ns, ∀ v, Rep C G io (f n) v → v = g n) → RepL C G io xs vs → vs = ns.map g
  | [], vs, α, f, g, [], e, hf, h => h
  | [], vs, α, f, g, _ :: _, e, hf, h => by simp at e
  | x :: xs, vs, α, f, g, [], e, hf, h => by simp at e
  | x :: xs, vs, α, f, g, n :: ns, e, hf, h => by
    simp only [List.map_cons, List.cons.injEq] at e
    obtain ⟨e1, e2⟩ := e
    subst e1
    obtain ⟨v, r, rfl, q, t⟩ := h
    rw [List.map_cons, hf n List.mem_cons_self v q, repL_map e2 (fun k hk => hf k (List.mem_cons_of_mem _ hk)) t]
theorem asInts_some : ∀ {xs : List D} {ns : List Int}, asInts xs = some ns → xs = ns.map .int
  | [], ns, h => by
    simp only [asInts, Option.some.injEq] at h
    rw [← h] <;> rfl
  | x :: xs, ns, h => by
    cases x <;> simp only [asInts, reduceCtorEq] at h
    rename_i i
    cases e : asInts xs with
    | none => rw [e] at h; simp at h
    | some r =>
      rw [e] at h
      simp only [Option.map_some, Option.some.injEq] at h
      subst h
      rw [List.map_cons, asInts_some e]
theorem asBls_some : ∀ {xs : List D} {ns : List Bool}, asBls xs = some ns → xs = ns.map .bl
  | [], ns, h => by
    simp only [asBls, Option.some.injEq] at h
    rw [← h] <;> rfl
  | x :: xs, ns, h => by
    cases x <;> simp only [asBls, reduceCtorEq] at h
    rename_i i
    cases e : asBls xs with
    | none => rw [e] at h; simp at h
    | some r =>
      rw [e] at h
      simp only [Option.map_some, Option.some.injEq] at h
      subst h
      rw [List.map_cons, asBls_some e]
theorem asStrs_some : ∀ {xs : List D} {ns : List Str}, asStrs xs = some ns → xs = ns.map .str
  | [], ns, h => by
    simp only [asStrs, Option.some.injEq] at h
    rw [← h] <;> rfl
  | x :: xs, ns, h => by
    cases x <;> simp only [asStrs, reduceCtorEq] at h
    rename_i i
    cases e : asStrs xs with
    | none => rw [e] at h; simp at h
    | some r =>
      rw [e] at h
      simp only [Option.map_some, Option.some.injEq] at h
      subst h
      rw [List.map_cons, asStrs_some e]
theorem repL_ints {G : Hp} {io : List Addr} {xs : List D} {vs : List V} {ns : List Int} (e : asInts xs = some ns) (h : RepL C G io xs vs) : vs = ns.map .int :=
  repL_map (asInts_some e) (fun _ _ _ q => q) h
theorem repL_bls {G : Hp} {io : List Addr} {xs : List D} {vs : List V} {ns : List Bool} (e : asBls xs = some ns) (h : RepL C G io xs vs) : vs = ns.map .bl :=
  repL_map (asBls_some e) (fun _ _ _ q => q) h
theorem repL_strs {G : Hp} {io : List Addr} {xs : List D} {vs : List V} {ns : List Str} (e : asStrs xs = some ns) (h : RepL C G io xs vs) : vs = ns.map .str :=
  repL_map (asStrs_some e) (fun _ _ _ q => q) h

theorem op_binD {op : Operator} {o : Bo} (hop : bo op = some o) (hK : X.K = C.K) : OpR X (binaryOp op) (rOp2 C (binD o)) := by
  intro pins s σ H x y v u Q I rx ry h
  obtain ⟨G, io, m, da, db, w, ra, rb, p⟩ := h
  cases op <;> simp only [bo, reduceCtorEq, Option.some.injEq] at hop
  all_goals subst hop
  -- add
  · cases da <;> cases db <;> first | exact p.elim | skip
    · obtain rfl := ra
      obtain rfl := rb
      exact op_add pins s σ H _ _ v u Q I rx ry ⟨_, _, rfl, rfl, post_here p w rfl rfl⟩
    · obtain rfl := ra
      obtain rfl := rb
      rename_i a b
      by_cases hz : a.length + b.length ≤ big
      · have p' := p
        simp only [binD, if_pos hz] at p'
        exact op_add_str pins s σ H _ _ v u Q I rx ry ⟨_, _, rfl, rfl, by rw [← big_eq]; exact hz, post_here p' w rfl rfl⟩
      · simp only [binD, if_neg hz] at p; exact p.elim
    · rename_i xs ys
      obtain ⟨a, vs, rfl, qa, za, la⟩ := ra
      obtain ⟨b, us, rfl, qb, zb, lb⟩ := rb
      by_cases hz : xs.length + ys.length ≤ big
      · simp only [binD, if_pos hz] at p
        have l1 := la.length
        have l2 := lb.length
        have hz' : vs.length + us.length ≤ sizeLine := by rw [← big_eq]; omega
        have e0 : vs = [] → xs = [] := fun e => by
          rw [e] at l1
          exact List.eq_nil_of_length_eq_zero l1.symm
        have e1 : us = [] → ys = [] := fun e => by
          rw [e] at l2
          exact List.eq_nil_of_length_eq_zero l2.symm
        refine op_catA pins s σ H _ _ v u Q I rx ry ⟨a, b, vs, us, rfl, rfl, by rw [hK]; exact w.sqT qa, by rw [hK]; exact w.sqT qb, hz', fun e => ?_, fun _ e => ?_, fun _ _ q hq => post_tup p w (by rw [List.length_append]; exact hz') (la.append lb) hq⟩
        · rw [e0 e] at p
          exact post_here p w rfl ⟨b, us, rfl, qb, zb, lb⟩
        · rw [e1 e, List.append_nil] at p
          exact post_here p w rfl ⟨a, vs, rfl, qa, za, la⟩
      · simp only [binD, if_neg hz] at p; exact p.elim
    · rename_i xs ys
      obtain ⟨a, vs, rfl, qa, za, la⟩ := ra
      obtain ⟨b, us, rfl, qb, zb, lb⟩ := rb
      by_cases hz : xs.length + ys.length ≤ big
      · simp only [binD, if_pos hz] at p
        have l1 := la.length
        have l2 := lb.length
        have hz' : vs.length + us.length ≤ sizeLine := by rw [← big_eq]; omega
        exact op_catR pins s σ H _ _ v u Q I rx ry ⟨a, b, vs, us, rfl, rfl, qa, qb, hz', fun q hq => post_new (u := .lst (vs ++ us)) p w rfl ⟨by rw [List.length_append]; exact hz', la.append lb⟩ hq⟩
      · simp only [binD, if_neg hz] at p; exact p.elim
  -- sub
  · cases da <;> cases db <;> first | exact p.elim | skip
    obtain rfl := ra
    obtain rfl := rb
    exact op_sub pins s σ H _ _ v u Q I rx ry ⟨_, _, rfl, rfl, post_here p w rfl rfl⟩
  -- mul
  · cases da <;> cases db <;> first | exact p.elim | skip
    · obtain rfl := ra
      obtain rfl := rb
      rename_i a b
      by_cases hz : ((-(2 ^ 64) < a ∧ a < 2 ^ 64) ∨ (-(2 ^ 64) < b ∧ b < 2 ^ 64))
      · simp only [binD, if_pos hz] at p
        exact op_mul pins s σ H _ _ v u Q I rx ry ⟨_, _, rfl, rfl, hz, post_here p w rfl rfl⟩
      · simp only [binD, if_neg hz] at p; exact p.elim
    · rename_i xs k
      obtain ⟨a, vs, rfl, qa, za, la⟩ := ra
      obtain rfl := rb
      by_cases hz : 2 ≤ k ∧ k ≤ 1000 ∧ xs.length ≤ 1000 ∧ xs ≠ []
      · simp only [binD, if_pos hz] at p
        have l1 := la.length
        refine op_repT pins s σ H _ _ v u Q I rx ry ⟨a, k, vs, rfl, rfl, by rw [hK]; exact w.sqT qa, fun e => hz.2.2.2 ?_, hz.1, hz.2.1, by omega, fun q hq => post_tup p w ?_ (la.flat _) hq⟩
        · rw [e] at l1
          exact List.eq_nil_of_length_eq_zero l1.symm
        · rw [PyProof.Rows.lm_len_rep_flat, sizeLine_eq]
          have a1 : k.toNat * vs.length ≤ 1000 * 1000 := Nat.mul_le_mul (by omega) (by omega)
          omega
      · simp only [binD, if_neg hz] at p; exact p.elim
    · rename_i xs k
      obtain ⟨a, vs, rfl, qa, za, la⟩ := ra
      obtain rfl := rb
      by_cases hz : 0 ≤ k ∧ k ≤ 1000 ∧ xs.length ≤ 1000
      · simp only [binD, if_pos hz] at p
        have l1 := la.length
        have a1 : k.toNat * vs.length ≤ 1000 * 1000 := Nat.mul_le_mul (by omega) (by omega)
        have a2 : vs.length * k.toNat ≤ sizeLine := by rw [Nat.mul_comm, sizeLine_eq]; omega
        exact op_repR pins s σ H _ _ v u Q I rx ry ⟨a, k, vs, rfl, rfl, qa, by omega, by omega, a2, fun q hq => post_new (u := .lst (List.replicate k.toNat vs).flatten) p w rfl ⟨by rw [PyProof.Rows.lm_len_rep_flat, Nat.mul_comm]; exact a2, la.flat _⟩ hq⟩
      · simp only [binD, if_neg hz] at p; exact p.elim
  -- mod
  · cases da <;> cases db <;> first | exact p.elim | skip
    obtain rfl := ra
    obtain rfl := rb
    rename_i a b
    by_cases hz : 0 < b
    · simp only [binD, if_pos hz] at p
      exact op_mod pins s σ H _ _ v u Q I rx ry ⟨_, _, rfl, rfl, hz, post_here p w rfl rfl⟩
    · simp only [binD, if_neg hz] at p; exact p.elim
  -- pow
  · cases da <;> cases db <;> first | exact p.elim | skip
    obtain rfl := ra
    obtain rfl := rb
    rename_i a b
    by_cases hz : 0 ≤ b ∧ b ≤ 100 ∧ -1000 ≤ a ∧ a ≤ 1000
    · simp only [binD, if_pos hz] at p
      refine op_pow pins s σ H _ _ v u Q I rx ry ⟨_, _, rfl, rfl, ⟨hz.1, by omega, ?_⟩, post_here p w rfl rfl⟩
      have : a.natAbs ≤ 1000 := by omega
      exact Nat.lt_of_le_of_lt this (by decide)
    · simp only [binD, if_neg hz] at p; exact p.elim
  -- fdiv
  · cases da <;> cases db <;> first | exact p.elim | skip
    obtain rfl := ra
    obtain rfl := rb
    rename_i a b
    by_cases hz : 0 < b ∧ b < 1073741824
    · simp only [binD, if_pos hz] at p
      exact op_fdiv pins s σ H _ _ v u Q I rx ry ⟨_, _, rfl, rfl, hz, post_here p w rfl rfl⟩
    · simp only [binD, if_neg hz] at p; exact p.elim
end
end Wh
/-! Comparisons of data. -/
namespace Wh
open PySem L2 PySem.Spec PyProof.Rows

section
variable {C : Wd} {H G : Hp} {io : List Addr} {m : Mu}
mutual
theorem toP_dp (w : WRel C H G io m) : ∀ (n : Nat) (d : D) (p : PyData) (v : V), toP n d = some p → Rep C G io d v → Dp C.K H v p
  | 0, d, p, v, h, r => by simp [toP] at h
  | n + 1, .non, p, v, h, r => by
    simp only [toP, Option.some.injEq] at h
    subst h
    obtain rfl : v = .non := r
    exact .non
  | n + 1, .bl b, p, v, h, r => by
    simp only [toP, Option.some.injEq] at h
    subst h
    obtain rfl : v = .bl b := r
    exact .bl b
  | n + 1, .int i, p, v, h, r => by
    simp only [toP, Option.some.injEq] at h
    subst h
    obtain rfl : v = .int i := r
    exact .int i
  | n + 1, .str s, p, v, h, r => by
    simp only [toP] at h
    split at h
    · simp only [Option.some.injEq] at h
      subst h
      obtain rfl : v = .str s := r
      exact .str s
    · cases h
  | n + 1, .tup xs, p, v, h, r => by
    simp only [toP] at h
    obtain ⟨ps, e, rfl⟩ := Option.map_eq_some_iff.mp h
    obtain ⟨a, vs, rfl, q, _, l⟩ := r
    exact .tup (w.sqT q) (toPs_dp w n xs ps vs e l)
  | n + 1, .lst xs, p, v, h, r => by
    simp only [toP] at h
    obtain ⟨ps, e, rfl⟩ := Option.map_eq_some_iff.mp h
    obtain ⟨a, vs, rfl, q, _, l⟩ := r
    exact .lst (.inl (w.sub.rd q)) (toPs_dp w n xs ps vs e l)
  | n + 1, .dic ks, p, v, h, r => by simp [toP] at h
  | n + 1, .ins c fs, p, v, h, r => by simp [toP] at h
  | n + 1, .box k, p, v, h, r => by simp [toP] at h
  | n + 1, .exc c, p, v, h, r => by simp [toP] at h
  | n + 1, .fn f, p, v, h, r => by simp [toP] at h
theorem toPs_dp (w : WRel C H G io m) : ∀ (n : Nat) (ds : List D) (ps : List PyData) (vs : List V), toPs n ds = some ps → RepL C G io ds vs → DpAll C.K H vs ps
  | n, [], ps, vs, h, r => by
    simp only [toPs, Option.some.injEq] at h
    subst h
    obtain rfl : vs = [] := r
    exact .nil
  | n, d :: ds, ps, vs, h, r => by
    simp only [toPs] at h
    obtain ⟨p, e1, h⟩ := Option.bind_eq_some_iff.mp h
    obtain ⟨qs, e2, rfl⟩ := Option.map_eq_some_iff.mp h
    obtain ⟨v, us, rfl, q, t⟩ := r
    exact .cons (toP_dp w n d p v e1 q) (toPs_dp w n ds qs us e2 t)
end
theorem toP_dpB (w : WRel C H G io m) {n : Nat} {d : D} {p : PyData} {v : V} (h : toP n d = some p) (r : RepB C H G io d v) : Dp C.K H v p := by
  cases d with
  | lst xs =>
    cases n with
    | zero => simp [toP] at h
    | succ n =>
      simp only [toP] at h
      obtain ⟨ps, e, rfl⟩ := Option.map_eq_some_iff.mp h
      obtain ⟨a, vs, rfl, q, _, l⟩ := r
      exact .lst (.inl q) (toPs_dp w n xs ps vs e l)
  | dic ks => cases n <;> simp [toP] at h
  | ins c fs => cases n <;> simp [toP] at h
  | _ => exact toP_dp w n _ p v h r
mutual
theorem toP_shape : ∀ (n : Nat) (d : D) (p : PyData), toP n d = some p → p.canLay0 = true ∧ p.depth ≤ n
  | 0, d, p, h => by simp [toP] at h
  | n + 1, .non, p, h => by
    simp only [toP, Option.some.injEq] at h
    subst h
    exact ⟨rfl, Nat.zero_le _⟩
  | n + 1, .bl b, p, h => by
    simp only [toP, Option.some.injEq] at h
    subst h
    exact ⟨rfl, Nat.zero_le _⟩
  | n + 1, .int i, p, h => by
    simp only [toP, Option.some.injEq] at h
    subst h
    exact ⟨rfl, Nat.zero_le _⟩
  | n + 1, .str s, p, h => by
    simp only [toP] at h
    split at h
    · rename_i e
      simp only [Option.some.injEq] at h
      subst h
      exact ⟨e, Nat.zero_le _⟩
    · cases h
  | n + 1, .tup xs, p, h => by
    simp only [toP] at h
    obtain ⟨ps, e, rfl⟩ := Option.map_eq_some_iff.mp h
    obtain ⟨a, b⟩ := toPs_shape n xs ps e
    refine ⟨by simpa [PyData.canLay0] using a, ?_⟩
    simp only [PyData.depth]
    omega
  | n + 1, .lst xs, p, h => by
    simp only [toP] at h
    obtain ⟨ps, e, rfl⟩ := Option.map_eq_some_iff.mp h
    obtain ⟨a, b⟩ := toPs_shape n xs ps e
    refine ⟨by simpa [PyData.canLay0] using a, ?_⟩
    simp only [PyData.depth]
    omega
  | n + 1, .dic ks, p, h => by simp [toP] at h
  | n + 1, .ins c fs, p, h => by simp [toP] at h
  | n + 1, .box k, p, h => by simp [toP] at h
  | n + 1, .exc c, p, h => by simp [toP] at h
  | n + 1, .fn f, p, h => by simp [toP] at h
theorem toPs_shape : ∀ (n : Nat) (ds : List D) (ps : List PyData), toPs n ds = some ps → PyData.canLayAll0 ps = true ∧ PyData.depthAll ps ≤ n
  | n, [], ps, h => by
    simp only [toPs, Option.some.injEq] at h
    subst h
    exact ⟨rfl, Nat.zero_le n⟩
  | n, d :: ds, ps, h => by
    simp only [toPs] at h
    obtain ⟨p, e1, h⟩ := Option.bind_eq_some_iff.mp h
    obtain ⟨qs, e2, rfl⟩ := Option.map_eq_some_iff.mp h
    obtain ⟨a1, b1⟩ := toP_shape n d p e1
    obtain ⟨a2, b2⟩ := toPs_shape n ds qs e2
    refine ⟨by simp [PyData.canLayAll0, a1, a2], ?_⟩
    simp only [PyData.depthAll]
    omega
end
theorem toP_shaped {n : Nat} {d : D} {p : PyData} (h : toP n d = some p) (hn : n ≤ 60) : SeqAt.shaped p = true := by
  obtain ⟨a, b⟩ := toP_shape n d p h
  unfold SeqAt.shaped
  rw [a, decide_eq_true (by omega)] <;> rfl
theorem toPs_shaped {n : Nat} {ds : List D} {ps : List PyData} (h : toPs n ds = some ps) (hn : n ≤ 60) : SeqAt.shaped (.list ps) = true := by
  obtain ⟨a, b⟩ := toPs_shape n ds ps h
  unfold SeqAt.shaped
  have e : (PyData.list ps).canLay0 = true := by simpa [PyData.canLay0] using a
  rw [e, decide_eq_true (by simp only [PyData.depth]; omega)] <;> rfl
theorem RepK.mem : ∀ {ks : List (Key × D)} {kvs : List (Key × V)} {z : Key × V}, RepK C G io ks kvs → z ∈ kvs → ∃ d, (z.1, d) ∈ ks ∧ Rep C G io d z.2
  | [], kvs, z, h, hz => by
    obtain rfl : kvs = [] := h
    cases hz
  | (k, d) :: ks, kvs, z, h, hz => by
    obtain ⟨v, r, rfl, q, t⟩ := h
    rcases List.mem_cons.mp hz with e | hz
    · subst e
      exact ⟨d, List.mem_cons_self, q⟩
    · obtain ⟨d', h1, h2⟩ := RepK.mem t hz
      exact ⟨d', List.mem_cons_of_mem _ h1, h2⟩
theorem scalD_ok {da db : D} {x y : V} {r : Bool} (h : scalD da db = some r) (ra : RepB C H G io da x) (rb : RepB C H G io db y) : scal x y = true ∧ decide (x = y) = r := by
  cases da <;> cases db <;> simp only [scalD, reduceCtorEq, Option.some.injEq] at h
  all_goals (subst h; obtain rfl := ra; obtain rfl := rb; refine ⟨rfl, ?_⟩)
  all_goals first | rfl | simp
  all_goals (rw [Bool.eq_iff_iff]; simp)
theorem flatD_ok {d : D} {v : V} (h : flatD d = true) (r : Rep C G io d v) : flatV v = true ∧ ∀ {d' : D} {v' : V}, flatD d' = true → Rep C G io d' v' → eqV v v' = eqF d d' := by
  cases d <;> simp only [flatD, Bool.false_eq_true] at h
  all_goals (obtain rfl := r; refine ⟨rfl, fun {d' v'} h' r' => ?_⟩)
  all_goals (cases d' <;> simp only [flatD, Bool.false_eq_true] at h' <;> obtain rfl := r' <;> rfl)
theorem repB_flat {d : D} {v : V} (h : flatD d = true) (r : RepB C H G io d v) : Rep C G io d v := by
  cases d <;> simp only [flatD, Bool.false_eq_true] at h <;> exact r
theorem flatL_ok : ∀ {ds : List D} {vs : List V}, ds.all flatD = true → RepL C G io ds vs → vs.all flatV = true ∧ ∀ {d' : D} {v' : V}, flatD d' = true → Rep C G io d' v' → inV v' vs = ds.any fun y => eqF y d'
  | [], vs, h, r => by
    obtain rfl : vs = [] := r
    exact ⟨rfl, fun _ _ => rfl⟩
  | d :: ds, vs, h, r => by
    obtain ⟨v, us, rfl, q, t⟩ := r
    rw [List.all_cons, Bool.and_eq_true] at h
    obtain ⟨a1, b1⟩ := flatD_ok h.1 q
    obtain ⟨a2, b2⟩ := flatL_ok h.2 t
    refine ⟨by rw [List.all_cons, a1, a2] <;> rfl, fun {d' v'} h' r' => ?_⟩
    show ((v :: us).any fun y => eqV y v') = _
    rw [List.any_cons, List.any_cons, b1 h' r']
    congr 1
    exact b2 h' r'
theorem keyOf_ok {d : D} {k : Key} {v : V} (h : keyOf d = some k) (r : RepB C H G io d v) : v = kV k := by
  cases d <;> simp only [keyOf, reduceCtorEq, Option.some.injEq] at h
  all_goals (subst h; exact r)
end
section
variable {X : Cx} {C : Wd}
theorem eq_some {C : Wd} {W : WX} {σ : L2.St} {H G : Hp} {io : List Addr} {m : Mu} {Q : VK} {o : Option Bool} {f : Bool → Bool} (p : Post C W σ H G io (RepN C H) (up (o.map fun r => D.bl (f r)) m) Q) (w : WRel C H G io m) : ∃ r, o = some r ∧ Q (.bl (f r)) H := by
  cases o with
  | none => exact p.elim
  | some r => exact ⟨r, rfl, post_here p w rfl rfl⟩
/-- == at whatever the wish is -/
theorem eqD_run {C : Wd} {H G : Hp} {io : List Addr} {m : Mu} {da db : D} {x y : V} {r : Bool} (hK : X.K = C.K) (hu : X.A.units + 64 < cLine) (w : WRel C H G io m) (ra : RepB C H G io da x) (rb : RepB C H G io db y) (h : eqD da db = some r) :
    ∀ (pins : List (Addr × Obj)) (s : Shared) (σ : L2.St) (v u : Value) (Q : VK), Inv X pins σ H s → RelV x v → RelV y u →
      (Q (.bl r) H → wpAny (model X.prog X.w) X.A (compareOp .Eq v u) (EP X pins σ Q) X.xe s) ∧ (Q (.bl (!r)) H → wpAny (model X.prog X.w) X.A (compareOp .NotEq v u) (EP X pins σ Q) X.xe s) := by
  intro pins s σ v u Q I rx ry
  unfold eqD at h
  cases e : scalD da db with
  | some r' =>
    rw [e] at h
    simp only [Option.some.injEq] at h
    subst h
    obtain ⟨h1, h2⟩ := scalD_ok e ra rb
    exact ⟨fun q => op_eq pins s σ H _ _ v u Q I rx ry ⟨h1, by rw [h2]; exact q⟩, fun q => op_ne pins s σ H _ _ v u Q I rx ry ⟨h1, by rw [h2]; exact q⟩⟩
  | none =>
    rw [e] at h
    have deepR : deepD da db = some r →
        (Q (.bl r) H → wpAny (model X.prog X.w) X.A (compareOp .Eq v u) (EP X pins σ Q) X.xe s) ∧ (Q (.bl (!r)) H → wpAny (model X.prog X.w) X.A (compareOp .NotEq v u) (EP X pins σ Q) X.xe s) := fun h => by
      obtain ⟨p, e1, h⟩ := Option.bind_eq_some_iff.mp h
      obtain ⟨q, e2, h⟩ := Option.map_eq_some_iff.mp h
      have d1 := toP_dpB w e1 ra
      have d2 := toP_dpB w e2 rb
      rw [← hK] at d1 d2
      have s1 := toP_shaped e1 (Nat.le_refl _)
      have s2 := toP_shaped e2 (Nat.le_refl _)
      exact ⟨fun z => op_eqD hu pins s σ H _ _ v u Q I rx ry ⟨p, q, d1, d2, s1, s2, by rw [h]; exact z⟩, fun z => op_neD hu pins s σ H _ _ v u Q I rx ry ⟨p, q, d1, d2, s1, s2, by rw [h]; exact z⟩⟩
    have nilR : nilD da db = some r →
        (Q (.bl r) H → wpAny (model X.prog X.w) X.A (compareOp .Eq v u) (EP X pins σ Q) X.xe s) ∧ (Q (.bl (!r)) H → wpAny (model X.prog X.w) X.A (compareOp .NotEq v u) (EP X pins σ Q) X.xe s) := fun h => by
      cases da with
      | lst xs =>
        cases db with
        | lst ys =>
          cases ys with
          | cons _ _ => cases h
          | nil =>
            simp only [nilD, Option.some.injEq] at h
            subst h
            obtain ⟨p, vs, rfl, qa, za, la⟩ := ra
            obtain ⟨q, us, rfl, qb, zb, lb⟩ := rb
            obtain rfl : us = [] := lb
            obtain rfl : v = Value.ref p := rx
            obtain rfl : u = Value.ref q := ry
            obtain ⟨i1, r1, p1, _⟩ := I.list (.inl qa)
            obtain ⟨i2, r2, p2, _⟩ := I.list (.inl qb)
            cases r2
            have hu' : X.A.units < cLine := by omega
            have fin : ∀ b, Q (.bl b) H → EP X pins σ Q (.bool b) s := fun b z => ⟨.bl b, H, I, rfl, z⟩
            cases xs with
            | nil =>
              obtain rfl : vs = [] := la
              cases r1
              exact ⟨fun z => PySem.SeqAt.eq_listAt (e := fun _ => true) p1.isList p2.isList rfl hu' (fun j h1 => absurd h1 (by simp)) (fin _ z), fun z => PySem.SeqAt.RcNeAt.lists (e := fun _ => true) p1.isList p2.isList rfl hu' (fun j h1 => absurd h1 (by simp)) X.prog X.w X.xe _ (fin _ z)⟩
            | cons x xs =>
              obtain ⟨v0, vr, rfl, _, _⟩ := la
              cases r1 with
              | cons _ _ => exact ⟨fun z => PySem.SeqAt.eq_list_lengthsAt p1.isList p2.isList (by simp) hu' (fin _ z), fun z => PySem.SeqAt.RcNeAt.lists_lengths p1.isList p2.isList (by simp) hu' X.prog X.w X.xe _ (fin _ z)⟩
        | _ => cases h
      | _ => cases h
    have deep : (match deepD da db with
        | some r => some r
        | none => nilD da db) = some r →
        (Q (.bl r) H → wpAny (model X.prog X.w) X.A (compareOp .Eq v u) (EP X pins σ Q) X.xe s) ∧ (Q (.bl (!r)) H → wpAny (model X.prog X.w) X.A (compareOp .NotEq v u) (EP X pins σ Q) X.xe s) := fun h => by
      cases e3 : deepD da db with
      | some r' =>
        rw [e3] at h
        cases h
        exact deepR e3
      | none =>
        rw [e3] at h
        exact nilR h
    cases da with
    | dic a => cases db with
      | dic b =>
        have h : dicEq a b = some r := h
        obtain ⟨p, ks, rfl, qa, za, la⟩ := ra
        obtain ⟨q, ls, rfl, qb, zb, lb⟩ := rb
        obtain rfl : v = Value.ref p := rx
        obtain rfl : u = Value.ref q := ry
        obtain ⟨_, ya, va, rva, da⟩ := (show ObjOk X.prog X.w H s.heap p (.dK ks) from qa.ok I.hok)
        obtain ⟨_, yb, vb, rvb, db⟩ := (show ObjOk X.prog X.w H s.heap q (.dK ls) from qb.ok I.hok)
        have l1 : va.length = a.length := by rw [← rva.length, la.length]
        have l2 : vb.length = b.length := by rw [← rvb.length, lb.length]
        have hu' : X.A.units < cLine := by omega
        unfold dicEq at h
        split at h
        · rename_i hl
          split at h
          · rename_i ha
            simp only [Option.some.injEq] at h
            subst h
            have hp : ∀ z ∈ ks, valV ls z.1 = some z.2 ∧ flatB z.2 = true := fun z hz => by
              obtain ⟨d, hd, rd⟩ := la.mem hz
              have q := List.all_eq_true.mp ha _ hd
              obtain ⟨h1, h2⟩ := RepK.look z.1 lb
              cases el : lookK b z.1 with
              | none =>
                rw [el] at q
                cases q
              | some d2 =>
                rw [el] at q
                obtain ⟨v2, ev, r2⟩ := h1 d2 el
                cases d2 <;> cases d <;> first
                  | exact absurd (show false = true from q) Bool.false_ne_true
                  | (have e := eq_of_beq (α := Int) q
                     subst e
                     have e2 : v2 = z.2 := by
                       have a1 : v2 = _ := r2
                       have a2 : z.2 = _ := rd
                       rw [a1, a2]
                     rw [e2] at ev
                     refine ⟨ev, ?_⟩
                     have a2 : z.2 = _ := rd
                     rw [a2] <;> rfl)
                  | (have e := eq_of_beq (α := Str) q
                     subst e
                     have e2 : v2 = z.2 := by
                       have a1 : v2 = _ := r2
                       have a2 : z.2 = _ := rd
                       rw [a1, a2]
                     rw [e2] at ev
                     refine ⟨ev, ?_⟩
                     have a2 : z.2 = _ := rd
                     rw [a2] <;> rfl)
            exact ⟨fun z => PySem.W.keq_eq (knd := mixKind X.prog X.w) (r := true) ya yb da db hu' (fun _ => hits_all rvb rva hp) (fin_bl I z (by simp [l1, l2, hl])),
              fun z => PySem.W.keq_ne (knd := mixKind X.prog X.w) (r := true) ya yb da db hu' (fun _ => hits_all rvb rva hp) (fin_bl I z (by simp [l1, l2, hl]))⟩
          · cases h
        · rename_i hl
          simp only [Option.some.injEq] at h
          subst h
          have hb : (va.length == vb.length) = false := beq_eq_false_iff_ne.mpr (by omega)
          exact ⟨fun z => PySem.W.keq_eq (knd := mixKind X.prog X.w) (r := true) ya yb da db hu' (fun z => absurd z (by omega)) (fin_bl I z (by simp [hb])),
              fun z => PySem.W.keq_ne (knd := mixKind X.prog X.w) (r := true) ya yb da db hu' (fun z => absurd z (by omega)) (fin_bl I z (by simp [hb]))⟩
      | _ => exact deep h
    | _ => exact deep h
theorem isD_ok {C : Wd} {H G : Hp} {io : List Addr} {da db : D} {x y : V} {r : Bool} (h : isD da db = some r) (ra : RepB C H G io da x) (rb : RepB C H G io db y) :
    (y = .non ∧ decide (x = .non) = r) ∨ ∃ a b, x = .bl a ∧ y = .bl b ∧ decide (a = b) = r := by
  cases db with
  | non =>
    obtain rfl : y = .non := rb
    refine .inl ⟨rfl, ?_⟩
    cases da <;> simp only [isD, reduceCtorEq, Option.some.injEq] at h <;> subst h
    · obtain rfl : x = .non := ra; rfl
    · obtain rfl := ra; rfl
    · obtain rfl := ra; rfl
    · obtain rfl := ra; rfl
    · obtain ⟨a, _, rfl, _⟩ := ra; rfl
    · obtain ⟨a, _, rfl, _⟩ := ra; rfl
    · obtain ⟨a, _, rfl, _⟩ := ra; rfl
    · obtain ⟨a, _, _, _, rfl, _⟩ := ra; rfl
  | bl b =>
    cases da <;> simp only [isD, reduceCtorEq, Option.some.injEq] at h
    obtain rfl := ra
    obtain rfl := rb
    refine .inr ⟨_, _, rfl, rfl, ?_⟩
    rw [← h, Bool.eq_iff_iff]
    simp
  | _ => cases da <;> simp [isD] at h
/-- a comparison of data -/
theorem op_cmpD {op : CmpOp} {o : Co} (hop : co op = some o) (hK : X.K = C.K) (hu : X.A.units + 65 < cLine) : OpR X (compareOp op) (rOp2 C (cmpD o)) := by
  intro pins s σ H x y v u Q I rx ry h
  obtain ⟨G, io, m, da, db, w, ra, rb, p⟩ := h
  have hu' : X.A.units + 64 < cLine := by omega
  cases op <;> simp only [co, Option.some.injEq] at hop
  all_goals subst hop
  · -- ==
    obtain ⟨r, e, q⟩ := eq_some (f := fun r => r) (o := eqD da db) p w
    exact (eqD_run hK hu' w ra rb e pins s σ v u Q I rx ry).1 q
  · obtain ⟨r, e, q⟩ := eq_some (f := fun r => !r) (o := eqD da db) p w
    exact (eqD_run hK hu' w ra rb e pins s σ v u Q I rx ry).2 q
  · cases da <;> cases db <;> first | exact p.elim | skip
    obtain rfl := ra
    obtain rfl := rb
    exact op_lt pins s σ H _ _ v u Q I rx ry ⟨_, _, rfl, rfl, post_here p w rfl rfl⟩
  · cases da <;> cases db <;> first | exact p.elim | skip
    obtain rfl := ra
    obtain rfl := rb
    exact op_le pins s σ H _ _ v u Q I rx ry ⟨_, _, rfl, rfl, post_here p w rfl rfl⟩
  · cases da <;> cases db <;> first | exact p.elim | skip
    obtain rfl := ra
    obtain rfl := rb
    exact op_gt pins s σ H _ _ v u Q I rx ry ⟨_, _, rfl, rfl, post_here p w rfl rfl⟩
  · cases da <;> cases db <;> first | exact p.elim | skip
    obtain rfl := ra
    obtain rfl := rb
    exact op_ge pins s σ H _ _ v u Q I rx ry ⟨_, _, rfl, rfl, post_here p w rfl rfl⟩
  · -- is
    obtain ⟨r, e, q⟩ := eq_some (f := fun r => r) (o := isD da db) p w
    rcases isD_ok e ra rb with ⟨rfl, h⟩ | ⟨a, b, rfl, rfl, h⟩
    · exact op_isN pins s σ H _ _ v u Q I rx ry ⟨rfl, by rw [h]; exact q⟩
    · exact op_isBl pins s σ H _ _ v u Q I rx ry ⟨a, b, rfl, rfl, by rw [h]; exact q⟩
  · obtain ⟨r, e, q⟩ := eq_some (f := fun r => !r) (o := isD da db) p w
    rcases isD_ok e ra rb with ⟨rfl, h⟩ | ⟨a, b, rfl, rfl, h⟩
    · exact op_notN pins s σ H _ _ v u Q I rx ry ⟨rfl, by rw [h]; exact q⟩
    · exact op_notBl pins s σ H _ _ v u Q I rx ry ⟨a, b, rfl, rfl, by rw [h]; exact q⟩
  · -- in
    obtain ⟨r, e, q⟩ := eq_some (f := fun r => r) (o := inD da db) p w
    cases db <;> simp only [inD, reduceCtorEq] at e
    · -- a text
      cases da <;> simp only [reduceCtorEq, Option.some.injEq] at e
      subst e
      obtain rfl := ra
      obtain rfl := rb
      exact op_in_str pins s σ H _ _ v u Q I rx ry ⟨_, _, rfl, rfl, q⟩
    · split at e
      · rename_i hf
        rw [Bool.and_eq_true] at hf
        simp only [Option.some.injEq] at e
        subst e
        obtain ⟨a, vs, rfl, qb, _, lb⟩ := rb
        have ra' := repB_flat hf.1 ra
        obtain ⟨f1, f2⟩ := flatL_ok hf.2 lb
        exact op_in_seq pins s σ H _ _ v u Q I rx ry ⟨a, vs, rfl, .inr (by rw [hK]; exact w.sqT qb), (flatD_ok hf.1 ra').1, f1, by
          show Q (.bl (inV _ vs)) H
          rw [f2 hf.1 ra']; exact q⟩
      · cases e
    · obtain ⟨pd, e1, e⟩ := Option.bind_eq_some_iff.mp e
      obtain ⟨ps, e2, e⟩ := Option.map_eq_some_iff.mp e
      have d1 := toP_dpB w e1 ra
      obtain ⟨a, vs, rfl, qb, _, lb⟩ := rb
      have d2 : Dp C.K H (.ref a) (.list ps) := .lst (.inl qb) (toPs_dp w _ _ ps vs e2 lb)
      rw [← hK] at d1 d2
      exact op_inD hu pins s σ H _ _ v u Q I rx ry ⟨pd, ps, d1, d2, toP_shaped e1 (by decide), toPs_shaped e2 (by decide), by rw [e]; exact q⟩
    · rename_i ks
      obtain ⟨k, e1, e⟩ := Option.map_eq_some_iff.mp e
      obtain ⟨a, kvs, rfl, qb, _, lb⟩ := rb
      obtain rfl := keyOf_ok e1 ra
      obtain rfl : u = Value.ref a := ry
      obtain ⟨h1, h2⟩ := RepK.look k lb
      refine d_in (o := valV kvs k) (by omega) I (.inl ⟨kvs, k, qb, rfl, rfl⟩) rx fun s' I' => ⟨.bl _, H, I', rfl, ?_⟩
      have ee : (valV kvs k).isSome = r := by
        rw [← e]
        cases el : lookK ks k with
        | none => rw [h2 el] <;> rfl
        | some d =>
          obtain ⟨v2, ev, _⟩ := h1 d el
          rw [ev] <;> rfl
      rw [ee]
      exact q
  · obtain ⟨r, e, q⟩ := eq_some (f := fun r => !r) (o := inD da db) p w
    cases db <;> simp only [inD, reduceCtorEq] at e
    · cases da <;> simp only [reduceCtorEq, Option.some.injEq] at e
      subst e
      obtain rfl := ra
      obtain rfl := rb
      exact op_notin_str pins s σ H _ _ v u Q I rx ry ⟨_, _, rfl, rfl, q⟩
    · split at e
      · rename_i hf
        rw [Bool.and_eq_true] at hf
        simp only [Option.some.injEq] at e
        subst e
        obtain ⟨a, vs, rfl, qb, _, lb⟩ := rb
        have ra' := repB_flat hf.1 ra
        obtain ⟨f1, f2⟩ := flatL_ok hf.2 lb
        exact op_notIn_seq pins s σ H _ _ v u Q I rx ry ⟨a, vs, rfl, .inr (by rw [hK]; exact w.sqT qb), (flatD_ok hf.1 ra').1, f1, by
          show Q (.bl (!inV _ vs)) H
          rw [f2 hf.1 ra']; exact q⟩
      · cases e
    · obtain ⟨pd, e1, e⟩ := Option.bind_eq_some_iff.mp e
      obtain ⟨ps, e2, e⟩ := Option.map_eq_some_iff.mp e
      have d1 := toP_dpB w e1 ra
      obtain ⟨a, vs, rfl, qb, _, lb⟩ := rb
      have d2 : Dp C.K H (.ref a) (.list ps) := .lst (.inl qb) (toPs_dp w _ _ ps vs e2 lb)
      rw [← hK] at d1 d2
      exact op_notInD hu pins s σ H _ _ v u Q I rx ry ⟨pd, ps, d1, d2, toP_shaped e1 (by decide), toPs_shaped e2 (by decide), by rw [e]; exact q⟩
    · rename_i ks
      obtain ⟨k, e1, e⟩ := Option.map_eq_some_iff.mp e
      obtain ⟨a, kvs, rfl, qb, _, lb⟩ := rb
      obtain rfl := keyOf_ok e1 ra
      obtain rfl : u = Value.ref a := ry
      obtain ⟨h1, h2⟩ := RepK.look k lb
      refine d_notIn (o := valV kvs k) (by omega) I (.inl ⟨kvs, k, qb, rfl, rfl⟩) rx fun s' I' => ⟨.bl _, H, I', rfl, ?_⟩
      have ee : (valV kvs k).isSome = r := by
        rw [← e]
        cases el : lookK ks k with
        | none => rw [h2 el] <;> rfl
        | some d =>
          obtain ⟨v2, ev, _⟩ := h1 d el
          rw [ev] <;> rfl
      rw [ee]
      exact q
end
end Wh
/-! Expressions, construct by construct. -/
namespace Wh
open PySem L2 PySem.Spec PyProof.Rows

/-! ### runs in a row -/
/-- told of what was ahead, no worse -/
def Mo {α β : Type} (R : Hp → Hp → Hp → List Addr → α → β → Prop) : Prop := ∀ H H1 : Hp, (∀ a, H1 a = none → H a = none) → ∀ H' G' io' d v, R H1 H' G' io' d v → R H H' G' io' d v
theorem Mo.const {α β : Type} {R : Hp → Hp → List Addr → α → β → Prop} : Mo (fun _ => R) := fun _ _ _ _ _ _ _ _ h => h
theorem Mo.repN {C : Wd} : Mo (RepN C) := fun H H1 ha H' G' io' d v h => by
  unfold RepN at h ⊢
  split at h
  · rename_i hd
    rw [if_pos hd]
    obtain ⟨a, u, e, h0, r⟩ := h
    exact ⟨a, u, e, ha a h0, r⟩
  · rename_i hd
    rw [if_neg hd]
    exact h
section
variable {C : Wd} {W : WX} {σ : L2.St} {H G : Hp} {io : List Addr} {m : Mu} {α β γ δ : Type} {r : Env}
theorem Post.seq {R' : Hp → Hp → Hp → List Addr → γ → δ → Prop} {R : Hp → Hp → List Addr → α → β → Prop} {f : Res α} {k : α → Mu → Res γ} {Q : δ → Hp → Prop} (hm : Mo R') (sr : SRel C σ H G io r) (h : Post C W σ H G io (R' H) (f.bind k) Q) :
    Post C W σ H G io R f (fun v H1 => ∃ G1 io1 m1 d, Step H G io H1 G1 io1 ∧ WRel C H1 G1 io1 m1 ∧ SRel C σ H1 G1 io1 r ∧ R H1 G1 io1 d v ∧ f = .ok d m1 ∧ Post C W σ H1 G1 io1 (R' H1) (k d m1) Q) :=
  (h.bind (R := R)).mono fun v H1 ⟨G1, io1, m1, d, s, w, q, e, p⟩ => ⟨G1, io1, m1, d, s, w, sr.step s, q, e, p.imp fun H' G' io' d v z => hm H H1 s.alive H' G' io' d v z⟩
theorem Post.up' {W' : WX} {σ' : L2.St} {R : Hp → Hp → List Addr → α → β → Prop} {o : Option α} {Q : β → Hp → Prop} (h : Post C W σ H G io R (up o m) Q) : Post C W' σ' H G io R (up o m) Q := by
  cases o <;> exact h
theorem Post.here {R : Hp → Hp → List Addr → α → β → Prop} {d : α} {v : β} {Q : β → Hp → Prop} (h : Post C W σ H G io R (.ok d m) Q) (w : WRel C H G io m) (q : R H G io d v) : Q v H := h v H G io (Step.refl H G io) w q
end

/-! ### what is asked of the globals -/
/-- a def's promise: as the engine runs it -/
def spF (C : Wd) (F : Fn) (f : String) (n : Nat) : Sp := fun vs H Q E => vs.length = n ∧ ∃ G io m ds, WRel C H G io m ∧ RepL C G io ds vs ∧ Post C (fun c d _ H => E c d H) [] H G io (rRep C) (F f ds m) Q
structure FnIs (C : Wd) (F : Fn) (X : Cx) (k : Nat) (f : String) (x : Str) : Prop where
  ex : ∃ (a : Addr) (fd : FuncData) (ps : List Str), X.mg x = some (.ref a) ∧ PySem.W.keepIn X.K (.ref a) = true ∧ Binds X.K fd ps [] ∧ FnOk X.prog X.w X.K X.mg X.base (L2.CX X.prog X.w) k a fd ps (spF C F f ps.length) ∧ ∀ ds m, F f ds m ≠ .bad → ds.length = ps.length
def bltNames : List String := ["len", "sum", "max", "min", "all", "any", "sorted", "list", "tuple", "dict", "int", "str", "divmod", "range", "set", "enumerate", "zip", "isinstance", "bool", "ValueError"]
/-- o.m(..) of the class at A -/
structure MetIs (C : Wd) (F : Fn) (X : Cx) (k : Nat) (c : String) (A : Addr) (m : String) : Prop where
  ex : ∃ (a : Addr) (fd : FuncData) (ps : List Str), Meth X.K A (S m) a ∧ Binds X.K fd ps [] ∧ FnOk X.prog X.w X.K X.mg X.base (L2.CX X.prog X.w) k a fd ps (spF C F (c ++ "." ++ m) ps.length) ∧ ∀ ds mm, F (c ++ "." ++ m) ds mm ≠ .bad → ds.length = ps.length
/-- an __init__'s promise: a new instance at x -/
def spI (C : Wd) (F : Fn) (c : String) (A : Addr) (n : Nat) : Sp := fun vs H Q E => vs.length = n ∧ ∃ x dx rest H1 G io m ds d m', vs = .ref x :: rest ∧ H = upd (upd H1 dx (.own x)) x (.ins A dx []) ∧ H1 x = none ∧ H1 dx = none ∧ dx ≠ x ∧ WRel C H1 G io m ∧ RepL C G io ds rest ∧ F c ds m = .ok d m' ∧
  ∀ H' G' io' u, Step H1 G io H' G' io' → WRel C H' G' io' m' → H' x = some u → IsOb C G' io' u d → G' x = none → x ∉ io' → Q .non H'
structure NewIs (C : Wd) (F : Fn) (X : Cx) (k : Nat) (c : String) : Prop where
  ex : ∃ (A f : Addr) (fd : FuncData) (ps : List Str), X.mg (S c) = some (.ref A) ∧ C.isC c A ∧ Mk X.K A f ∧ Binds X.K fd ps [] ∧ FnOk X.prog X.w X.K X.mg X.base (L2.CX X.prog X.w) k f fd ps (spI C F c A ps.length) ∧ ∀ ds mm, F c ds mm ≠ .bad → ds.length + 1 = ps.length
/-- a class of errors -/
structure ExcIs (T : Tb) (X : Cx) (c : String) (A : Addr) : Prop where
  mg : X.mg (S c) = some (.ref A)
  ok : PySem.W.excIn X.K A He.veBase "ValueError.__new__" = true
  kp : PySem.W.keepIn X.K (.ref A) = true
  bs : PySem.W.subIn X.K (.ref A) (.type "BaseException") = some true
  ty : PySem.W.typeIn X.K (.ref A) = some (.type "type")
  ec : ExcC X.K A
  exm : ∀ d ∈ T.excs, ∃ B, X.mg (S d) = some (.ref B) ∧ PySem.W.exmOne X.K (.ref A) (.ref B) = some (subx c d) ∧ PySem.W.kitOne X.K (.ref A) (.ref B) = some (subx c d)
  ve : PySem.W.kitOne X.K (.ref A) (.type "ValueError") = some (subx c "ValueError")
/-- a def that is called while an error is handled: p is that error's object -/
structure FnX (P : Program) (w : World) (K : PySem.W.Frag) (mg : Str → Option Value) (base : Heap) (k : Nat) (f : Addr) (fd : FuncData) (ps : List Str) (sp : Sp) (p : Addr × Obj) : Prop where
  size : ∀ xs G Q E, sp xs G Q E → xs.length = ps.length
  go : ∀ (A : Around) (out : List PySem.Env) (s : Shared) (G : Hp) (ar : Args) (us : List Value) (xs : List V) (Q : VK) (E : XK), L2H.RoomH k A → L2H.PinOk out G s p → Env0 P w K mg base A out s G → BindsTo s fd ar (ps.zip us) → Vals xs us → sp xs G Q E →
    codeAny (model P w) A (.call (.ref f) ar) (CR (L2.CX P w) out P w G s Q E) s
structure FnIsX (C : Wd) (F : Fn) (X : Cx) (k : Nat) (f : String) (p : Addr × Obj) : Prop where
  ex : ∃ (a : Addr) (fd : FuncData) (ps : List Str), X.mg (S f) = some (.ref a) ∧ PySem.W.keepIn X.K (.ref a) = true ∧ Binds X.K fd ps [] ∧ FnX X.prog X.w X.K X.mg X.base k a fd ps (spF C F f ps.length) p ∧ ∀ ds m, F f ds m ≠ .bad → ds.length = ps.length
def KeepF (hf : List String) (F : Fn) : Prop := ∀ f, hf.contains f = true → ∀ ds m d m', F f ds m = .ok d m' → m' = m
/-- the world in which an error is held -/
abbrev Wd.held (C : Wd) (a : Addr) (k : String) : Wd := { C with ex := some (a, k) }
structure Glb (T : Tb) (hot : Bool) (C : Wd) (F : Fn) (X : Cx) : Prop where
  K : X.K = C.K
  mg : X.mg = C.mg
  calm : hot = false → X.calm = true
  units : X.A.units + 65 < cLine
  blt : ∀ x ∈ bltNames, X.mg (S x) = none
  con : ∀ p ∈ T.con, ∃ u v, X.mg (S p.1) = some u ∧ RelV v u ∧ ∀ G io, Rep C G io p.2 v
  cls : ∀ k A, C.isC k A → Cls X.K A ∧ ∀ f ∈ T.flds, NoAttr X.K A (S f)
  sup : "super" ∉ T.fns ∧ "super" ∉ T.cls ∧ "super" ∉ T.hfns
  excs : ∀ c ∈ T.excs, ∃ A, ExcIs T X c A
  fns : hot = false → ∃ k, Room k X.A ∧ (∀ f ∈ T.fns, FnIs C F X k f (S f)) ∧ (∀ c A, C.isC c A → ∀ q ∈ T.mets, c ∈ q.2 → MetIs C F X k c A q.1) ∧ (∀ c ∈ T.cls, ∃ A, X.mg (S c) = some (.ref A) ∧ PySem.W.keepIn X.K (.ref A) = true ∧ ((∀ ds mm, F c ds mm = .bad) ∨ ∃ j, j + 1 ≤ k ∧ NewIs C F X j c))
  ex : ∀ a c, C.ex = some (a, c) → hot = true ∧ c ∈ T.excs ∧ ∃ oe A, (a, oe) ∈ X.pn ∧ Zc (.ref A) none oe ∧ (∃ vs, oe.data = .fields vs) ∧ X.mg (S c) = some (.ref A)
  keep : KeepF T.hfns F
  hots : hot = false → ∃ k, L2H.RoomH k X.A ∧ ∀ (a : Addr) (e : String) (oe : Obj) (A : Addr), e ∈ T.excs → X.mg (S e) = some (.ref A) → Zc (.ref A) none oe → (∃ vs, oe.data = .fields vs) → ∀ f ∈ T.hfns, FnIsX (C.held a e) F X k f (a, oe)
  hfns : hot = true → (∃ a c, C.ex = some (a, c)) ∧ ∃ p k, p ∈ X.pn ∧ L2H.RoomH k X.A ∧ ∀ f ∈ T.hfns, FnIsX C F X k f p
structure CcX (c : Cc) (C : Wd) (F : Fn) (X : Cx) : Prop where
  N : X.N = c.N
  sc : X.env.scope = c.sc
  nd : c.N.Nodup
  oc : ∀ x, x ∈ c.oc → X.fn x = true
  glb : Glb c.T c.hot C F X

section
variable {C : Wd} {F : Fn} {X : Cx} {c : Cc}
theorem CcX.gl (h : CcX c C F X) {x : Str} (g : isGl c x = true) : Gl X x ∧ (x == ("__debug__" : Str)) = false ∧ x ≠ ("__name__" : Str) := by
  unfold isGl at g
  split at g
  · rename_i e
    unfold okName at g
    simp only [Bool.and_eq_true, Bool.not_eq_true', decide_eq_false_iff_not] at g
    refine ⟨?_, g.1.1, g.2⟩
    show X.env.scope.names.lookup x = _
    rw [h.sc]
    exact e
  · cases g
theorem CcX.vis (h : CcX c C F X) {x : Str} {i : Nat} (e : slotOf c x = some i) : X.N[i]? = some x ∧ Vis X.env.scope x := by
  have find : ∀ {i}, c.N.findIdx? (· == x) = some i → X.N[i]? = some x := fun {i} e => by
    rw [h.N]
    obtain ⟨hl, hp, _⟩ := List.findIdx?_eq_some_iff_getElem.mp e
    rw [List.getElem?_eq_getElem hl, eq_of_beq hp]
  unfold slotOf kindS at e
  unfold Vis
  rw [h.sc]
  split at e
  · rename_i k; exact ⟨find e, .inl k⟩
  · rename_i k; exact ⟨find e, .inr (.inl k)⟩
  · rename_i k; exact ⟨find e, .inr (.inr k)⟩
  · cases e
theorem CcX.loc (h : CcX c C F X) {x : Str} {i : Nat} (e : slotTo c x = some i) : X.N[i]? = some x ∧ L2.Loc X.env.scope x ∧ (X.fn x = true ∨ X.env.scope.names.lookup x = some .local) := by
  have find : ∀ {i}, c.N.findIdx? (· == x) = some i → X.N[i]? = some x := fun {i} e => by
    rw [h.N]
    obtain ⟨hl, hp, _⟩ := List.findIdx?_eq_some_iff_getElem.mp e
    rw [List.getElem?_eq_getElem hl, eq_of_beq hp]
  unfold slotTo kindS at e
  unfold L2.Loc
  rw [h.sc]
  split at e
  · rename_i k; exact ⟨find e, .inl k, .inr k⟩
  · rename_i k
    split at e
    · rename_i hc
      exact ⟨find e, .inr k, .inl (h.oc x (List.contains_iff_mem.mp hc))⟩
    · cases e
  · cases e

/-! ### names, constants -/
theorem he_const {k : Const} {d : D} {j pos} (h : cConst k = some d) : HE C F X (.Constant k j pos) (.c d) := fun r W tk => by
  have fin : ∀ v : V, (∀ G io, Rep C G io d v) → ∀ σ H Q, tRun C W r (fun _ => rRep C) (ev F (.c d) r) σ H Q → tC v σ H Q := fun v hv σ H Q ⟨G, io, m, w, sr, p⟩ => by
    rw [ev] at p
    exact p.here w (hv G io)
  cases k <;> simp only [cConst, reduceCtorEq, Option.some.injEq] at h <;> subst h
  · exact pe_mono pe_non (fin _ fun _ _ => rfl)
  · exact pe_mono pe_bl (fin _ fun _ _ => rfl)
  · exact pe_mono pe_int (fin _ fun _ _ => rfl)
  · exact pe_mono pe_str (fin _ fun _ _ => rfl)
theorem he_none : PO X none (fun σ H Q => Q none H) := po_none
theorem he_name (h : CcX c C F X) {x : Str} {pos : Pos} {e : E} (hc : cName c x = some e) : HE C F X (.Name x pos) e ∧ HO_ C F X (.Name x pos) (bor c e) := by
  unfold cName at hc
  cases hs : slotOf c x with
  | some i =>
    rw [hs] at hc
    simp only at hc
    split at hc
    · rename_i ok
      simp only [Option.some.injEq] at hc
      subst hc
      obtain ⟨hN, hv⟩ := h.vis hs
      unfold okName at ok
      simp only [Bool.and_eq_true, Bool.not_eq_true'] at ok
      have pv := pe_var (pos := pos) hN hv ok.1.1 ok.1.2
      have h1 : HE C F X (.Name x pos) (.v i) := fun r W tk => pe_mono pv fun σ H Q ⟨G, io, m, w, sr, p⟩ => by
        rw [ev] at p
        have q := sr.at_ i
        cases e : slot r i with
        | no => rw [e] at p; exact p.elim
        | own d => rw [e] at p; exact p.elim
        | val d =>
          rw [e] at p q
          obtain ⟨v, e1, e2⟩ := q
          exact ⟨v, e1, p.here w e2⟩
      refine ⟨h1, ?_⟩
      by_cases hmu : c.mu.contains i = true
      · have eb : bor c (.v i) = .b i := if_pos hmu
        rw [eb]
        exact fun r W tk => pe_mono pv fun σ H Q ⟨G, io, m, w, sr, p⟩ => by
          rw [ev] at p
          have q := sr.at_ i
          cases e : slot r i with
          | no => rw [e] at p; exact p.elim
          | own d =>
            rw [e] at p q
            obtain ⟨a, u, e1, hr, ob, hi, hg, hn⟩ := q
            exact ⟨.ref a, e1, p.here w (.inr ⟨a, u, rfl, hn, hr, ob, hi⟩)⟩
          | val d =>
            rw [e] at p q
            obtain ⟨v, e1, e2⟩ := q
            exact ⟨v, e1, p.here w (.inl e2)⟩
      · have eb : bor c (.v i) = .v i := if_neg hmu
        rw [eb]
        exact h1.ho
    · cases hc
  | none =>
    rw [hs] at hc
    simp only at hc
    split at hc
    · rename_i g
      obtain ⟨g1, g2, g3⟩ := h.gl g
      cases hf : c.T.con.find? (fun p => decide (S p.1 = x)) with
      | none => rw [hf] at hc; cases hc
      | some q =>
        rw [hf] at hc
        simp only [Option.some.injEq] at hc
        subst hc
        obtain ⟨u, v, e1, e2, e3⟩ := h.glb.con q (List.mem_of_find?_eq_some hf)
        have ex : S q.1 = x := by simpa using List.find?_some hf
        rw [ex] at e1
        have h1 : HE C F X (.Name x pos) (.c q.2) := fun r W tk => pe_mono (pe_glob g1 e1 e2 g2) fun σ H Q ⟨G, io, m, w, sr, p⟩ => by
          rw [ev] at p
          exact p.here w (e3 G io)
        exact ⟨h1, h1.ho⟩
    · cases hc

/-! ### operators -/
theorem hn_bin (hK : X.K = C.K) {a b : Expr} {x y : E} {op : Operator} {o : Bo} {pos : Pos} (hop : bo op = some o) (ha : HO_ C F X a x) (hb : HO_ C F X b y) : HN C F X (.BinOp a op b pos) (.bin o x y) := fun r W tk =>
  pe_mono (pe_op (op_binD hop hK) (ha r W tk) (hb r W tk)) fun σ H Q ⟨G, io, m, w, sr, p⟩ => by
    rw [ev] at p
    refine ⟨G, io, m, w, sr, (p.seq Mo.repN sr).mono ?_⟩
    rintro v1 H1 ⟨G1, io1, m1, da, s1, w1, sr1, ra, e1, p1⟩
    refine ⟨G1, io1, m1, w1, sr1, (p1.seq Mo.repN sr1).mono ?_⟩
    rintro v2 H2 ⟨G2, io2, m2, db, s2, w2, sr2, rb, e2, p2⟩
    exact ⟨G2, io2, m2, _, _, w2, (ra.step s2).look w2, rb.look w2, p2.up'⟩
theorem hn_cmp (hK : X.K = C.K) (hu : X.A.units + 65 < cLine) {a b : Expr} {x y : E} {op : CmpOp} {o : Co} {pos : Pos} (hop : co op = some o) (hm : behindInMarks op b = false) (ha : HO_ C F X a x) (hb : HO_ C F X b y) :
    HN C F X (.Compare a [op] [b] pos) (.cmp o x y) ∧ HT C F X (.Compare a [op] [b] pos) (.cmp o x y) := by
  have key : ∀ (r : Env) (W : WX) σ H Q, tRun C W r (RepN C) (ev F (.cmp o x y) r) σ H Q → tOp (rOp2 C (cmpD o)) (tRun C W r (fun _ => rRepO C) (ev F x r)) (tRun C W r (fun _ => rRepO C) (ev F y r)) σ H Q := fun r W σ H Q ⟨G, io, m, w, sr, p⟩ => by
    rw [ev] at p
    refine ⟨G, io, m, w, sr, (p.seq Mo.repN sr).mono ?_⟩
    rintro v1 H1 ⟨G1, io1, m1, da, s1, w1, sr1, ra, e1, p1⟩
    refine ⟨G1, io1, m1, w1, sr1, (p1.seq Mo.repN sr1).mono ?_⟩
    rintro v2 H2 ⟨G2, io2, m2, db, s2, w2, sr2, rb, e2, p2⟩
    exact ⟨G2, io2, m2, _, _, w2, (ra.step s2).look w2, rb.look w2, p2.up'⟩
  refine ⟨fun r W tk => pe_mono (pe_cmpR (op_cmpD hop hK hu) (ha r W tk) (hb r W tk) hm) (key r W), fun r W tk => pt_mono (pt_cmpR (op_cmpD hop hK hu) (ha r W tk) (hb r W tk) hm) fun σ H Q ⟨G, io, m, w, sr, p⟩ => ?_⟩
  refine key r W σ H _ ⟨G, io, m, w, sr, ?_⟩
  refine (p.seq (R := RepN C H) Mo.const sr).mono ?_
  rintro v1 H1 ⟨G1, io1, m1, d, s1, w1, sr1, rd, e1, p1⟩
  cases d with
  | bl k =>
    obtain rfl : v1 = .bl k := rd
    exact ⟨k, rfl, p1.here w1 rfl⟩
  | _ => exact p1.elim
/-- a bool, as a test -/
theorem HE.ht {e : Expr} {x : E} (h : HE C F X e x) (he : ∀ whole, isTrue e X.env whole = (do let v ← whole; standAt e.pos; holding [v] (truthy v))) : HT C F X e x := fun r W tk =>
  pt_mono (pt_val (h r W tk) he) fun σ H Q ⟨G, io, m, w, sr, p⟩ => by
    refine ⟨G, io, m, w, sr, (p.seq Mo.const sr).mono ?_⟩
    rintro v1 H1 ⟨G1, io1, m1, d, s1, w1, sr1, rd, e1, p1⟩
    cases d with
    | bl k =>
      obtain rfl : v1 = .bl k := rd
      exact ⟨k, rfl, p1.here w1 rfl⟩
    | _ => exact p1.elim
theorem he_neg {a : Expr} {x : E} {pos : Pos} (ha : HE C F X a x) : HE C F X (.UnaryOp .USub a pos) (.neg x) := fun r W tk =>
  pe_mono (pe_un un_neg (ha r W tk)) fun σ H Q ⟨G, io, m, w, sr, p⟩ => by
    rw [ev] at p
    refine ⟨G, io, m, w, sr, (p.seq Mo.const sr).mono ?_⟩
    rintro v1 H1 ⟨G1, io1, m1, d, s1, w1, sr1, rd, e1, p1⟩
    cases d with
    | int i =>
      obtain rfl : v1 = .int i := rd
      exact ⟨i, rfl, p1.here w1 rfl⟩
    | _ => exact p1.elim
theorem he_not {a : Expr} {x : E} {pos : Pos} (ha : HE C F X a x) : HE C F X (.UnaryOp .Not a pos) (.not x) := fun r W tk =>
  pe_mono (pe_not (ha r W tk)) fun σ H Q ⟨G, io, m, w, sr, p⟩ => by
    rw [ev] at p
    refine ⟨G, io, m, w, sr, (p.seq Mo.const sr).mono ?_⟩
    rintro v1 H1 ⟨G1, io1, m1, d, s1, w1, sr1, rd, e1, p1⟩
    cases d with
    | bl k =>
      obtain rfl : v1 = .bl k := rd
      exact ⟨k, rfl, p1.here w1 rfl⟩
    | _ => exact p1.elim
theorem ht_not {a : Expr} {x : E} {pos : Pos} (ha : HT C F X a x) : HT C F X (.UnaryOp .Not a pos) (.not x) := fun r W tk =>
  pt_mono (pt_not (ha r W tk)) fun σ H Q ⟨G, io, m, w, sr, p⟩ => by
    have p' : Post C W σ H G io rB (((ev F x r m).bind fun d m => tstD d m).bind fun b m => .ok (!b) m) Q := by
      change Post C W σ H G io rB ((ev F (.not x) r m).bind fun d m => tstD d m) Q at p
      rw [ev] at p
      cases e : ev F x r m with
      | bad => rw [e] at p; exact p
      | exc c m1 => rw [e] at p; exact p
      | ok d m1 =>
        rw [e] at p
        cases d <;> exact p
    refine ⟨G, io, m, w, sr, (p'.seq (R' := fun _ => rB) Mo.const sr).mono ?_⟩
    rintro v1 H1 ⟨G1, io1, m1, d, s1, w1, sr1, rd, e1, p1⟩
    obtain rfl : d = v1 := rd
    exact p1.here w1 rfl
/-- a test that is told first -/
theorem ht_first {k : Bool → Mu → Res D} {f : Mu → Res D} {m : Mu} : ((f m).bind fun d m => (tstD d m).bind k) = ((f m).bind fun d m => tstD d m).bind k := by
  cases f m with
  | bad => rfl
  | exc c m1 => rfl
  | ok d m1 => rfl
theorem he_ife {t a b : Expr} {z x y : E} {pos : Pos} (ht : HT C F X t z) (ha : HE C F X a x) (hb : HE C F X b y) : HE C F X (.IfExp t a b pos) (.ife z x y) := fun r W tk =>
  pe_mono (pe_ifExp (ht r W tk) (ha r W tk) (hb r W tk)) fun σ H Q ⟨G, io, m, w, sr, p⟩ => by
    rw [ev, ht_first (f := ev F z r)] at p
    refine ⟨G, io, m, w, sr, (p.seq Mo.const sr).mono ?_⟩
    rintro v1 H1 ⟨G1, io1, m1, d, s1, w1, sr1, rd, e1, p1⟩
    obtain rfl : d = v1 := rd
    cases d with
    | true => exact ⟨G1, io1, m1, w1, sr1, p1⟩
    | false => exact ⟨G1, io1, m1, w1, sr1, p1⟩
/-- and, or: as values, as tests -/
theorem he_and {a b : Expr} {rest : List Expr} {x y : E} {pos : Pos} (ha : HE C F X a x) (hb : HE C F X (.BoolOp .And (b :: rest) pos) y) : HE C F X (.BoolOp .And (a :: b :: rest) pos) (.and x y) := fun r W tk =>
  pe_mono (pe_and (ha r W tk) (hb r W tk)) fun σ H Q ⟨G, io, m, w, sr, p⟩ => by
    rw [ev] at p
    refine ⟨G, io, m, w, sr, (p.seq Mo.const sr).mono ?_⟩
    rintro v1 H1 ⟨G1, io1, m1, d, s1, w1, sr1, rd, e1, p1⟩
    cases d with
    | bl k =>
      obtain rfl : v1 = .bl k := rd
      refine ⟨k, rfl, ?_⟩
      cases k with
      | true => exact ⟨G1, io1, m1, w1, sr1, p1⟩
      | false => exact p1.here w1 rfl
    | _ => exact p1.elim
theorem he_or {a b : Expr} {rest : List Expr} {x y : E} {pos : Pos} (ha : HE C F X a x) (hb : HE C F X (.BoolOp .Or (b :: rest) pos) y) : HE C F X (.BoolOp .Or (a :: b :: rest) pos) (.or x y) := fun r W tk =>
  pe_mono (pe_or (ha r W tk) (hb r W tk)) fun σ H Q ⟨G, io, m, w, sr, p⟩ => by
    rw [ev] at p
    refine ⟨G, io, m, w, sr, (p.seq Mo.const sr).mono ?_⟩
    rintro v1 H1 ⟨G1, io1, m1, d, s1, w1, sr1, rd, e1, p1⟩
    cases d with
    | bl k =>
      obtain rfl : v1 = .bl k := rd
      refine ⟨k, rfl, ?_⟩
      cases k with
      | false => exact ⟨G1, io1, m1, w1, sr1, p1⟩
      | true => exact p1.here w1 rfl
    | _ => exact p1.elim
def HW (C : Wd) (F : Fn) (X : Cx) (e : Expr) (c : E) : Prop := ∀ (r : Env) (W : WX), Takes X W → PW X e (tRun C W r (fun _ => rB) fun m => (ev F c r m).bind fun d m => tstD d m)
theorem pw_mono {X : Cx} {e : Expr} {t t' : TT} (h : PW X e t) (hm : ∀ σ H Q, t' σ H Q → t σ H Q) : PW X e t' := ⟨fun wh pins s σ H Q I q => h.run wh pins s σ H Q I (hm σ H Q q)⟩
theorem hw_and {a b : Expr} {rest : List Expr} {x y : E} {pos : Pos} (ha : HT C F X a x) (hb : HW C F X (.BoolOp .And (b :: rest) pos) y) : HW C F X (.BoolOp .And (a :: b :: rest) pos) (.and x y) := fun r W tk =>
  pw_mono (pw_and (ha r W tk) (hb r W tk)) fun σ H Q ⟨G, io, m, w, sr, p⟩ => by
    have p' : Post C W σ H G io rB (((ev F x r m).bind fun d m => tstD d m).bind fun b m => (if b = true then ev F y r m else .ok (.bl false) m).bind fun d m => tstD d m) Q := by
      change Post C W σ H G io rB ((ev F (.and x y) r m).bind fun d m => tstD d m) Q at p
      rw [ev] at p
      cases e : ev F x r m with
      | bad => rw [e] at p; exact p
      | exc c m1 => rw [e] at p; exact p
      | ok d m1 =>
        rw [e] at p
        cases d <;> exact p
    refine ⟨G, io, m, w, sr, (p'.seq (R' := fun _ => rB) Mo.const sr).mono ?_⟩
    rintro v1 H1 ⟨G1, io1, m1, d, s1, w1, sr1, rd, e1, p1⟩
    obtain rfl : d = v1 := rd
    cases d with
    | true => exact ⟨G1, io1, m1, w1, sr1, p1⟩
    | false => exact p1.here w1 rfl
theorem hw_or {a b : Expr} {rest : List Expr} {x y : E} {pos : Pos} (ha : HT C F X a x) (hb : HW C F X (.BoolOp .Or (b :: rest) pos) y) : HW C F X (.BoolOp .Or (a :: b :: rest) pos) (.or x y) := fun r W tk =>
  pw_mono (pw_or (ha r W tk) (hb r W tk)) fun σ H Q ⟨G, io, m, w, sr, p⟩ => by
    have p' : Post C W σ H G io rB (((ev F x r m).bind fun d m => tstD d m).bind fun b m => (if b = true then .ok (.bl true) m else ev F y r m).bind fun d m => tstD d m) Q := by
      change Post C W σ H G io rB ((ev F (.or x y) r m).bind fun d m => tstD d m) Q at p
      rw [ev] at p
      cases e : ev F x r m with
      | bad => rw [e] at p; exact p
      | exc c m1 => rw [e] at p; exact p
      | ok d m1 =>
        rw [e] at p
        cases d <;> exact p
    refine ⟨G, io, m, w, sr, (p'.seq (R' := fun _ => rB) Mo.const sr).mono ?_⟩
    rintro v1 H1 ⟨G1, io1, m1, d, s1, w1, sr1, rd, e1, p1⟩
    obtain rfl : d = v1 := rd
    cases d with
    | false => exact ⟨G1, io1, m1, w1, sr1, p1⟩
    | true => exact p1.here w1 rfl
/-- a op b op c -/
theorem he_ch2 (hK : X.K = C.K) (hu : X.A.units + 65 < cLine) {a b d : Expr} {x y z : E} {op op' : CmpOp} {o o' : Co} {pos : Pos} (hop : co op = some o) (hop' : co op' = some o') (hm : lastMarks [op, op'] [b, d] = false) (ha : HE C F X a x) (hb : HE C F X b y) (hd : HE C F X d z) :
    HN C F X (.Compare a [op, op'] [b, d] pos) (.ch2 o o' x y z) ∧ HT C F X (.Compare a [op, op'] [b, d] pos) (.ch2 o o' x y z) := by
  have key : ∀ (r : Env) (W : WX) σ H Q, tRun C W r (RepN C) (ev F (.ch2 o o' x y z) r) σ H Q →
      tChain (rOp2 C (cmpD o)) (rOp2 C (cmpD o')) (tRun C W r (fun _ => rRep C) (ev F x r)) (tRun C W r (fun _ => rRep C) (ev F y r)) (tRun C W r (fun _ => rRep C) (ev F z r)) σ H Q := fun r W σ H Q ⟨G, io, m, w, sr, p⟩ => by
    rw [ev] at p
    refine ⟨G, io, m, w, sr, (p.seq Mo.repN sr).mono ?_⟩
    rintro v1 H1 ⟨G1, io1, m1, da, s1, w1, sr1, ra, e1, p1⟩
    refine ⟨G1, io1, m1, w1, sr1, (p1.seq Mo.repN sr1).mono ?_⟩
    rintro v2 H2 ⟨G2, io2, m2, db, s2, w2, sr2, rb, e2, p2⟩
    refine ⟨G2, io2, m2, _, _, w2, (RepO.of (ra.step s2)).look w2, (RepO.of rb).look w2, ((p2.seq (R := RepN C H2) Mo.repN sr2).mono ?_).up'⟩
    rintro v3 H3 ⟨G3, io3, m3, dc, s3, w3, sr3, rc, e3, p3⟩
    cases dc with
    | bl k =>
      obtain rfl : v3 = .bl k := rc
      refine ⟨k, rfl, ?_⟩
      cases k with
      | false => exact p3.here w3 rfl
      | true =>
        refine ⟨G3, io3, m3, w3, sr3, ((show Post C W σ H3 G3 io3 (RepN C H3) ((ev F z r m3).bind fun c m => up (cmpD o' (look m db) (look m c)) m) Q from p3).seq Mo.repN sr3).mono ?_⟩
        rintro v4 H4 ⟨G4, io4, m4, de, s4, w4, sr4, re, e4, p4⟩
        exact ⟨G4, io4, m4, _, _, w4, (RepO.of ((rb.step s3).step s4)).look w4, (RepO.of re).look w4, p4.up'⟩
    | _ => exact p3.elim
  refine ⟨fun r W tk => pe_mono (pe_chain (op_cmpD hop hK hu) (op_cmpD hop' hK hu) (ha r W tk) (hb r W tk) (hd r W tk) hm) (key r W), fun r W tk => pt_mono (pt_chain (op_cmpD hop hK hu) (op_cmpD hop' hK hu) (ha r W tk) (hb r W tk) (hd r W tk) hm) fun σ H Q ⟨G, io, m, w, sr, p⟩ => ?_⟩
  refine key r W σ H _ ⟨G, io, m, w, sr, ?_⟩
  refine (p.seq (R := RepN C H) Mo.const sr).mono ?_
  rintro v1 H1 ⟨G1, io1, m1, d, s1, w1, sr1, rd, e1, p1⟩
  cases d with
  | bl k =>
    obtain rfl : v1 = .bl k := rd
    exact ⟨k, rfl, p1.here w1 rfl⟩
  | _ => exact p1.elim
end
end Wh
/-! a op b op c op d; t[::-1] of a tuple -/
namespace Wh
open PySem PySem.Spec PyProof.Rows L2
section
variable {X : Cx} {a b c d : Expr} {ta tb tc td : TE} {pos : Pos}
def tChain3 (r r' r3 : R2) (ta tb tc td : TE) : TE := fun σ H Q => ta σ H fun x H1 => tb σ H1 fun y H2 => r x y H2 fun z H3 => ∃ k, z = .bl k ∧
  (if k = true then tc σ H3 fun u H4 => r' y u H4 fun z2 H5 => ∃ k2, z2 = .bl k2 ∧ (if k2 = true then td σ H5 fun w H6 => r3 u w H6 Q else Q (.bl false) H5) else Q (.bl false) H3)
theorem pe_chain3 {op op' op3 : CmpOp} {r r' r3 : R2} (ho : OpR X (compareOp op) r) (ho' : OpR X (compareOp op') r') (ho3 : OpR X (compareOp op3) r3) (ha : PE X a ta) (hb : PE X b tb) (hc : PE X c tc) (hd : PE X d td)
    (hm : lastMarks [op, op', op3] [b, c, d] = false) : PE X (.Compare a [op, op', op3] [b, c, d] pos) (tChain3 r r' r3 ta tb tc td) := by
  refine ⟨fun pins s σ H Q I h => ?_⟩
  refine Compare_chain (thn (ha.run pins s σ H _ I h) fun v s1 ⟨x, H1, I1, r1, q1⟩ => chain_link (thn (hb.run pins s1 σ H1 _ I1 q1) fun u s2 ⟨y, H2, I2, r2, q2⟩ =>
    thn (ho pins s2 σ H2 x y v u _ I2 r1 r2 q2) fun d s3 ⟨z, H3, I3, r3, k, e, q3⟩ => ?_)) hm
  subst e
  cases r3
  refine wpAny_truthy_bool ?_
  cases k with
  | false => exact ite_ff ⟨.bl false, H3, I3, rfl, q3⟩
  | true =>
    refine ite_tt (chain_link (thn (hc.run pins s3 σ H3 _ I3 q3) fun u' s4 ⟨y', H4, I4, r4, q4⟩ => thn (ho' pins s4 σ H4 y y' u u' _ I4 r2 r4 q4) fun d' s5 ⟨z', H5, I5, r5, k2, e2, q5⟩ => ?_))
    subst e2
    cases r5
    refine wpAny_truthy_bool ?_
    cases k2 with
    | false => exact ite_ff ⟨.bl false, H5, I5, rfl, q5⟩
    | true => exact ite_tt (chain_last (thn (hd.run pins s5 σ H5 _ I5 q5) fun w' s6 ⟨z6, H6, I6, r6, q6⟩ => ho3 pins s6 σ H6 y' z6 u' w' Q I6 r4 r6 q6))
theorem pt_chain3 {op op' op3 : CmpOp} {r r' r3 : R2} (ho : OpR X (compareOp op) r) (ho' : OpR X (compareOp op') r') (ho3 : OpR X (compareOp op3) r3) (ha : PE X a ta) (hb : PE X b tb) (hc : PE X c tc) (hd : PE X d td)
    (hm : lastMarks [op, op', op3] [b, c, d] = false) : PT X (.Compare a [op, op', op3] [b, c, d] pos) (tTest (tChain3 r r' r3 ta tb tc td)) := by
  refine ⟨fun pins s σ H Q I h => ?_⟩
  refine isTrue_chain (thn (ha.run pins s σ H _ I h) fun v s1 ⟨x, H1, I1, r1, q1⟩ => test_link (thn (hb.run pins s1 σ H1 _ I1 q1) fun u s2 ⟨y, H2, I2, r2, q2⟩ =>
    thn (ho pins s2 σ H2 x y v u _ I2 r1 r2 q2) fun d s3 ⟨z, H3, I3, r3, k, e, q3⟩ => ?_)) hm
  subst e
  cases r3
  refine wpAny_truthy_bool ?_
  cases k with
  | false =>
    obtain ⟨k', e', q'⟩ := q3
    cases e'
    exact ite_ff ⟨H3, I3, q'⟩
  | true =>
    refine ite_tt (test_link (thn (hc.run pins s3 σ H3 _ I3 q3) fun u' s4 ⟨y', H4, I4, r4, q4⟩ => thn (ho' pins s4 σ H4 y y' u u' _ I4 r2 r4 q4) fun d' s5 ⟨z', H5, I5, r5, k2, e2, q5⟩ => ?_))
    subst e2
    cases r5
    refine wpAny_truthy_bool ?_
    cases k2 with
    | false =>
      obtain ⟨k', e', q'⟩ := q5
      cases e'
      exact ite_ff ⟨H5, I5, q'⟩
    | true =>
      refine ite_tt (test_last (thn (hd.run pins s5 σ H5 _ I5 q5) fun w' s6 ⟨z6, H6, I6, r6, q6⟩ => thn (ho3 pins s6 σ H6 y' z6 u' w' _ I6 r4 r6 q6) fun d' s7 ⟨z2, H7, I7, r7, k3, e3, q7⟩ => ?_))
      subst e3
      cases r7
      exact wpAny_truthy_bool ⟨H7, I7, q7⟩
end
theorem bind_as {α β γ : Type} (f : Res α) (g : α → Mu → Res β) (h : β → Mu → Res γ) : (f.bind g).bind h = f.bind fun a m => (g a m).bind h := by
  cases f <;> rfl
theorem ev_ch3 {F : Fn} {o o' o3 : Co} {x y z : E} {i : Nat} {r : Env} {m : Mu} : ev F (.and (.ch2 o o' x y (.v i)) (.cmp o3 (.v i) z)) r m = (ev F x r m).bind fun a m => (ev F y r m).bind fun b m => (up (cmpD o (look m a) (look m b)) m).bind fun q m => (tstD q m).bind fun k m =>
    if k = true then (ev F (.v i) r m).bind fun c m => (up (cmpD o' (look m b) (look m c)) m).bind fun q2 m => (tstD q2 m).bind fun k2 m => if k2 = true then (ev F z r m).bind fun d m => up (cmpD o3 (look m c) (look m d)) m else .ok (.bl false) m
    else .ok (.bl false) m := by
  rw [ev, ev]
  simp only [bind_as]
  cases ev F x r m with
  | bad => rfl
  | exc c m => rfl
  | ok a m =>
    show (ev F y r m).bind _ = (ev F y r m).bind _
    cases ev F y r m with
    | bad => rfl
    | exc c m => rfl
    | ok b m =>
      show (up (cmpD o (look m a) (look m b)) m).bind _ = (up (cmpD o (look m a) (look m b)) m).bind _
      cases cmpD o (look m a) (look m b) with
      | none => rfl
      | some q =>
        cases q <;> first | rfl | skip
        rename_i k
        cases k with
        | false => rfl
        | true =>
          show ((ev F (.v i) r m).bind fun c m => up (cmpD o' (look m b) (look m c)) m).bind _ = (ev F (.v i) r m).bind _
          have ec : ev F (.cmp o3 (.v i) z) r = fun m => (ev F (.v i) r m).bind fun a m => (ev F z r m).bind fun b m => up (cmpD o3 (look m a) (look m b)) m := by funext m; conv => lhs; rw [ev]
          rw [ec, bind_as]
          cases es : slot r i with
          | no => have e0 : ∀ m, ev F (.v i) r m = .bad := fun m => by rw [ev, es]
                  rw [e0]; rfl
          | own d => have e0 : ∀ m, ev F (.v i) r m = .bad := fun m => by rw [ev, es]
                     rw [e0]; rfl
          | val d =>
            have e0 : ∀ m, ev F (.v i) r m = .ok d m := fun m => by rw [ev, es]
            rw [e0]
            show (up (cmpD o' (look m b) (look m d)) m).bind _ = (up (cmpD o' (look m b) (look m d)) m).bind _
            cases cmpD o' (look m b) (look m d) with
            | none => rfl
            | some q2 =>
              cases q2 <;> first | rfl | skip
              rename_i k2
              cases k2 with
              | false => rfl
              | true =>
                show ((ev F (.v i) r m).bind _) = (ev F z r m).bind _
                rw [e0]
                rfl
section
variable {C : Wd} {F : Fn} {X : Cx}
theorem he_ch3 (hK : X.K = C.K) (hu : X.A.units + 65 < cLine) {a b d f : Expr} {x y z : E} {i : Nat} {op op' op3 : CmpOp} {o o' o3 : Co} {pos : Pos} (hop : co op = some o) (hop' : co op' = some o') (hop3 : co op3 = some o3) (hm : lastMarks [op, op', op3] [b, d, f] = false) (ha : HE C F X a x) (hb : HE C F X b y) (hd : HE C F X d (.v i)) (hf : HE C F X f z) :
    HN C F X (.Compare a [op, op', op3] [b, d, f] pos) (.and (.ch2 o o' x y (.v i)) (.cmp o3 (.v i) z)) ∧ HT C F X (.Compare a [op, op', op3] [b, d, f] pos) (.and (.ch2 o o' x y (.v i)) (.cmp o3 (.v i) z)) := by
  have key : ∀ (r : Env) (W : WX) σ H Q, tRun C W r (RepN C) (ev F (.and (.ch2 o o' x y (.v i)) (.cmp o3 (.v i) z)) r) σ H Q →
      tChain3 (rOp2 C (cmpD o)) (rOp2 C (cmpD o')) (rOp2 C (cmpD o3)) (tRun C W r (fun _ => rRep C) (ev F x r)) (tRun C W r (fun _ => rRep C) (ev F y r)) (tRun C W r (fun _ => rRep C) (ev F (.v i) r)) (tRun C W r (fun _ => rRep C) (ev F z r)) σ H Q := fun r W σ H Q ⟨G, io, m, w, sr, p⟩ => by
    rw [ev_ch3] at p
    refine ⟨G, io, m, w, sr, (p.seq Mo.repN sr).mono ?_⟩
    rintro v1 H1 ⟨G1, io1, m1, da, s1, w1, sr1, ra, e1, p1⟩
    refine ⟨G1, io1, m1, w1, sr1, (p1.seq Mo.repN sr1).mono ?_⟩
    rintro v2 H2 ⟨G2, io2, m2, db, s2, w2, sr2, rb, e2, p2⟩
    refine ⟨G2, io2, m2, _, _, w2, (RepO.of (ra.step s2)).look w2, (RepO.of rb).look w2, ((p2.seq (R := RepN C H2) Mo.repN sr2).mono ?_).up'⟩
    rintro v3 H3 ⟨G3, io3, m3, dc, s3, w3, sr3, rc, e3, p3⟩
    cases dc with
    | bl k =>
      obtain rfl : v3 = .bl k := rc
      refine ⟨k, rfl, ?_⟩
      cases k with
      | false => exact p3.here w3 rfl
      | true =>
        refine ⟨G3, io3, m3, w3, sr3, ((show Post C W σ H3 G3 io3 (RepN C H3) ((ev F (.v i) r m3).bind fun c m => (up (cmpD o' (look m db) (look m c)) m).bind fun q2 m => (tstD q2 m).bind fun k2 m => if k2 = true then (ev F z r m).bind fun d m => up (cmpD o3 (look m c) (look m d)) m else .ok (.bl false) m) Q from p3).seq Mo.repN sr3).mono ?_⟩
        rintro v4 H4 ⟨G4, io4, m4, de, s4, w4, sr4, re, e4, p4⟩
        refine ⟨G4, io4, m4, _, _, w4, (RepO.of ((rb.step s3).step s4)).look w4, (RepO.of re).look w4, ((p4.seq (R := RepN C H4) Mo.repN sr4).mono ?_).up'⟩
        rintro v5 H5 ⟨G5, io5, m5, df, s5, w5, sr5, rf, e5, p5⟩
        cases df with
        | bl k2 =>
          obtain rfl : v5 = .bl k2 := rf
          refine ⟨k2, rfl, ?_⟩
          cases k2 with
          | false => exact p5.here w5 rfl
          | true =>
            refine ⟨G5, io5, m5, w5, sr5, ((show Post C W σ H5 G5 io5 (RepN C H5) ((ev F z r m5).bind fun d m => up (cmpD o3 (look m de) (look m d)) m) Q from p5).seq Mo.repN sr5).mono ?_⟩
            rintro v6 H6 ⟨G6, io6, m6, dg, s6, w6, sr6, rg, e6, p6⟩
            exact ⟨G6, io6, m6, _, _, w6, (RepO.of ((re.step s5).step s6)).look w6, (RepO.of rg).look w6, p6.up'⟩
        | _ => exact p5.elim
    | _ => exact p3.elim
  refine ⟨fun r W tk => pe_mono (pe_chain3 (op_cmpD hop hK hu) (op_cmpD hop' hK hu) (op_cmpD hop3 hK hu) (ha r W tk) (hb r W tk) (hd r W tk) (hf r W tk) hm) (key r W), fun r W tk => pt_mono (pt_chain3 (op_cmpD hop hK hu) (op_cmpD hop' hK hu) (op_cmpD hop3 hK hu) (ha r W tk) (hb r W tk) (hd r W tk) (hf r W tk) hm) fun σ H Q ⟨G, io, m, w, sr, p⟩ => ?_⟩
  refine key r W σ H _ ⟨G, io, m, w, sr, ?_⟩
  refine (p.seq (R := RepN C H) Mo.const sr).mono ?_
  rintro v1 H1 ⟨G1, io1, m1, d, s1, w1, sr1, rd, e1, p1⟩
  cases d with
  | bl k =>
    obtain rfl : v1 = .bl k := rd
    exact ⟨k, rfl, p1.here w1 rfl⟩
  | _ => exact p1.elim
end
/-! ### t[::-1] -/
section
variable {prog : Program} {w : World} {A : Around} {E : Value → Shared → Prop} {s : Shared}
theorem adjust_rev (n : Nat) : Builtin.Slice.sliceAdjust none none (-1) (n : Int) = ((n : Int) - 1, -1) := rfl
theorem places_rev (n : Nat) : Builtin.Slice.slicePlaces ((n : Int) - 1) (-1) (-1) = n := by
  unfold Builtin.Slice.slicePlaces
  have h1 : ¬ (-1 : Int) > 0 := by omega
  simp only [h1, if_false]
  split
  · rw [show -(-1 : Int) = 1 by omega, Int.ediv_one]
    omega
  · omega
theorem fm_all {α : Type} {f : Nat → Option α} {g : Nat → α} : ∀ l : List Nat, (∀ m ∈ l, f m = some (g m)) → l.filterMap f = l.map g
  | [], _ => rfl
  | x :: l, h => by rw [List.filterMap_cons_some (h x List.mem_cons_self), List.map_cons, fm_all l fun m hm => h m (List.mem_cons_of_mem _ hm)]
theorem pick_rev (xs : Array Value) : ((List.range xs.size).filterMap fun (m : Nat) => xs[(((xs.size : Int) - 1) + (m : Int) * (-1)).toNat]?).toArray = xs.toList.reverse.toArray := by
  congr 1
  have e : ∀ m ∈ List.range xs.size, (fun (m : Nat) => xs[(((xs.size : Int) - 1) + (m : Int) * (-1)).toNat]?) m = some (xs.toList.reverse.getD m .none) := fun m hm => by
    have hm := List.mem_range.mp hm
    have : (((xs.size : Int) - 1) + (m : Int) * (-1)).toNat = xs.size - 1 - m := by omega
    simp only [this]
    rw [List.getD_eq_getElem?_getD, List.getElem?_reverse (by rw [Array.length_toList]; exact hm), Array.length_toList, Array.getElem?_toList, Array.getElem?_eq_getElem (by omega)]
    rfl
  rw [fm_all _ e]
  apply List.ext_getElem?
  intro i
  rw [List.getElem?_map]
  by_cases hi : i < xs.size
  · have hl : i < xs.toList.reverse.length := by rw [List.length_reverse, Array.length_toList]; exact hi
    rw [List.getElem?_range hi, Option.map_some, List.getD_eq_getElem?_getD, List.getElem?_eq_getElem hl]
    rfl
  · rw [List.getElem?_eq_none (by rw [List.length_range]; omega), List.getElem?_eq_none (by rw [List.length_reverse, Array.length_toList]; omega)]
    rfl
theorem sliceApplied_rev {sl : Addr} {vs : Value} {n : Nat} {Q : Int × Int × Nat → Shared → Prop} (hs : s.heap.IsSliceOf sl .none .none vs) (ps : IsPart vs (some (-1)))
    (h : Q ((n : Int) - 1, -1, n) s) : wpAny (model prog w) A (Builtin.Slice.sliceApplied (.ref sl) (pure (n : Int))) Q E s := by
  obtain ⟨os, hos, hcs, hds⟩ := id hs
  unfold Builtin.Slice.sliceApplied Builtin.Slice.sliceFields
  refine wpAny_bind (wpAny_bind (wpAny_field hos hds (x := .none) rfl (wpAny_bind (wpAny_field hos hds (x := .none) rfl (wpAny_bind (wpAny_field hos hds (x := vs) rfl (wpAny_pure ?_)))))))
  refine wpAny_bind (HT.slicePart_ ps ?_)
  show wpAny _ _ (if ((-1 : Int) == 0) = true then _ else _) _ _ s
  rw [if_neg (by decide)]
  refine wpAny_bind (HT.slicePart_ .none (wpAny_bind (HT.slicePart_ .none (wpAny_bind (wpAny_pure ?_)))))
  show wpAny _ _ (match Builtin.Slice.sliceAdjust none none (-1) (n : Int) with | (lo, hi) => pure (lo, (-1 : Int), Builtin.Slice.slicePlaces lo hi (-1))) _ _ s
  rw [adjust_rev n]
  show wpAny _ _ (pure ((n : Int) - 1, (-1 : Int), Builtin.Slice.slicePlaces ((n : Int) - 1) (-1) (-1))) _ _ s
  rw [places_rev]
  exact wpAny_pure h
theorem getItem_tuple_rev {t sl : Addr} {items : Array Value} {vs : Value} {Q : Value → Shared → Prop} (ht : IsTup s.heap t items) (hs : s.heap.IsSliceOf sl .none .none vs) (ps : IsPart vs (some (-1)))
    (h : Q (.ref s.heap.objs.size) { s with heap := s.heap.push { cls := .type "tuple", data := .seq items.toList.reverse.toArray } })
    (hsz : items.size ≤ sizeLine) : wpAny (model prog w) A (getItem (.ref t) (.ref sl)) Q E s := by
  have htake : sizeOk (.seq items.toList.reverse.toArray) := by
    show items.toList.reverse.toArray.size ≤ sizeLine
    rw [List.size_toArray, List.length_reverse, Array.length_toList]
    omega
  obtain ⟨os, hos, hcs, hds⟩ := id hs
  have hTs : s.TypeIs (.ref sl) "slice" := ⟨os, hos, hcs⟩
  unfold getItem
  try with_reducible refine wpAny_holding ?_
  first | refine wpAny_bind (wpAny_pure ?_) | skip
  refine wpAny_bind (wpAny_sequenceKey ht.typeIs (by decide) ?_)
  refine wpAny_bind (wpAny_callSpecial?_slot (name := Str.ofString "__getitem__") ht.typeIs PyProof.Rows.slot_tuple_getitem
    (wpAny_call_entry PyProof.Rows.slot_tuple_getitem ht.typeIs entry_tuple_getitem ?_ (args_tuple_getitem _ _)))
  show wpAny _ _ (Builtin.Tuple.tupleItemsOf (.ref t) >>= _) _ _ s
  refine wpAny_bind (tupleItemsOf_ ht ?_)
  refine wpAny_bind (wpAny_typeOf hTs ?_)
  rw [if_pos (by decide)]
  refine wpAny_bind (sliceApplied_rev hs ps ?_)
  have hno : ¬ ((((items.size : Int) - 1) == 0 && (-1 : Int) == 1 && items.size == items.size) = true) := by
    rw [show ((-1 : Int) == 1) = false from rfl, Bool.and_false, Bool.false_and]
    exact Bool.false_ne_true
  show wpAny _ _ (if (((items.size : Int) - 1) == 0 && (-1 : Int) == 1 && items.size == items.size) = true then _ else _) _ _ s
  rw [if_neg hno, pick_rev]
  first
    | exact wpAny_bind (m := Builtin.Tuple.tupleExact _) (wpAny_newObj_type (wpAny_pure ⟨_, rfl, wpAny_pure h⟩) htake)
    | exact wpAny_bind (m := Builtin.Tuple.tupleExact _) (wpAny_newObj_type (wpAny_bind (wpAny_pure (wpAny_pure ⟨_, rfl, wpAny_pure h⟩))) htake)
    | exact wpAny_bind (wpAny_bind (m := Builtin.Tuple.tupleExact _) (wpAny_newObj_type (wpAny_pure (wpAny_pure ⟨_, rfl, wpAny_pure h⟩)) htake))
    | exact wpAny_bind (wpAny_bind (m := Builtin.Tuple.tupleExact _) (wpAny_newObj_type (wpAny_pure ⟨_, rfl, wpAny_pure h⟩) htake))
end
section
variable {X : Cx}
def tRevA (K : PySem.W.Frag) (te : TE) : TE := fun σ H Q => te σ H fun x H1 => ∃ a xs, x = .ref a ∧ ((SqL K H1 a xs ∧ ∀ p, H1 p = none → Q (.ref p) (upd H1 p (.lst xs.reverse))) ∨ (SqT K H1 a xs ∧ ∀ p, H1 p = none → Q (.ref p) (upd H1 p (.tup xs.reverse))))
theorem pe_revA {e : Expr} {te : TE} {k : Nat} {p1 p2 p3 pos : Pos} (he : PE X e te) : PE X (.Subscript e (.Slice none none (some (.UnaryOp .USub (.Constant (.int 1) k p1) p2)) p3) pos) (tRevA X.K te) := by
  refine ⟨fun pins s σ H Q I h => ?_⟩
  refine Subscript_ (thn (he.run pins s σ H _ I h) fun v s1 ⟨x, H1, I1, r1, q1⟩ => ?_)
  obtain ⟨a, xs, ex, hx⟩ := q1
  subst ex
  cases r1
  have hst : PO X (some (.UnaryOp .USub (.Constant (.int 1) k p1) p2)) (tPart (tUn (rU fun i => .int (-i)) (tC (.int 1)))) := po_some (pe_un un_neg pe_int)
  refine wpAny_Slice (thn (po_none.run pins s1 σ H1 (fun o H2 => o = none ∧ H2 = H1) I1 ⟨rfl, rfl⟩) fun vl s2 ⟨l, H2, I2, pl, el, e2⟩ => ?_)
  subst el e2
  refine thn (po_none.run pins s2 σ H2 (fun o H3 => o = none ∧ H3 = H2) I2 ⟨rfl, rfl⟩) fun vu s3 ⟨u, H3, I3, pu, eu, e3⟩ => ?_
  subst eu e3
  refine thn (hst.run pins s3 σ H3 (fun o H4 => o = some (-1) ∧ H4 = H3) I3 ⟨1, rfl, -1, rfl, rfl, rfl⟩) fun vs s4 ⟨o, H4, I4, ps, eo, e4⟩ => ?_
  subst eo e4
  have I5 : Inv X pins σ H4 { s4 with heap := s4.heap.push { cls := .type "slice", data := .fields #[vl, vu, vs] } } := I4.kept (t' := s4.toks) fun b ob q => Heap.get?_push_of_some _ q
  show wpAny (model X.prog X.w) X.A (subscriptTail e (.Slice none none (some (.UnaryOp .USub (.Constant (.int 1) k p1) p2)) p3) (.ref a) (.ref s4.heap.objs.size)) (EP X pins σ Q) X.xe { s4 with heap := s4.heap.push { cls := .type "slice", data := .fields #[vl, vu, vs] } }
  rcases hx with ⟨hx, q⟩ | ⟨hx, q⟩
  · obtain ⟨its, r, ht, hz⟩ := I5.list hx
    have hlen := r.length
    refine tail_any (ops := [.ref a, .ref s4.heap.objs.size]) ht.isList.typeIs (PySem.slot_list_getitem.lookup) ?_ (by with_unfolding_all rfl)
    refine wpAny_getItem_list_slice ht.isList (Heap.IsSliceOf.new _ vl vu vs) pl pu ps (by decide) ?_ (by rw [List.size_toArray]; omega)
    rw [PySem.W.krv_pick]
    refine ⟨.ref _, _, I5.laid (t' := s4.toks) (o := .lst xs.reverse) (fun b ob q => Heap.get?_push_of_some _ q) (Nat.le_refl _) ?_, rfl, q _ (I5.hok.fresh (Nat.le_refl _))⟩
    exact ⟨by rw [List.length_reverse]; exact hz, _, 0, r.reverse, Heap.get?_push_size _ rfl⟩
  · obtain ⟨its, r, ht, hz⟩ := I5.tuple hx
    have hlen : its.toArray.size = xs.length := by rw [List.size_toArray]; exact r.length.symm
    cases pl
    cases pu
    refine tail_any (ops := [.ref a, .ref s4.heap.objs.size]) ht.typeIs (PyProof.Rows.slot_tuple_getitem.lookup) ?_ (by with_unfolding_all rfl)
    refine getItem_tuple_rev ht (Heap.IsSliceOf.new _ .none .none vs) ps ?_ (by rw [hlen]; exact hz)
    refine ⟨.ref _, _, I5.laid (t' := s4.toks) (o := .tup xs.reverse) (fun b ob q => Heap.get?_push_of_some _ q) (Nat.le_refl _) ?_, rfl, q _ (I5.hok.fresh (Nat.le_refl _))⟩
    exact ⟨by rw [List.length_reverse]; exact hz, _, r.reverse, IsTup.new _ _⟩
end
end Wh
/-! Expressions: argument lists, displays, subscripts, fields, calls, boxes. -/
namespace Wh
open PySem L2 PySem.Spec PyProof.Rows
section
variable {C : Wd} {F : Fn} {X : Cx} {c : Cc}
theorem RepOs.step {H G H' G' : Hp} {io io' : List Addr} (s : Step H G io H' G' io') : ∀ {ds : List D} {vs : List V}, RepOs C H G io ds vs → RepOs C H' G' io' ds vs
  | [], vs, h => h
  | d :: ds, vs, h => by
    obtain ⟨v, r, e, q, t⟩ := h
    exact ⟨v, r, e, q.step s, RepOs.step s t⟩
theorem RepOs.length {H G : Hp} {io : List Addr} : ∀ {ds : List D} {vs : List V}, RepOs C H G io ds vs → vs.length = ds.length
  | [], vs, h => by
    obtain rfl : vs = [] := h
    rfl
  | d :: ds, vs, h => by
    obtain ⟨v, r, rfl, _, t⟩ := h
    rw [List.length_cons, List.length_cons, RepOs.length t]
/-! ### argument lists -/
theorem ha_nil : HA C F X [] [] := fun r W tk => pa_mono pa_nil fun σ H Q ⟨G, io, m, w, sr, p⟩ => by
  rw [evs] at p
  exact p.here w rfl
theorem hao_nil : HAo C F X [] [] := fun r W tk => pa_mono pa_nil fun σ H Q ⟨G, io, m, w, sr, p⟩ => by
  rw [evs] at p
  exact p.here w rfl
theorem ha_cons {e : Expr} {es : List Expr} {x : E} {xs : List E} (he : HE C F X e x) (hes : HA C F X es xs) (hs : starEach (e :: es) X.env = (false, eval e X.env) :: starEach es X.env) : HA C F X (e :: es) (x :: xs) := fun r W tk =>
  pa_mono (pa_cons (he r W tk) (hes r W tk) hs) fun σ H Q ⟨G, io, m, w, sr, p⟩ => by
    rw [evs] at p
    refine ⟨G, io, m, w, sr, (p.seq (R' := fun _ => rRepL C) Mo.const sr).mono ?_⟩
    rintro v1 H1 ⟨G1, io1, m1, d, s1, w1, sr1, rd, e1, p1⟩
    refine ⟨G1, io1, m1, w1, sr1, (p1.seq (R' := fun _ => rRepL C) Mo.const sr1).mono ?_⟩
    rintro v2 H2 ⟨G2, io2, m2, ds, s2, w2, sr2, rds, e2, p2⟩
    exact p2.here w2 ⟨v1, v2, rfl, rd.step s2, rds⟩
theorem hao_cons {e : Expr} {es : List Expr} {x : E} {xs : List E} (he : HO_ C F X e x) (hes : HAo C F X es xs) (hs : starEach (e :: es) X.env = (false, eval e X.env) :: starEach es X.env) : HAo C F X (e :: es) (x :: xs) := fun r W tk =>
  pa_mono (pa_cons (he r W tk) (hes r W tk) hs) fun σ H Q ⟨G, io, m, w, sr, p⟩ => by
    rw [evs] at p
    refine ⟨G, io, m, w, sr, (p.seq (R' := fun _ => RepOs C) Mo.const sr).mono ?_⟩
    rintro v1 H1 ⟨G1, io1, m1, d, s1, w1, sr1, rd, e1, p1⟩
    refine ⟨G1, io1, m1, w1, sr1, (p1.seq (R' := fun _ => RepOs C) Mo.const sr1).mono ?_⟩
    rintro v2 H2 ⟨G2, io2, m2, ds, s2, w2, sr2, rds, e2, p2⟩
    exact p2.here w2 ⟨v1, v2, rfl, rd.step s2, rds⟩
/-! ### displays -/
theorem evs_length : ∀ {F : Fn} {es : List E} {r : Env} {m m1 : Mu} {ds : List D}, evs F es r m = .ok ds m1 → ds.length = es.length
  | F, [], r, m, m1, ds, h => by
    simp only [evs, Res.ok.injEq] at h
    rw [← h.1] <;> rfl
  | F, e :: es, r, m, m1, ds, h => by
    rw [evs] at h
    cases e1 : ev F e r m with
    | bad => rw [e1] at h; cases h
    | exc c m2 => rw [e1] at h; cases h
    | ok d m2 =>
      rw [e1] at h
      have h : ((evs F es r m2).bind fun ds m => Res.ok (d :: ds) m) = .ok ds m1 := h
      cases e2 : evs F es r m2 with
      | bad => rw [e2] at h; cases h
      | exc c m2 => rw [e2] at h; cases h
      | ok ds2 m3 =>
        rw [e2] at h
        cases h
        rw [List.length_cons, List.length_cons, evs_length e2]
theorem hn_tup {es : List Expr} {xs : List E} {k : Nat} {pos : Pos} (h : HA C F X es xs) (hl : xs.length ≤ 1000) : HN C F X (.Tuple es k pos) (.tup xs) := fun r W tk =>
  pe_mono (pe_tup (h r W tk)) fun σ H Q ⟨G, io, m, w, sr, p⟩ => by
    rw [ev] at p
    refine ⟨G, io, m, w, sr, (p.seq Mo.repN sr).mono ?_⟩
    rintro vs H1 ⟨G1, io1, m1, ds, s1, w1, sr1, rds, e1, p1⟩
    have l1 := rds.length
    have l2 := evs_length e1
    have hz : vs.length ≤ sizeLine := by rw [sizeLine_eq]; omega
    exact ⟨hz, fun q hq => post_tup p1 w1 hz rds hq⟩
theorem hn_lst {es : List Expr} {xs : List E} {pos : Pos} (h : HA C F X es xs) (hl : xs.length ≤ 1000) : HN C F X (.List es pos) (.lst xs) := fun r W tk =>
  pe_mono (pe_lst (h r W tk)) fun σ H Q ⟨G, io, m, w, sr, p⟩ => by
    rw [ev] at p
    refine ⟨G, io, m, w, sr, (p.seq Mo.repN sr).mono ?_⟩
    rintro vs H1 ⟨G1, io1, m1, ds, s1, w1, sr1, rds, e1, p1⟩
    have l1 := rds.length
    have l2 := evs_length e1
    have hz : vs.length ≤ sizeLine := by rw [sizeLine_eq]; omega
    exact ⟨hz, fun q hq => post_new (u := .lst vs) p1 w1 rfl ⟨hz, rds⟩ hq⟩
theorem hn_dict0 {pos : Pos} : HN C F X (.Dict [] [] pos) (.dict [] []) := fun r W tk =>
  pe_mono pe_dnewK fun σ H Q ⟨G, io, m, w, sr, p⟩ => by
    rw [ev, evs] at p
    intro q hq
    exact post_new (u := .dK []) (d := .dic []) p w rfl ⟨Nat.zero_le _, rfl⟩ hq
/-! ### subscripts -/
theorem repL_atI {G : Hp} {io : List Addr} {xs : List D} {vs : List V} {i : Int} {d : D} (h : RepL C G io xs vs) (e : atI xs i = some d) : ∃ v, atI vs i = some v ∧ Rep C G io d v := by
  unfold atI at e ⊢
  rw [h.length]
  cases ej : ixN xs.length i with
  | none => rw [ej] at e; cases e
  | some j =>
    rw [ej] at e
    exact h.get e
theorem ix_D (hK : X.K = C.K) (hu : X.A.units + 65 < cLine) : IxR X (fun x y H Q => ∃ G io m da db, WRel C H G io m ∧ RepB C H G io da x ∧ Rep C G io db y ∧ Post C noW [] H G io (rRep C) (up (idxD da db) m) Q) := by
  intro value slice pins s σ H x y v u Q I rx ry h hs
  obtain ⟨G, io, m, da, db, w, ra, rb, p⟩ := h
  cases da <;> first | exact p.elim | skip
  · -- a text
    cases db <;> first | exact p.elim | skip
    rename_i z i
    obtain rfl := ra
    obtain rfl := rb
    by_cases hz : z.length ≤ big
    · simp only [idxD, if_pos hz] at p
      cases e : atI z.cps.toList i with
      | none => rw [e] at p; exact p.elim
      | some k =>
        rw [e] at p
        exact ix_str value slice pins s σ H _ _ v u Q I rx ry ⟨z, i, k, rfl, rfl, by rw [← big_eq]; exact hz, e, p.here w rfl⟩ hs
    · simp only [idxD, if_neg hz] at p; exact p.elim
  · cases db <;> first | exact p.elim | skip
    rename_i xs i
    obtain ⟨a, vs, rfl, qa, za, la⟩ := ra
    obtain rfl := rb
    simp only [idxD] at p
    cases e : atI xs i with
    | none => rw [e] at p; exact p.elim
    | some d =>
      rw [e] at p
      obtain ⟨v', e1, e2⟩ := repL_atI la e
      exact ix_tup value slice pins s σ H _ _ v u Q I rx ry ⟨a, vs, i, v', rfl, rfl, by rw [hK]; exact w.sqT qa, e1, p.here w e2⟩ hs
  · cases db <;> first | exact p.elim | skip
    rename_i xs i
    obtain ⟨a, vs, rfl, qa, za, la⟩ := ra
    obtain rfl := rb
    simp only [idxD] at p
    cases e : atI xs i with
    | none => rw [e] at p; exact p.elim
    | some d =>
      rw [e] at p
      obtain ⟨v', e1, e2⟩ := repL_atI la e
      exact ix_list value slice pins s σ H _ _ v u Q I rx ry ⟨a, vs, i, v', rfl, rfl, .inl qa, e1, p.here w e2⟩ hs
  · rename_i ks
    simp only [idxD] at p
    cases ek : keyOf db with
    | none => rw [ek] at p; exact p.elim
    | some k =>
      rw [ek] at p
      simp only [Option.bind_some] at p
      cases e : lookK ks k with
      | none => rw [e] at p; exact p.elim
      | some d =>
        rw [e] at p
        obtain ⟨a, kvs, rfl, qa, za, la⟩ := ra
        obtain rfl := keyOf_ok ek (rb.toB w)
        obtain ⟨v', e1, e2⟩ := (RepK.look k la).1 d e
        obtain rfl : v = Value.ref a := rx
        have g : DGet H a (kV k) (some v') := .inl ⟨kvs, k, qa, rfl, e1.symm⟩
        exact tail_any (dict_typeIs I g) PySem.F.slot_dict_getitem.lookup (d_getItem (by omega) I g ry fun w' s' I' rw' => ⟨v', H, I', rw', p.here w e2⟩) hs
theorem he_idx (hK : X.K = C.K) (hu : X.A.units + 65 < cLine) {a b : Expr} {x y : E} {pos : Pos} (hb' : PlainIx b) (ha : HO_ C F X a x) (hb : HE C F X b y) : HE C F X (.Subscript a b pos) (.idx x y) := fun r W tk =>
  pe_mono (pe_ix (ix_D hK hu) (ha r W tk) (hb r W tk) hb') fun σ H Q ⟨G, io, m, w, sr, p⟩ => by
    rw [ev] at p
    refine ⟨G, io, m, w, sr, (p.seq Mo.const sr).mono ?_⟩
    rintro v1 H1 ⟨G1, io1, m1, da, s1, w1, sr1, ra, e1, p1⟩
    refine ⟨G1, io1, m1, w1, sr1, (p1.seq Mo.const sr1).mono ?_⟩
    rintro v2 H2 ⟨G2, io2, m2, db, s2, w2, sr2, rb, e2, p2⟩
    exact ⟨G2, io2, m2, _, _, w2, (ra.step s2).look w2, rb, p2.up'⟩
/-! ### slices -/
def HP (C : Wd) (F : Fn) (X : Cx) (e : Option Expr) (x : E) : Prop := ∀ (r : Env) (W : WX), Takes X W → PO X e (fun σ H Q => tRun C W r (fun _ => rRep C) (ev F x r) σ H fun v H1 => ∃ o, ((o = none ∧ v = .non) ∨ ∃ i, o = some i ∧ v = .int i) ∧ Q o H1)
theorem hp_none : HP C F X none (.c .non) := fun r W tk => ⟨fun pins s σ H Q I ⟨G, io, m, w, sr, p⟩ => by
  rw [evalPart_none]
  rw [ev] at p
  obtain ⟨o, h, q⟩ := p.here w rfl
  refine wpAny_pure ⟨none, H, I, .none, ?_⟩
  rcases h with ⟨rfl, _⟩ | ⟨i, _, e⟩
  · exact q
  · cases e⟩
theorem hp_some {e : Expr} {x : E} (h : HE C F X e x) : HP C F X (some e) x := fun r W tk => ⟨fun pins s σ H Q I hw => by
  rw [evalPart_some]
  refine thn ((h r W tk).run pins s σ H _ I hw) fun u s1 ⟨v, H1, I1, r1, o, h, q⟩ => ?_
  rcases h with ⟨rfl, rfl⟩ | ⟨i, rfl, rfl⟩
  · cases r1
    exact ⟨none, H1, I1, .none, q⟩
  · obtain ⟨t, rfl⟩ := r1
    exact ⟨some i, H1, I1, .int i t, q⟩⟩
theorem repL_cut {G : Hp} {io : List Addr} {xs : List D} {vs : List V} (lo hi : Option Int) (h : RepL C G io xs vs) : RepL C G io (cutD xs lo hi) (cutV vs lo hi) := by
  unfold cutD cutV
  rw [h.length]
  exact (h.drop _).take _
theorem sl_D (hK : X.K = C.K) : SlR X (fun x lo hi H Q => ∃ G io m da, WRel C H G io m ∧ RepB C H G io da x ∧ Post C noW [] H G io (RepN C H) (up (slD da ((lo.map D.int).getD .non) ((hi.map D.int).getD .non)) m) Q) := by
  intro pins s σ H x v vl vu lo hi sl Q I rx hs pl pu h
  obtain ⟨G, io, m, da, w, ra, p⟩ := h
  have o1 : optI ((lo.map D.int).getD .non) = some lo := by cases lo <;> rfl
  have o2 : optI ((hi.map D.int).getD .non) = some hi := by cases hi <;> rfl
  cases da <;> first | exact p.elim | skip
  · rename_i z
    obtain rfl := ra
    by_cases hz : z.length ≤ big
    · simp only [slD, if_pos hz, o1, o2, Option.bind_some, Option.map_some] at p
      refine sl_str pins s σ H _ v vl vu lo hi sl Q I rx hs pl pu ⟨z, rfl, by rw [← big_eq]; exact hz, ?_⟩
      have e : cutT z lo hi = cutS z lo hi := by
        unfold cutT cutD cutS
        rw [Array.length_toList] <;> rfl
      rw [e] at p
      exact post_here p w rfl rfl
    · simp only [slD, if_neg hz] at p; exact p.elim
  · rename_i xs
    obtain ⟨a, vs, rfl, qa, za, la⟩ := ra
    simp only [slD, o1, o2, Option.bind_some, Option.map_some] at p
    have hz : (cutV vs lo hi).length ≤ sizeLine := Nat.le_trans (cutV_length vs lo hi) za
    refine sl_tupA pins s σ H _ v vl vu lo hi sl Q I rx hs pl pu ⟨a, vs, rfl, by rw [hK]; exact w.sqT qa, fun hw => ?_, fun _ q hq => post_tup p w hz (repL_cut lo hi la) hq⟩
    have e : cutD xs lo hi = xs := by
      have l := la.length
      unfold cutD
      rw [l] at hw
      rw [hw.1, hw.2]
      simp
    rw [e] at p
    exact post_here p w rfl ⟨a, vs, rfl, qa, za, la⟩
  · rename_i xs
    obtain ⟨a, vs, rfl, qa, za, la⟩ := ra
    simp only [slD, o1, o2, Option.bind_some, Option.map_some] at p
    have hz : (cutV vs lo hi).length ≤ sizeLine := Nat.le_trans (cutV_length vs lo hi) za
    exact sl_list pins s σ H _ v vl vu lo hi sl Q I rx hs pl pu ⟨a, vs, rfl, .inl qa, fun q hq => post_new (u := .lst (cutV vs lo hi)) p w rfl ⟨hz, repL_cut lo hi la⟩ hq⟩
theorem optI_none {d : D} {G : Hp} {io : List Addr} {v : V} (r : Rep C G io d v) : (optI d = none) ∨ ∃ o, optI d = some o ∧ d = (o.map D.int).getD .non ∧ ((o = none ∧ v = .non) ∨ ∃ i, o = some i ∧ v = .int i) := by
  cases d <;> first | exact .inl rfl | skip
  · exact .inr ⟨none, rfl, rfl, .inl ⟨rfl, r⟩⟩
  · exact .inr ⟨some _, rfl, rfl, .inr ⟨_, rfl, r⟩⟩
theorem slD_none {a l h : D} (e : optI l = none ∨ optI h = none) : slD a l h = none := by
  cases a <;> simp only [slD]
  all_goals (rcases e with e | e <;> rw [e] <;> simp)
theorem hn_sl (hK : X.K = C.K) {a : Expr} {lo hi : Option Expr} {x y z : E} {p2 pos : Pos} (ha : HO_ C F X a x) (hl : HP C F X lo y) (hh : HP C F X hi z) : HN C F X (.Subscript a (.Slice lo hi none p2) pos) (.sl x y z) := fun r W tk =>
  pe_mono (pe_slice (sl_D hK) (ha r W tk) (hl r W tk) (hh r W tk)) fun σ H Q ⟨G, io, m, w, sr, p⟩ => by
    rw [ev] at p
    refine ⟨G, io, m, w, sr, (p.seq Mo.repN sr).mono ?_⟩
    rintro v1 H1 ⟨G1, io1, m1, da, s1, w1, sr1, ra, e1, p1⟩
    refine ⟨G1, io1, m1, w1, sr1, (p1.seq Mo.repN sr1).mono ?_⟩
    rintro v2 H2 ⟨G2, io2, m2, db, s2, w2, sr2, rb, e2, p2⟩
    rcases optI_none rb with n1 | ⟨o1, n1, n2, n3⟩
    · rw [n1] at p2; exact p2.elim
    rw [n1] at p2
    have p3 : Post C W σ H2 G2 io2 (RepN C H2) ((ev F z r m2).bind fun h m => up (slD (look m da) db h) m) Q := p2
    refine ⟨o1, n3, G2, io2, m2, w2, sr2, (p3.seq Mo.repN sr2).mono ?_⟩
    rintro v3 H3 ⟨G3, io3, m3, dc, s3, w3, sr3, rc, e4, p4⟩
    rcases optI_none rc with k1 | ⟨o2, k1, k2, k3⟩
    · rw [slD_none (.inr k1)] at p4; exact p4.elim
    · refine ⟨o2, k3, G3, io3, m3, _, w3, ((ra.step s2).step s3).look w3, ?_⟩
      rw [← n2, ← k2]
      exact p4.up'
theorem hn_rev (hK : X.K = C.K) {a : Expr} {x : E} {k : Nat} {p1 p2 p3 pos : Pos} (ha : HO_ C F X a x) : HN C F X (.Subscript a (.Slice none none (some (.UnaryOp .USub (.Constant (.int 1) k p1) p2)) p3) pos) (.rev x) := fun r W tk =>
  pe_mono (pe_revA (ha r W tk)) fun σ H Q ⟨G, io, m, w, sr, p⟩ => by
    rw [ev] at p
    refine ⟨G, io, m, w, sr, (p.seq Mo.repN sr).mono ?_⟩
    rintro v1 H1 ⟨G1, io1, m1, da, s1, w1, sr1, ra, e1, p1⟩
    have rb := ra.look w1
    cases e : look m1 da with
    | lst xs =>
      rw [e] at p1 rb
      obtain ⟨a, vs, rfl, qa, za, la⟩ := rb
      exact ⟨a, vs, rfl, .inl ⟨.inl qa, fun q hq => post_new (u := .lst vs.reverse) p1 w1 rfl ⟨by rw [List.length_reverse]; exact za, la.reverse⟩ hq⟩⟩
    | tup xs =>
      rw [e] at p1 rb
      obtain ⟨a, vs, rfl, qa, za, la⟩ := rb
      exact ⟨a, vs, rfl, .inr ⟨by rw [hK]; exact w1.sqT qa, fun q hq => post_tup p1 w1 (by rw [List.length_reverse]; exact za) la.reverse hq⟩⟩
    | _ => rw [e] at p1; exact p1.elim
/-! ### fields -/
theorem he_fld (h : CcX c C F X) {a : Expr} {x : E} {f : String} {pos : Pos} (hf : f ∈ c.T.flds) (hb : attributeBase a (S f) X.env (eval a X.env) = eval a X.env) (ha : HO_ C F X a x) : HE C F X (.Attribute a (S f) pos) (.fld x f) := fun r W tk =>
  pe_mono (pe_fld (ha r W tk) hb) fun σ H Q ⟨G, io, m, w, sr, p⟩ => by
    rw [ev] at p
    refine ⟨G, io, m, w, sr, (p.seq Mo.const sr).mono ?_⟩
    rintro v1 H1 ⟨G1, io1, m1, da, s1, w1, sr1, ra, e1, p1⟩
    have rb := ra.look w1
    cases e : look m1 da with
    | ins k fs =>
      rw [e] at p1 rb
      obtain ⟨a, A, dx, fvs, rfl, ha, hA, lf⟩ := rb
      have p2 : Post C W σ H1 G1 io1 (rRep C) (up (fs.lookup f) m1) Q := p1
      cases el : fs.lookup f with
      | none => rw [el] at p2; exact p2.elim
      | some d =>
        rw [el] at p2
        obtain ⟨v, e1, e2⟩ := (RepF.look f lf).1 d el
        obtain ⟨c1, c2⟩ := h.glb.cls k A hA
        exact ⟨a, A, dx, fvs, v, rfl, ha, c1, c2 f hf, e1, p2.here w1 e2⟩
    | _ => rw [e] at p1; exact p1.elim
/-! ### calls -/
theorem pe_callS0 {CX : CXT} {k : Nat} {f : Addr} {fd : FuncData} {ps : List Str} {sp : Sp} {E : L2.St → XK} {x : Str} {p pos : Pos} (F : FnOk X.prog X.w X.K X.mg X.base CX k f fd ps sp) (hr : Room k X.A) (hg : Gl X x) (hm : X.mg x = some (.ref f)) (hk : PySem.W.keepIn X.K (.ref f) = true) (hb : Binds X.K fd ps []) (hx : ∀ σ, PassesAt CX X σ (E σ))
    (hdb : (x == ("__debug__" : Str)) = false) : PE X (.Call (.Name x p) [] [] pos) (tCallS sp E tNil) := by
  refine ⟨fun pins s σ H Q I h => ?_⟩
  refine wpAny_Call_Name_kw (ld_glob I hg hm ?_ hdb)
  exact PySem.W.callWith_K0 I.kIn hk (run_fnS (us := []) F hr hb (hx σ) I .nil h)
theorem any_star : ∀ (es : List Expr) (pos : Pos) (env : PySem.Env), (∀ es', ∀ e ∈ es, starEach (e :: es') env = (false, eval e env) :: starEach es' env) → (backTo pos (starEach es env)).any (·.1) = false
  | [], _, _, _ => rfl
  | e :: es, pos, env, h => by
    rw [h es e List.mem_cons_self]
    show (((false, eval e env) :: backTo pos (starEach es env)).any (·.1)) = false
    rw [List.any_cons]
    show (false || (backTo pos (starEach es env)).any (·.1)) = false
    rw [any_star es pos env fun es' e' he' => h es' e' (List.mem_cons_of_mem _ he')] <;> rfl
theorem he_call (h : CcX c C F X) (hot : c.hot = false) {f : String} {p pos : Pos} {es : List Expr} {xs : List E} (hf : f ∈ c.T.fns) (hg : isGl c (S f) = true) (hl : xs.length = es.length) (ha : HA C F X es xs) (hs : ∀ es', ∀ e ∈ es, starEach (e :: es') X.env = (false, eval e X.env) :: starEach es' X.env) :
    HE C F X (.Call (.Name (S f) p) es [] pos) (.call f xs) := fun r W tk => by
  obtain ⟨k, hr, hall, _, _⟩ := h.glb.fns hot
  obtain ⟨a, fd, ps, e1, e2, e3, e4, e7⟩ := (hall f hf).ex
  obtain ⟨g1, g2, g3⟩ := h.gl hg
  have fin : ∀ σ H Q, tRun C W r (fun _ => rRep C) (ev F (.call f xs) r) σ H Q → ∀ t : TA, (tRun C W r (fun _ => rRepL C) (evs F xs r) σ H (fun vs H1 => spF C F f ps.length vs H1 Q (WE W σ)) → tCallS (spF C F f ps.length) (WE W) t σ H Q) → tCallS (spF C F f ps.length) (WE W) t σ H Q := fun σ H Q ⟨G, io, m, w, sr, p⟩ t ht => by
    rw [ev] at p
    refine ht ⟨G, io, m, w, sr, (p.seq Mo.const sr).mono ?_⟩
    rintro vs H1 ⟨G1, io1, m1, ds, s1, w1, sr1, rds, e5, p1⟩
    refine ⟨?_, G1, io1, m1, ds, w1, rds, ?_⟩
    · rw [rds.length]
      exact e7 ds m1 fun z => by rw [z] at p1; exact p1
    · cases e6 : F f ds m1 with
      | bad => rw [e6] at p1; exact p1
      | ok d m2 => rw [e6] at p1; exact p1
      | exc x m2 => rw [e6] at p1; exact p1
  cases es with
  | nil =>
    refine pe_mono (pe_callS0 e4 hr g1 e1 e2 e3 (fun σ => passAt tk σ) g2) fun σ H Q q => fin σ H Q q _ fun z => ?_
    have hx : xs = [] := List.eq_nil_of_length_eq_zero hl
    subst hx
    obtain ⟨G, io, m, w, sr, p⟩ := z
    rw [evs] at p
    exact p.here w rfl
  | cons e es =>
    exact pe_mono (pe_callS e4 hr g1 e1 e2 e3 (fun σ => passAt tk σ) (ha r W tk) g2 (hs es e List.mem_cons_self) (any_star es pos X.env fun es' e' he' => hs es' e' (List.mem_cons_of_mem _ he'))) fun σ H Q q => fin σ H Q q _ fun z => z
end
end Wh
/-! Sorting: the sorted list of the same things is one. -/
namespace Wh
open PySem PyProof.Rows
structure Ord {α : Type} (lt : α → α → Bool) : Prop where
  asym : ∀ a b, lt a b = true → lt b a = false
  tr : ∀ a b c, lt b a = false → lt c b = false → lt c a = false
  anti : ∀ a b, lt a b = false → lt b a = false → a = b
def SortedB {α : Type} (lt : α → α → Bool) (l : List α) : Prop := l.Pairwise fun a b => lt b a = false
section
variable {α : Type} {lt : α → α → Bool}
theorem insBy_perm (x : α) : ∀ l : List α, (insBy lt x l).Perm (x :: l)
  | [] => List.Perm.refl _
  | y :: r => by
    unfold insBy
    split
    · exact List.Perm.refl _
    · exact ((insBy_perm x r).cons y).trans (List.Perm.swap x y r)
theorem sortBy_perm : ∀ l : List α, (sortBy lt l).Perm l
  | [] => List.Perm.refl _
  | x :: r => (insBy_perm x _).trans ((sortBy_perm r).cons x)
theorem insBy_sorted (o : Ord lt) (x : α) : ∀ l : List α, SortedB lt l → SortedB lt (insBy lt x l)
  | [], _ => List.pairwise_singleton _ _
  | y :: r, h => by
    obtain ⟨h1, h2⟩ := List.pairwise_cons.mp h
    unfold insBy
    split
    · rename_i e
      refine List.pairwise_cons.mpr ⟨fun z hz => ?_, h⟩
      rcases List.mem_cons.mp hz with rfl | hz
      · exact o.asym _ _ e
      · exact o.tr x y z (o.asym _ _ e) (h1 z hz)
    · rename_i e
      refine List.pairwise_cons.mpr ⟨fun z hz => ?_, insBy_sorted o x r h2⟩
      rcases List.mem_cons.mp ((insBy_perm x r).mem_iff.mp hz) with rfl | hz
      · exact Bool.eq_false_iff.mpr e
      · exact h1 z hz
theorem sortBy_sorted (o : Ord lt) : ∀ l : List α, SortedB lt (sortBy lt l)
  | [] => List.Pairwise.nil
  | x :: r => insBy_sorted o x _ (sortBy_sorted o r)
theorem sorted_one (o : Ord lt) : ∀ {l m : List α}, l.Perm m → SortedB lt l → SortedB lt m → l = m
  | [], m, p, _, _ => by rw [List.nil_perm.mp p]
  | x :: l, [], p, _, _ => by simp at p
  | x :: l, y :: m, p, h1, h2 => by
    obtain ⟨a1, a2⟩ := List.pairwise_cons.mp h1
    obtain ⟨b1, b2⟩ := List.pairwise_cons.mp h2
    have e : x = y := by
      by_cases e : x = y
      · exact e
      have hx : x ∈ m := by
        have q := p.mem_iff.mp (List.mem_cons_self (a := x) (l := l))
        rcases List.mem_cons.mp q with z | z
        · exact absurd z e
        · exact z
      have hy : y ∈ l := by
        have q := p.mem_iff.mpr (List.mem_cons_self (a := y) (l := m))
        rcases List.mem_cons.mp q with z | z
        · exact absurd z.symm e
        · exact z
      exact o.anti x y (b1 x hx) (a1 y hy)
    subst e
    rw [sorted_one o (List.perm_cons _ |>.mp p) a2 b2]
theorem sortBy_one (o : Ord lt) {l m : List α} (p : l.Perm m) (h : SortedB lt l) : l = sortBy lt m :=
  sorted_one o (p.trans (sortBy_perm m).symm) h (sortBy_sorted o m)
end
theorem ord_I : Ord ltI := ⟨fun a b h => by simp [ltI] at *; omega, fun a b c h k => by simp [ltI] at *; omega, fun a b h k => by simp [ltI] at *; omega⟩
theorem ltP_iff {a b : Int × Int} : ltP a b = true ↔ a.1 < b.1 ∨ (a.1 = b.1 ∧ a.2 < b.2) := by
  simp [ltP]
theorem ltP_no {a b : Int × Int} : ltP a b = false ↔ ¬ (a.1 < b.1 ∨ (a.1 = b.1 ∧ a.2 < b.2)) := by
  rw [← ltP_iff, Bool.not_eq_true]
theorem ord_P : Ord ltP := by
  refine ⟨fun a b h => ?_, fun a b c h k => ?_, fun a b h k => ?_⟩
  · rw [ltP_iff] at h; rw [ltP_no]; omega
  · rw [ltP_no] at *; omega
  · rw [ltP_no] at *
    exact Prod.ext (by omega) (by omega)
theorem cps_asym : ∀ a b : List Nat, Spec.ltCps a b = true → Spec.ltCps b a = false
  | [], [], h => by simp [Spec.ltCps] at h
  | [], _ :: _, _ => rfl
  | _ :: _, [], h => by simp [Spec.ltCps] at h
  | x :: a, y :: b, h => by
    simp only [Spec.ltCps, Bool.or_eq_true, Bool.and_eq_true, decide_eq_true_eq, beq_iff_eq, Bool.or_eq_false_iff, Bool.and_eq_false_iff, decide_eq_false_iff_not, beq_eq_false_iff_ne] at *
    rcases h with h | ⟨rfl, h⟩
    · exact ⟨by omega, .inl (by omega)⟩
    · exact ⟨by omega, .inr (cps_asym a b h)⟩
theorem cps_tr : ∀ a b c : List Nat, Spec.ltCps b a = false → Spec.ltCps c b = false → Spec.ltCps c a = false
  | [], b, c, h, k => by
    cases c with
    | nil => rfl
    | cons z c => rfl
  | x :: a, [], c, h, k => by simp [Spec.ltCps] at h
  | x :: a, y :: b, [], h, k => by simp [Spec.ltCps] at k
  | x :: a, y :: b, z :: c, h, k => by
    simp only [Spec.ltCps, Bool.or_eq_false_iff, Bool.and_eq_false_iff, decide_eq_false_iff_not, beq_eq_false_iff_ne] at *
    refine ⟨by omega, ?_⟩
    by_cases e : z = x
    · subst e
      have e2 : y = z := by omega
      subst e2
      refine .inr (cps_tr a b c ?_ ?_)
      · rcases h.2 with q | q
        · exact absurd rfl q
        · exact q
      · rcases k.2 with q | q
        · exact absurd rfl q
        · exact q
    · exact .inl e
theorem cps_anti : ∀ a b : List Nat, Spec.ltCps a b = false → Spec.ltCps b a = false → a = b
  | [], [], _, _ => rfl
  | [], _ :: _, h, _ => by simp [Spec.ltCps] at h
  | _ :: _, [], _, h => by simp [Spec.ltCps] at h
  | x :: a, y :: b, h, k => by
    simp only [Spec.ltCps, Bool.or_eq_false_iff, Bool.and_eq_false_iff, decide_eq_false_iff_not, beq_eq_false_iff_ne] at *
    have e : x = y := by omega
    subst e
    rw [cps_anti a b (h.2.elim (fun q => absurd rfl q) id) (k.2.elim (fun q => absurd rfl q) id)]
theorem ord_S : Ord ltS := by
  refine ⟨fun a b h => cps_asym _ _ h, fun a b c h k => cps_tr _ _ _ h k, fun a b h k => ?_⟩
  have e := cps_anti _ _ h k
  cases a; cases b
  simp only [Str.mk.injEq]
  exact Array.toList_inj.mp e
theorem sortedS_ok : ∀ {ss : List Str}, sortedS ss = true → SortedB ltS ss
  | [], _ => List.Pairwise.nil
  | x :: r, h => by
    have go : ∀ (r : List Str) (x : Str), risingS x r = true → SortedB ltS (x :: r) := by
      intro r
      induction r with
      | nil => intro x _; exact List.pairwise_singleton _ _
      | cons y r ih =>
        intro x h
        simp only [risingS, Bool.and_eq_true, Bool.not_eq_true'] at h
        have q := ih y h.2
        refine List.pairwise_cons.mpr ⟨fun z hz => ?_, q⟩
        rcases List.mem_cons.mp hz with rfl | hz
        · exact h.1
        · exact ord_S.tr x y z h.1 ((List.pairwise_cons.mp q).1 z hz)
    exact go r x h
theorem sortedI_ok {ns : List Int} (h : ns.Pairwise (· ≤ ·)) : SortedB ltI ns := h.imp fun {a b} h => by simp [ltI]; omega
end Wh
/-! max, min of a tuple of ints -/
namespace Wh
open PySem L2 PySem.Spec PyProof.Rows
section
variable {X : Cx}
theorem mxI_fold : ∀ (ns : List Int) (n : Int), ns.foldl max n = mxI (n :: ns)
  | [], n => rfl
  | x :: ns, n => by
    rw [List.foldl_cons, mxI_fold ns (max n x)]
    cases ns with
    | nil => rfl
    | cons y ns =>
      show max (max n x) (mxI (y :: ns)) = max n (max x (mxI (y :: ns)))
      omega
theorem mnI_fold : ∀ (ns : List Int) (n : Int), ns.foldl min n = mnI (n :: ns)
  | [], n => rfl
  | x :: ns, n => by
    rw [List.foldl_cons, mnI_fold ns (min n x)]
    cases ns with
    | nil => rfl
    | cons y ns =>
      show min (min n x) (mnI (y :: ns)) = min n (min x (mnI (y :: ns)))
      omega
theorem dp_ints {K : PySem.W.Frag} {H : Hp} : ∀ (ns : List Int), DpAll K H (ns.map V.int) (ns.map PyData.int)
  | [] => .nil
  | n :: ns => .cons (.int n) (dp_ints ns)
theorem alike_ints (ns : List Int) : PySem.W.AlikeAll (ns.map PyData.int) := ⟨fun x hx y hy => by
    obtain ⟨p, _, rfl⟩ := List.mem_map.mp hx
    obtain ⟨q, _, rfl⟩ := List.mem_map.mp hy
    rfl, fun x hx => by
    obtain ⟨p, _, rfl⟩ := List.mem_map.mp hx
    intro z; cases z⟩
theorem depth_ints : ∀ (ns : List Int), PyData.depthAll (ns.map PyData.int) ≤ 10
  | [] => by simp [PyData.depthAll]
  | n :: ns => by
    rw [List.map_cons, PyData.depthAll]
    have := depth_ints ns
    have : (PyData.int n).depth = 0 := by simp [PyData.depth]
    omega
def rMxT (K : PySem.W.Frag) (f : List Int → Int) : List V → Hp → VK → Prop := fun vs H Q => ∃ (a : Addr) (ns : List Int), vs = [V.ref a] ∧ SqT K H a (ns.map V.int) ∧ ns ≠ [] ∧ Q (.int (f ns)) H
theorem cr_maxT (hc : X.calm = true) (hu : X.A.units + 65 < cLine) : CallR X (.builtin "max") (rMxT X.K mxI) := by
  intro pins s σ H vs us Q I r h
  obtain ⟨a, ns, rfl, hs, hne, q⟩ := h
  obtain ⟨its, rv, ht, hz⟩ := I.tuple hs
  rw [Vals.ref1 r]
  obtain ⟨as, hr⟩ := Dp.readsAll I _ _ its (dp_ints ns) rv
  cases ns with
  | nil => exact absurd rfl hne
  | cons n ns =>
    have hd := depth_ints (n :: ns)
    refine PySem.W.max_tuple_data (x := .int n) (xs := ns.map .int) (I.ok.hd hc) ht (by simpa using hr) (alike_ints (n :: ns)) (by rw [← List.map_cons (f := PyData.int)]; omega) fun i v h' tk bs hi hv hk => ?_
    rw [PySem.W.maxD_ints, mxI_fold] at hv
    cases hv
    exact ⟨.int _, H, I.kept hk, ⟨_, rfl⟩, q⟩
theorem cr_minT (hc : X.calm = true) (hu : X.A.units + 65 < cLine) : CallR X (.builtin "min") (rMxT X.K mnI) := by
  intro pins s σ H vs us Q I r h
  obtain ⟨a, ns, rfl, hs, hne, q⟩ := h
  obtain ⟨its, rv, ht, hz⟩ := I.tuple hs
  rw [Vals.ref1 r]
  obtain ⟨as, hr⟩ := Dp.readsAll I _ _ its (dp_ints ns) rv
  cases ns with
  | nil => exact absurd rfl hne
  | cons n ns =>
    have hd := depth_ints (n :: ns)
    refine PySem.W.min_tuple_data (x := .int n) (xs := ns.map .int) (I.ok.hd hc) ht (by simpa using hr) (alike_ints (n :: ns)) (by rw [← List.map_cons (f := PyData.int)]; omega) fun i v h' tk bs hi hv hk => ?_
    rw [PySem.W.minD_ints, mnI_fold] at hv
    cases hv
    exact ⟨.int _, H, I.kept hk, ⟨_, rfl⟩, q⟩
end
end Wh
/-! Builtins that are called by name. -/
namespace Wh
open PySem L2 PySem.Spec PyProof.Rows
def RepBs (C : Wd) (H G : Hp) (io : List Addr) : List D → List V → Prop
  | [], vs => vs = []
  | d :: ds, vs => ∃ v r, vs = v :: r ∧ RepB C H G io d v ∧ RepBs C H G io ds r
theorem RepOs.look {C : Wd} {H G : Hp} {io : List Addr} {m : Mu} (w : WRel C H G io m) : ∀ {ds : List D} {vs : List V}, RepOs C H G io ds vs → RepBs C H G io (ds.map (Wh.look m)) vs
  | [], vs, h => h
  | d :: ds, vs, h => by
    obtain ⟨v, r, e, q, t⟩ := h
    exact ⟨v, r, e, q.look w, RepOs.look w t⟩
/-- a builtin on data -/
def rBi (C : Wd) (f : Bi) : List V → Hp → VK → Prop := fun vs H Q => ∃ G io m ds, WRel C H G io m ∧ RepBs C H G io ds vs ∧ Post C noW [] H G io (RepN C H) (up (biD f ds) m) Q
section
variable {C : Wd} {X : Cx}
theorem repB1 {H G : Hp} {io : List Addr} {d : D} {vs : List V} (h : RepBs C H G io [d] vs) : ∃ v, vs = [v] ∧ RepB C H G io d v := by
  obtain ⟨v, r, rfl, q, rfl⟩ := h
  exact ⟨v, rfl, q⟩
theorem repB2 {H G : Hp} {io : List Addr} {d e : D} {vs : List V} (h : RepBs C H G io [d, e] vs) : ∃ v u, vs = [v, u] ∧ RepB C H G io d v ∧ RepB C H G io e u := by
  obtain ⟨v, r, rfl, q, u, s, rfl, q2, rfl⟩ := h
  exact ⟨v, u, rfl, q, q2⟩
theorem cr_len (hK : X.K = C.K) : CallR X (.builtin "len") (rBi C .len) := by
  intro pins s σ H xs us Q I r ⟨G, io, m, ds, w, rb, p⟩
  rcases ds with _ | ⟨d, _ | ⟨_, _⟩⟩
  · exact p.elim
  · obtain ⟨v, rfl, rv⟩ := repB1 rb
    cases d <;> first | exact p.elim | skip
    · rename_i z
      obtain rfl := rv
      by_cases hz : z.length ≤ big
      · simp only [biD, if_pos hz] at p
        exact call_len pins s σ H _ us Q I r ⟨_, _, rfl, ⟨by rw [← big_eq]; exact hz, rfl⟩, post_here p w rfl rfl⟩
      · simp only [biD, if_neg hz] at p; exact p.elim
    · obtain ⟨a, vs, rfl, qa, za, la⟩ := rv
      exact call_len pins s σ H _ us Q I r ⟨_, _, rfl, .inr ⟨vs, by rw [hK]; exact w.sqT qa, rfl⟩, by rw [la.length]; exact post_here p w rfl rfl⟩
    · obtain ⟨a, vs, rfl, qa, za, la⟩ := rv
      exact call_len pins s σ H _ us Q I r ⟨_, _, rfl, .inl ⟨vs, .inl qa, rfl⟩, by rw [la.length]; exact post_here p w rfl rfl⟩
    · obtain ⟨a, vs, rfl, qa, za, la⟩ := rv
      obtain ⟨u, rfl, ru⟩ := vals1 r
      obtain rfl : u = Value.ref a := ru
      exact d_len I qa fun t s' I' => ⟨.int vs.length, H, I', ⟨t, rfl⟩, by rw [la.length]; exact post_here p w rfl rfl⟩
  · cases d <;> exact p.elim
theorem cr_sumT (hc : X.calm = true) : CallR X (.builtin "sum") (fun vs H Q => ∃ (a : Addr) (ns : List Int), vs = [V.ref a] ∧ SqT X.K H a (ns.map V.int) ∧ Q (.int ns.sum) H) := by
  intro pins s σ H vs us Q I r h
  obtain ⟨a, ns, rfl, hs, q⟩ := h
  obtain ⟨its, rv, hl, _⟩ := I.tuple hs
  rw [Vals.ref1 r]
  obtain ⟨xs, e⟩ := rv.ints.allInts.items
  have hn : numsOf (intItems xs).toList = ns := by rw [← e]; exact rv.ints.numsOf
  rw [nums_intItems] at hn
  rw [e] at hl
  refine PySem.W.ktm_sumG (I.ok.hd hc) hl fun h' tk t' hk => ?_
  refine ⟨.int _, H, I.kept hk, ⟨_, rfl⟩, ?_⟩
  rw [preSum_eq, List.take_of_length_le (by simp), hn]
  exact q
theorem cr_sum' (hK : X.K = C.K) (hc : X.calm = true) : CallR X (.builtin "sum") (rBi C .sum) := by
  intro pins s σ H xs us Q I r ⟨G, io, m, ds, w, rb, p⟩
  rcases ds with _ | ⟨d, _ | ⟨_, _⟩⟩
  · exact p.elim
  · obtain ⟨v, rfl, rv⟩ := repB1 rb
    cases d <;> first | exact p.elim | skip
    · rename_i xs
      obtain ⟨a, vs, rfl, qa, za, la⟩ := rv
      simp only [biD] at p
      cases e : asInts xs with
      | none => rw [e] at p; exact p.elim
      | some ns =>
        rw [e] at p
        obtain rfl := repL_ints e la
        exact cr_sumT hc pins s σ H _ us Q I r ⟨a, ns, rfl, by rw [hK]; exact w.sqT qa, post_here p w rfl rfl⟩
    · rename_i xs
      obtain ⟨a, vs, rfl, qa, za, la⟩ := rv
      simp only [biD] at p
      cases e : asInts xs with
      | none => rw [e] at p; exact p.elim
      | some ns =>
        rw [e] at p
        obtain rfl := repL_ints e la
        exact cr_sum hc pins s σ H _ us Q I r ⟨a, ns, rfl, .inl qa, post_here p w rfl rfl⟩
  · cases d <;> exact p.elim
theorem mxI_ok : ∀ {ns : List Int}, ns ≠ [] → ∀ {k : Int}, k ∈ ns → (∀ y, y ∈ ns → y ≤ k) → k = mxI ns
  | [], h, _, _, _ => absurd rfl h
  | [x], _, k, hk, _ => by show k = x; simpa using hk
  | x :: y :: r, _, k, hk, hm => by
    show k = max x (mxI (y :: r))
    have hx := hm x List.mem_cons_self
    rcases List.mem_cons.mp hk with rfl | hk
    · -- the maximum of the others is no greater
      have mem : mxI (y :: r) ∈ y :: r := by
        have go : ∀ l : List Int, l ≠ [] → mxI l ∈ l := by
          intro l
          induction l with
          | nil => intro h; exact absurd rfl h
          | cons a l ih =>
            intro _
            cases l with
            | nil => exact List.mem_cons_self
            | cons b l =>
              show max a (mxI (b :: l)) ∈ _
              by_cases q : a ≤ mxI (b :: l)
              · rw [Int.max_eq_right q]; exact List.mem_cons_of_mem _ (ih (by simp))
              · rw [Int.max_eq_left (by omega)]; exact List.mem_cons_self
        exact go _ (by simp)
      have := hm _ (List.mem_cons_of_mem _ mem)
      omega
    · have e := mxI_ok (ns := y :: r) (by simp) hk fun z hz => hm z (List.mem_cons_of_mem _ hz)
      omega
theorem mnI_ok : ∀ {ns : List Int}, ns ≠ [] → ∀ {k : Int}, k ∈ ns → (∀ y, y ∈ ns → k ≤ y) → k = mnI ns
  | [], h, _, _, _ => absurd rfl h
  | [x], _, k, hk, _ => by show k = x; simpa using hk
  | x :: y :: r, _, k, hk, hm => by
    show k = min x (mnI (y :: r))
    have hx := hm x List.mem_cons_self
    rcases List.mem_cons.mp hk with rfl | hk
    · have mem : mnI (y :: r) ∈ y :: r := by
        have go : ∀ l : List Int, l ≠ [] → mnI l ∈ l := by
          intro l
          induction l with
          | nil => intro h; exact absurd rfl h
          | cons a l ih =>
            intro _
            cases l with
            | nil => exact List.mem_cons_self
            | cons b l =>
              show min a (mnI (b :: l)) ∈ _
              by_cases q : a ≤ mnI (b :: l)
              · rw [Int.min_eq_left q]; exact List.mem_cons_self
              · rw [Int.min_eq_right (by omega)]; exact List.mem_cons_of_mem _ (ih (by simp))
        exact go _ (by simp)
      have := hm _ (List.mem_cons_of_mem _ mem)
      omega
    · have e := mnI_ok (ns := y :: r) (by simp) hk fun z hz => hm z (List.mem_cons_of_mem _ hz)
      omega
theorem cr_max' (hK : X.K = C.K) (hc : X.calm = true) (hu : X.A.units + 65 < cLine) : CallR X (.builtin "max") (rBi C .mx1) := by
  intro pins s σ H xs us Q I r ⟨G, io, m, ds, w, rb, p⟩
  rcases ds with _ | ⟨d, _ | ⟨_, _⟩⟩
  · exact p.elim
  · obtain ⟨v, rfl, rv⟩ := repB1 rb
    cases d <;> first | exact p.elim | skip
    case tup =>
      rename_i xs
      obtain ⟨a, vs, rfl, qa, za, la⟩ := rv
      simp only [biD] at p
      cases e : asInts xs with
      | none => rw [e] at p; exact p.elim
      | some ns =>
        rw [e] at p
        simp only [Option.bind_some] at p
        by_cases hn : ns = []
        · rw [if_pos hn] at p; exact p.elim
        rw [if_neg hn] at p
        obtain rfl := repL_ints e la
        exact cr_maxT hc hu pins s σ H _ us Q I r ⟨a, ns, rfl, by rw [hK]; exact w.sqT qa, hn, post_here p w rfl rfl⟩
    rename_i xs
    obtain ⟨a, vs, rfl, qa, za, la⟩ := rv
    simp only [biD] at p
    cases e : asInts xs with
    | none => rw [e] at p; exact p.elim
    | some ns =>
      rw [e] at p
      simp only [Option.bind_some] at p
      by_cases hn : ns = []
      · rw [if_pos hn] at p; exact p.elim
      rw [if_neg hn] at p
      obtain rfl := repL_ints e la
      exact cr_max hc pins s σ H _ us Q I r ⟨a, ns, rfl, .inl qa, List.length_pos_iff.mpr hn, fun k h1 h2 => by rw [mxI_ok hn h1 h2]; exact post_here p w rfl rfl⟩
  · cases d <;> exact p.elim
theorem dataLt_pr (a b c d : Int) : PySem.W.dataLt (.tuple [.int a, .int b]) (.tuple [.int c, .int d]) = Wh.ltP (a, b) (c, d) := by
  unfold PySem.W.dataLt
  simp only [PySem.W.keyToks, PySem.W.keyToksAll, List.cons_append, List.nil_append]
  by_cases h1 : a = c
  · subst h1
    rw [lex_self (O := itemOrd), lex_self (O := itemOrd), lex_self (O := itemOrd)]
    by_cases h2 : b = d
    · subst h2
      rw [lex_self (O := itemOrd), lex_self (O := itemOrd)]
      simp [Wh.ltP, PyProof.Rows.lexLt]
    · rw [lex_diff (O := itemOrd) (by intro z; cases z; exact h2 rfl)]
      simp [Wh.ltP, itemLt]
  · rw [lex_self (O := itemOrd), lex_diff (O := itemOrd) (by intro z; cases z; exact h1 rfl)]
    simp [Wh.ltP, itemLt, h1]
def pyPr (p : Int × Int) : PyData := .tuple [.int p.1, .int p.2]
theorem ltP_of (p q : Int × Int) : Wh.ltP p q = true ↔ (p.1 < q.1 ∨ (p.1 = q.1 ∧ p.2 < q.2)) := by
  simp [Wh.ltP]
theorem ltP_no' (p q : Int × Int) : Wh.ltP p q = false ↔ ¬ (p.1 < q.1 ∨ (p.1 = q.1 ∧ p.2 < q.2)) := by
  rw [← ltP_of, Bool.not_eq_true]
theorem mnP_mem : ∀ {ps : List (Int × Int)}, ps ≠ [] → mnP ps ∈ ps ∧ ∀ q ∈ ps, Wh.ltP q (mnP ps) = false
  | [], h => absurd rfl h
  | [x], _ => ⟨List.mem_cons_self, fun q hq => by
    obtain rfl := List.mem_singleton.mp hq
    rw [ltP_no']
    show ¬ _
    simp [mnP]⟩
  | x :: y :: r, _ => by
    obtain ⟨h1, h2⟩ := mnP_mem (ps := y :: r) (by simp)
    show (if Wh.ltP (mnP (y :: r)) x then mnP (y :: r) else x) ∈ _ ∧ ∀ q ∈ _, Wh.ltP q (if Wh.ltP (mnP (y :: r)) x then mnP (y :: r) else x) = false
    by_cases h : Wh.ltP (mnP (y :: r)) x = true
    · rw [if_pos h]
      refine ⟨List.mem_cons_of_mem _ h1, fun q hq => ?_⟩
      rcases List.mem_cons.mp hq with rfl | hq
      · rw [ltP_of] at h
        rw [ltP_no']
        omega
      · exact h2 q hq
    · rw [if_neg h]
      refine ⟨List.mem_cons_self, fun q hq => ?_⟩
      rcases List.mem_cons.mp hq with rfl | hq
      · rw [ltP_no']; omega
      · have := h2 q hq
        rw [ltP_no'] at this ⊢
        rw [ltP_of] at h
        omega
theorem mnP_one {ps : List (Int × Int)} {p : Int × Int} (hp : p ∈ ps) (h : ∀ q ∈ ps, Wh.ltP q p = false) : p = mnP ps := by
  obtain ⟨h1, h2⟩ := mnP_mem (ps := ps) (fun z => by rw [z] at hp; cases hp)
  have a := h _ h1
  have b := h2 p hp
  rw [ltP_no'] at a b
  exact Prod.ext (by omega) (by omega)
theorem best_pr {ps : List (Int × Int)} : ∀ k, k < ps.length → argBest (fun i j => PySem.W.dataLt ((ps.map pyPr).getD i .none) ((ps.map pyPr).getD j .none)) k ≤ k ∧
    ∀ j, j ≤ k → Wh.ltP (ps.getD j (0, 0)) (ps.getD (argBest (fun i j => PySem.W.dataLt ((ps.map pyPr).getD i .none) ((ps.map pyPr).getD j .none)) k) (0, 0)) = false
  | 0, h => ⟨Nat.le_refl _, fun j hj => by
    obtain rfl : j = 0 := by omega
    rw [ltP_no']
    show ¬ _
    simp [argBest]⟩
  | k + 1, h => by
    obtain ⟨h1, h2⟩ := best_pr (ps := ps) k (by omega)
    have get : ∀ i, i < ps.length → (ps.map pyPr).getD i .none = pyPr (ps.getD i (0, 0)) := fun i hi => by
      rw [List.getD_eq_getElem?_getD, List.getD_eq_getElem?_getD, List.getElem?_map, List.getElem?_eq_getElem hi]
      rfl
    rw [argBest]
    generalize argBest (fun i j => PySem.W.dataLt ((ps.map pyPr).getD i .none) ((ps.map pyPr).getD j .none)) k = b at h1 h2
    rw [get (k + 1) h, get b (by omega)]
    have e : PySem.W.dataLt (pyPr (ps.getD (k + 1) (0, 0))) (pyPr (ps.getD b (0, 0))) = Wh.ltP (ps.getD (k + 1) (0, 0)) (ps.getD b (0, 0)) := dataLt_pr _ _ _ _
    rw [e]
    by_cases hl : Wh.ltP (ps.getD (k + 1) (0, 0)) (ps.getD b (0, 0)) = true
    · rw [if_pos hl]
      refine ⟨Nat.le_refl _, fun j hj => ?_⟩
      rw [ltP_of] at hl
      by_cases hjk : j = k + 1
      · subst hjk; rw [ltP_no']; omega
      · have := h2 j (by omega)
        rw [ltP_no'] at this ⊢
        omega
    · rw [if_neg hl]
      refine ⟨by omega, fun j hj => ?_⟩
      by_cases hjk : j = k + 1
      · subst hjk; exact Bool.eq_false_iff.mpr hl
      · exact h2 j (by omega)
/-- min of a list of pairs of ints -/
def rMinPr (K : PySem.W.Frag) : List V → Hp → VK → Prop := fun vs H Q => ∃ (a : Addr) (xs : List V) (ps : List (Int × Int)), vs = [V.ref a] ∧ SqL K H a xs ∧ DpAll K H xs (ps.map pyPr) ∧ ps ≠ [] ∧ ∀ (i : Nat) (v : V), xs[i]? = some v → ps[i]? = some (mnP ps) → Q v H
theorem cr_minPr {X : Cx} (hc : X.calm = true) (hu : X.A.units + 65 < cLine) : CallR X (.builtin "min") (rMinPr X.K) := by
  intro pins s σ H vs us Q I r h
  obtain ⟨a, xs, ps, rfl, hs, hd, hne, q⟩ := h
  obtain ⟨its, rv, hl, _⟩ := I.list hs
  rw [Vals.ref1 r]
  obtain ⟨as, hr⟩ := Dp.readsAll I _ _ its hd rv
  have hlen : its.length = ps.length := by
    have := PySem.W.readsAll_len hr
    simpa using this
  have hpos : 0 < ps.length := List.length_pos_iff.mpr hne
  have hal : PySem.W.AlikeAll (ps.map pyPr) := ⟨fun x hx y hy => by
    obtain ⟨p, _, rfl⟩ := List.mem_map.mp hx
    obtain ⟨q, _, rfl⟩ := List.mem_map.mp hy
    rfl, fun x hx => by
    obtain ⟨p, _, rfl⟩ := List.mem_map.mp hx
    intro z; cases z⟩
  have hdep : ∀ l : List (Int × Int), PyData.depthAll (l.map pyPr) ≤ 10 := by
    intro l
    induction l with
    | nil => simp [PyData.depthAll]
    | cons p l ih =>
      rw [List.map_cons, PyData.depthAll]
      have : (pyPr p).depth = 1 := by simp [pyPr, PyData.depth, PyData.depthAll]
      omega
  have hdep := hdep ps
  refine call_min_walkH (PySem.W.iter_listW (A := X.A.in1) (I.ok.hd hc) hl.isList fun s₂ e W st hfp hw hk => ?_)
  refine ⟨_, _, _, _, _, _, _, s.heap, _, rfl, W, st, hfp, by simp [hlen]; exact hpos, hw, hk, PySem.W.cmpIn_lt (A := X.A.in1) hr hal (by show X.A.units + 1 + _ < _; omega), fun v s' hP mv => ?_⟩
  obtain ⟨h', tk, rfl, hk'⟩ := PySem.W.moved_old e rfl mv
  have hsz : its.toArray.size - 1 = ps.length - 1 := by rw [List.size_toArray, hlen]
  rw [hsz] at hP
  obtain ⟨b1, b2⟩ := best_pr (ps := ps) (ps.length - 1) (by omega)
  generalize argBest (fun i j => PySem.W.dataLt ((ps.map pyPr).getD i .none) ((ps.map pyPr).getD j .none)) (ps.length - 1) = b at hP b1 b2
  have hP' : its[b]? = some v := by simpa using hP
  have hbl : b < xs.length := by rw [rv.length, hlen]; omega
  obtain ⟨u, hu1, hu2⟩ := rv.get (List.getElem?_eq_getElem hbl)
  rw [hP'] at hu1
  cases hu1
  refine ⟨xs[b], H, I.kept hk', hu2, q b _ (List.getElem?_eq_getElem hbl) ?_⟩
  have hbp : b < ps.length := by omega
  rw [List.getElem?_eq_getElem hbp]
  congr 1
  have gd : ∀ j, ∀ hj : j < ps.length, ps.getD j (0, 0) = ps[j] := fun j hj => by rw [List.getD_eq_getElem?_getD, List.getElem?_eq_getElem hj] <;> rfl
  refine mnP_one (List.getElem_mem hbp) fun q hq => ?_
  obtain ⟨j, hj, rfl⟩ := List.mem_iff_getElem.mp hq
  have := b2 j (by omega)
  rw [gd j hj, gd b hbp] at this
  exact this
theorem asPrs_some : ∀ {xs : List D} {ps : List (Int × Int)}, asPrs xs = some ps → xs = ps.map prD
  | [], ns, h => by
    simp only [asPrs, Option.some.injEq] at h
    rw [← h] <;> rfl
  | x :: xs, ns, h => by
    unfold asPrs at h
    split at h
    · rename_i e; cases e
    · rename_i i j r e
      cases e
      cases e2 : asPrs xs with
      | none => rw [e2] at h; simp at h
      | some q =>
        rw [e2] at h
        simp only [Option.map_some, Option.some.injEq] at h
        subst h
        rw [List.map_cons, asPrs_some e2]
        rfl
    · cases h
theorem cr_min' (hK : X.K = C.K) (hc : X.calm = true) (hu : X.A.units + 65 < cLine) : CallR X (.builtin "min") (rBi C .mn1) := by
  intro pins s σ H xs us Q I r ⟨G, io, m, ds, w, rb, p⟩
  rcases ds with _ | ⟨d, _ | ⟨_, _⟩⟩
  · exact p.elim
  · obtain ⟨v, rfl, rv⟩ := repB1 rb
    cases d <;> first | exact p.elim | skip
    case tup =>
      rename_i xs
      obtain ⟨a, vs, rfl, qa, za, la⟩ := rv
      simp only [biD] at p
      cases e : asInts xs with
      | none => rw [e] at p; exact p.elim
      | some ns =>
        rw [e] at p
        simp only [Option.bind_some] at p
        by_cases hn : ns = []
        · rw [if_pos hn] at p; exact p.elim
        rw [if_neg hn] at p
        obtain rfl := repL_ints e la
        exact cr_minT hc hu pins s σ H _ us Q I r ⟨a, ns, rfl, by rw [hK]; exact w.sqT qa, hn, post_here p w rfl rfl⟩
    rename_i xs
    obtain ⟨a, vs, rfl, qa, za, la⟩ := rv
    simp only [biD] at p
    cases e : asInts xs with
    | none =>
      rw [e] at p
      simp only at p
      cases e2 : asPrs xs with
      | none => rw [e2] at p; exact p.elim
      | some ps =>
        rw [e2] at p
        simp only [Option.bind_some] at p
        by_cases hn : ps = []
        · rw [if_pos hn] at p; exact p.elim
        rw [if_neg hn] at p
        obtain rfl := asPrs_some e2
        have tp : ∀ (ps : List (Int × Int)), toPs 59 (ps.map prD) = some (ps.map pyPr) := by
          intro ps
          induction ps with
          | nil => rfl
          | cons q ps ih =>
            rw [List.map_cons, toPs, ih]
            rfl
        refine cr_minPr hc hu pins s σ H _ us Q I r ⟨a, vs, ps, rfl, .inl qa, by rw [hK]; exact toPs_dp w 59 _ _ vs (tp ps) la, hn, fun i v hv hp => ?_⟩
        obtain ⟨d, hd, rd⟩ := la.get' hv
        rw [List.getElem?_map, hp] at hd
        cases hd
        exact post_here p w rfl rd
    | some ns =>
      rw [e] at p
      simp only at p
      by_cases hn : ns = []
      · rw [if_pos hn] at p; exact p.elim
      rw [if_neg hn] at p
      obtain rfl := repL_ints e la
      exact cr_min hc pins s σ H _ us Q I r ⟨a, ns, rfl, .inl qa, List.length_pos_iff.mpr hn, fun k h1 h2 => by rw [mnI_ok hn h1 h2]; exact post_here p w rfl rfl⟩
  · cases d <;> exact p.elim
theorem cr_mx2 (hc : X.calm = true) : CallR X (.builtin "max") (rBi C .mx2) := by
  intro pins s σ H xs us Q I r ⟨G, io, m, ds, w, rb, p⟩
  rcases ds with _ | ⟨d, _ | ⟨e, _ | ⟨_, _⟩⟩⟩
  · exact p.elim
  · cases d <;> exact p.elim
  · obtain ⟨v, u, rfl, rv, ru⟩ := repB2 rb
    cases d <;> cases e <;> first | exact p.elim | skip
    obtain rfl := rv
    obtain rfl := ru
    exact call_max2 hc pins s σ H _ us Q I r ⟨_, _, rfl, post_here p w rfl rfl⟩
  · cases d <;> cases e <;> exact p.elim
theorem cr_mn2 (hc : X.calm = true) : CallR X (.builtin "min") (rBi C .mn2) := by
  intro pins s σ H xs us Q I r ⟨G, io, m, ds, w, rb, p⟩
  rcases ds with _ | ⟨d, _ | ⟨e, _ | ⟨_, _⟩⟩⟩
  · exact p.elim
  · cases d <;> exact p.elim
  · obtain ⟨v, u, rfl, rv, ru⟩ := repB2 rb
    cases d <;> cases e <;> first | exact p.elim | skip
    obtain rfl := rv
    obtain rfl := ru
    exact call_min2 hc pins s σ H _ us Q I r ⟨_, _, rfl, post_here p w rfl rfl⟩
  · cases d <;> cases e <;> exact p.elim
theorem cr_all' (hc : X.calm = true) : CallR X (.builtin "all") (rBi C .all) := by
  intro pins s σ H xs us Q I r ⟨G, io, m, ds, w, rb, p⟩
  rcases ds with _ | ⟨d, _ | ⟨_, _⟩⟩
  · exact p.elim
  · obtain ⟨v, rfl, rv⟩ := repB1 rb
    cases d <;> first | exact p.elim | skip
    rename_i xs
    obtain ⟨a, vs, rfl, qa, za, la⟩ := rv
    simp only [biD] at p
    cases e : asBls xs with
    | none => rw [e] at p; exact p.elim
    | some ns =>
      rw [e] at p
      obtain rfl := repL_bls e la
      exact cr_all hc pins s σ H _ us Q I r ⟨a, ns, rfl, .inl qa, post_here p w rfl rfl⟩
  · cases d <;> exact p.elim
theorem cr_any' (hc : X.calm = true) : CallR X (.builtin "any") (rBi C .any) := by
  intro pins s σ H xs us Q I r ⟨G, io, m, ds, w, rb, p⟩
  rcases ds with _ | ⟨d, _ | ⟨_, _⟩⟩
  · exact p.elim
  · obtain ⟨v, rfl, rv⟩ := repB1 rb
    cases d <;> first | exact p.elim | skip
    rename_i xs
    obtain ⟨a, vs, rfl, qa, za, la⟩ := rv
    simp only [biD] at p
    cases e : asBls xs with
    | none => rw [e] at p; exact p.elim
    | some ns =>
      rw [e] at p
      obtain rfl := repL_bls e la
      exact cr_any hc pins s σ H _ us Q I r ⟨a, ns, rfl, .inl qa, post_here p w rfl rfl⟩
  · cases d <;> exact p.elim
theorem cr_list' (hK : X.K = C.K) (hc : X.calm = true) : CallR X (.type "list") (rBi C .list) := by
  intro pins s σ H xs us Q I r ⟨G, io, m, ds, w, rb, p⟩
  rcases ds with _ | ⟨d, _ | ⟨_, _⟩⟩
  · exact p.elim
  · obtain ⟨v, rfl, rv⟩ := repB1 rb
    cases d <;> first | exact p.elim | skip
    · obtain ⟨a, vs, rfl, qa, za, la⟩ := rv
      exact call_list_of pins s σ H _ us Q I r ⟨a, vs, rfl, .inr (by rw [hK]; exact w.sqT qa), fun l hl => post_new (u := .lst vs) p w rfl ⟨za, la⟩ hl⟩
    · obtain ⟨a, vs, rfl, qa, za, la⟩ := rv
      exact call_list_of pins s σ H _ us Q I r ⟨a, vs, rfl, .inl (.inl qa), fun l hl => post_new (u := .lst vs) p w rfl ⟨za, la⟩ hl⟩
    · obtain ⟨a, kvs, rfl, qa, za, la⟩ := rv
      refine call_listD hc pins s σ H _ us Q I r ⟨a, kvs, rfl, qa, fun l hl => post_new (u := .lst (kvs.map fun kv => kV kv.1)) p w rfl ⟨by rw [List.length_map]; exact za, ?_⟩ hl⟩
      rename_i ks
      have go : ∀ {ks : List (Key × D)} {kvs : List (Key × V)}, RepK C G io ks kvs → RepL C G io (ks.map fun kv => keyD kv.1) (kvs.map fun kv => kV kv.1) := by
        intro ks
        induction ks with
        | nil => intro kvs h; obtain rfl : kvs = [] := h; rfl
        | cons q ks ih =>
          intro kvs h
          obtain ⟨v, r, rfl, q2, t⟩ := h
          refine ⟨kV q.1, _, rfl, ?_, ih t⟩
          obtain ⟨k, d⟩ := q
          cases k <;> rfl
      exact go la
  · cases d <;> exact p.elim
theorem cr_tup' (hK : X.K = C.K) : CallR X (.type "tuple") (rBi C .tup) := by
  intro pins s σ H xs us Q I r ⟨G, io, m, ds, w, rb, p⟩
  rcases ds with _ | ⟨d, _ | ⟨_, _⟩⟩
  · exact p.elim
  · obtain ⟨v, rfl, rv⟩ := repB1 rb
    cases d <;> first | exact p.elim | skip
    · obtain ⟨a, vs, rfl, qa, za, la⟩ := rv
      exact call_tuple_of pins s σ H _ us Q I r ⟨a, vs, rfl, .inr ⟨by rw [hK]; exact w.sqT qa, post_here p w rfl ⟨a, vs, rfl, qa, za, la⟩⟩⟩
    · obtain ⟨a, vs, rfl, qa, za, la⟩ := rv
      exact call_tuple_of pins s σ H _ us Q I r ⟨a, vs, rfl, .inl ⟨.inl qa, fun l hl => post_tup p w za la hl⟩⟩
  · cases d <;> exact p.elim
theorem cr_int' : CallR X (.type "int") (rBi C .int) := by
  intro pins s σ H xs us Q I r ⟨G, io, m, ds, w, rb, p⟩
  rcases ds with _ | ⟨d, _ | ⟨_, _⟩⟩
  · exact p.elim
  · obtain ⟨v, rfl, rv⟩ := repB1 rb
    cases d <;> first | exact p.elim | skip
    · obtain rfl := rv
      exact call_int1 pins s σ H _ us Q I r (.inr ⟨_, rfl, post_here p w rfl rfl⟩)
    · obtain rfl := rv
      exact call_int1 pins s σ H _ us Q I r (.inl ⟨_, rfl, post_here p w rfl rfl⟩)
    · rename_i z
      obtain rfl := rv
      by_cases hz : z.length ≤ 640
      · simp only [biD, if_pos hz] at p
        cases e : PySem.intText? z with
        | none => rw [e] at p; exact p.elim
        | some n =>
          rw [e] at p
          exact call_int_str pins s σ H _ us Q I r ⟨_, _, rfl, e, hz, post_here p w rfl rfl⟩
      · simp only [biD, if_neg hz] at p; exact p.elim
  · cases d <;> exact p.elim
theorem cr_str' : CallR X (.type "str") (rBi C .str) := by
  intro pins s σ H xs us Q I r ⟨G, io, m, ds, w, rb, p⟩
  rcases ds with _ | ⟨d, _ | ⟨_, _⟩⟩
  · exact p.elim
  · obtain ⟨v, rfl, rv⟩ := repB1 rb
    cases d <;> first | exact p.elim | skip
    · rename_i i
      obtain rfl := rv
      by_cases hz : i.natAbs < 2 ^ 100
      · simp only [biD, if_pos hz] at p
        have hl : i.natAbs.log2 < 1920 := by
          by_cases h0 : i.natAbs = 0
          · rw [h0]; decide
          · have := (Nat.log2_lt h0 (k := 100)).mpr hz
            omega
        exact call_str_int pins s σ H _ us Q I r ⟨_, rfl, hl, post_here p w rfl rfl⟩
      · simp only [biD, if_neg hz] at p; exact p.elim
    · obtain rfl := rv
      exact SkE.call_str_str pins s σ H _ us Q I r ⟨_, rfl, post_here p w rfl rfl⟩
  · cases d <;> exact p.elim
theorem cr_divmod' : CallR X (.builtin "divmod") (rBi C .divmod) := by
  intro pins s σ H xs us Q I r ⟨G, io, m, ds, w, rb, p⟩
  rcases ds with _ | ⟨d, _ | ⟨e, _ | ⟨_, _⟩⟩⟩
  · exact p.elim
  · cases d <;> exact p.elim
  · obtain ⟨v, u, rfl, rv, ru⟩ := repB2 rb
    cases d <;> cases e <;> first | exact p.elim | skip
    rename_i i j
    obtain rfl := rv
    obtain rfl := ru
    by_cases hz : 0 < j ∧ j < 1073741824
    · simp only [biD, if_pos hz] at p
      exact call_divmod pins s σ H _ us Q I r ⟨_, _, rfl, hz, fun q hq => post_tup p w (by show 2 ≤ sizeLine; decide) ⟨_, _, rfl, rfl, _, _, rfl, rfl, rfl⟩ hq⟩
    · simp only [biD, if_neg hz] at p; exact p.elim
  · cases d <;> cases e <;> exact p.elim
end
end Wh
/-! sorted, dict. -/
namespace Wh
open PySem L2 PySem.Spec PyProof.Rows
section
variable {C : Wd} {X : Cx}
/-- sorted(xs), pairs of ints -/
def rSortPr (K : PySem.W.Frag) : List V → Hp → VK → Prop := fun vs H Q => ∃ (a : Addr) (xs : List V) (k : V → Int × Int), vs = [V.ref a] ∧ SqL K H a xs ∧ (∀ x ∈ xs, ∃ t, x = V.ref t ∧ SqT K H t [.int (k x).1, .int (k x).2]) ∧
  ∀ ys p, SrtO.Srtd (L2.ltP k) ys → ys.Perm xs → H p = none → Q (.ref p) (upd H p (.lst ys))
theorem cr_sortPr : CallR X (.builtin "sorted") (rSortPr X.K) := by
  intro pins s σ H vs us Q I r h
  obtain ⟨a, xs, k, rfl, hs, hx, q⟩ := h
  obtain ⟨its, rv, hl, hz⟩ := I.list hs
  obtain ⟨u, rfl, ru⟩ := vals1 r
  obtain rfl : u = Value.ref a := ru
  obtain ⟨e1, e2⟩ := refs_back rv fun x m => by
    obtain ⟨t, e, _⟩ := hx x m
    exact ⟨t, e⟩
  refine SrtO.sorted_pairsO (k := fun u => k (backV u)) hl.isList (by rw [← rv.length]; exact hz) (fun v hv => ?_) fun h' d out h1 h2 kp hd hn => ?_
  · obtain ⟨t, rfl⟩ := e2 v hv
    have hm : V.ref t ∈ xs := by rw [e1]; exact List.mem_map.mpr ⟨_, hv, rfl⟩
    obtain ⟨t', e, ht⟩ := hx _ hm
    cases e
    obtain ⟨its2, r2, ⟨o, ho, hc, n, hd⟩, _⟩ := I.tuple ht
    obtain ⟨u1, u2, rfl, ri, rj⟩ := vals2 r2
    obtain ⟨t1, rfl⟩ := ri
    obtain ⟨t2, rfl⟩ := rj
    exact ⟨t, o, t1, t2, n, rfl, ho, hc, hd⟩
  · have h3 : ∀ u ∈ out, ∃ a, u = Value.ref a := fun u hu => e2 u (h2.perm.mem_iff.mp hu)
    obtain ⟨n, hn⟩ := hn
    have hb : SrtO.Stb (L2.ltP k) (out.map backV) xs := by
      rw [e1]
      exact SrtO.Stb.map (ltP_swo k) backV h2
    refine ⟨.ref d, upd H d (.lst (out.map backV)), I.laid (t' := s.toks) kp hd ⟨?_, out, n, vals_back h3, hn⟩, rfl, q _ d (SrtO.srtd_map h1) hb.perm (I.hok.fresh hd)⟩
    rw [hb.len]
    exact hz
/-- which pair a value is -/
theorem prs_keys {H G : Hp} {io : List Addr} {m : Mu} (w : WRel C H G io m) {ps : List (Int × Int)} {vs : List V} (h : RepL C G io (ps.map prD) vs) :
    (∀ x ∈ vs, ∃ (p : Int × Int) (t : Addr), x = V.ref t ∧ SqT C.K G t [.int p.1, .int p.2]) := by
  induction ps generalizing vs with
  | nil =>
    obtain rfl : vs = [] := h
    intro x hx; cases hx
  | cons p ps ih =>
    obtain ⟨v, r, rfl, q, t⟩ := h
    intro x hx
    rcases List.mem_cons.mp hx with rfl | hx
    · obtain ⟨a, us, rfl, qa, _, l⟩ := q
      obtain ⟨v1, r1, rfl, h1, v2, r2, rfl, h2, rfl⟩ := l
      have h1 : v1 = .int p.1 := h1
      have h2 : v2 = .int p.2 := h2
      subst h1 h2
      exact ⟨p, a, rfl, qa⟩
    · exact ih t x hx
open Classical in
noncomputable def keyV (K : PySem.W.Frag) (G : Hp) (x : V) : Int × Int := if h : ∃ (p : Int × Int) (t : Addr), x = V.ref t ∧ SqT K G t [.int p.1, .int p.2] then h.choose else (0, 0)
theorem keyV_ok {K : PySem.W.Frag} {G : Hp} {x : V} (h : ∃ (p : Int × Int) (t : Addr), x = V.ref t ∧ SqT K G t [.int p.1, .int p.2]) : ∃ t, x = V.ref t ∧ SqT K G t [.int (keyV K G x).1, .int (keyV K G x).2] := by
  unfold keyV
  rw [dif_pos h]
  exact h.choose_spec
theorem repL_of_mem {G : Hp} {io : List Addr} {f : V → D} : ∀ {vs : List V}, (∀ v ∈ vs, Rep C G io (f v) v) → RepL C G io (vs.map f) vs
  | [], _ => rfl
  | v :: vs, h => ⟨v, vs, rfl, h v List.mem_cons_self, repL_of_mem fun u hu => h u (List.mem_cons_of_mem _ hu)⟩
theorem srtd_pairs {k : V → Int × Int} : ∀ {ys : List V}, SrtO.Srtd (L2.ltP k) ys → SortedB Wh.ltP (ys.map k) := by
  intro ys h
  have e : ∀ a b : Int × Int, SrtO.lexB a b = Wh.ltP a b := fun a b => by
    rw [Bool.eq_iff_iff, SrtO.lexB_iff, ltP_iff]
  have h' : ys.Pairwise fun x y => SrtO.lexB (k y) (k x) = false := h
  unfold SortedB
  rw [List.pairwise_map]
  exact h'.imp fun {a b} q => by rw [← e]; exact q
theorem post_sorted {H G : Hp} {io : List Addr} {m : Mu} {Q : VK} {xs ys : List D} {vs : List V} {a : Addr} {W : WX} {σ : L2.St} (p : Post C W σ H G io (RepN C H) (up (some (D.lst ys)) m) Q) (w : WRel C H G io m) (hz : vs.length ≤ sizeLine) (r : RepL C G io ys vs) (ha : H a = none) : Q (.ref a) (upd H a (.lst vs)) :=
  post_new (u := .lst vs) (show Post C W σ H G io (RepN C H) (.ok (D.lst ys) m) Q from p) w rfl ⟨hz, r⟩ ha
theorem repL_int {G : Hp} {io : List Addr} : ∀ (ns : List Int), RepL C G io (ns.map .int) (ns.map V.int)
  | [] => rfl
  | n :: ns => ⟨_, _, rfl, rfl, repL_int ns⟩
theorem repL_str {G : Hp} {io : List Addr} : ∀ (ns : List Str), RepL C G io (ns.map .str) (ns.map V.str)
  | [] => rfl
  | n :: ns => ⟨_, _, rfl, rfl, repL_str ns⟩
theorem keys_int : ∀ {ks : List (Key × D)} {ns : List Int}, (ks.map fun kv => keyD kv.1) = ns.map .int → ks.map (·.1) = ns.map Sum.inl
  | [], [], _ => rfl
  | [], _ :: _, h => by simp at h
  | _ :: _, [], h => by simp at h
  | (k, d) :: ks, n :: ns, h => by
    simp only [List.map_cons, List.cons.injEq] at h
    rw [List.map_cons, List.map_cons, keys_int h.2]
    congr 1
    cases k with
    | inl i => have := h.1; simp only [keyD, D.int.injEq] at this; rw [this]
    | inr s => have := h.1; simp [keyD] at this
theorem keys_str : ∀ {ks : List (Key × D)} {ns : List Str}, (ks.map fun kv => keyD kv.1) = ns.map .str → ks.map (·.1) = ns.map Sum.inr
  | [], [], _ => rfl
  | [], _ :: _, h => by simp at h
  | _ :: _, [], h => by simp at h
  | (k, d) :: ks, n :: ns, h => by
    simp only [List.map_cons, List.cons.injEq] at h
    rw [List.map_cons, List.map_cons, keys_str h.2]
    congr 1
    cases k with
    | inl i => have := h.1; simp [keyD] at this
    | inr s => have := h.1; simp only [keyD, D.str.injEq] at this; rw [this]
theorem cr_sorted' (hK : X.K = C.K) (hc : X.calm = true) : CallR X (.builtin "sorted") (rBi C .sorted) := by
  intro pins s σ H xs us Q I r ⟨G, io, m, ds, w, rb, p⟩
  rcases ds with _ | ⟨d, _ | ⟨_, _⟩⟩
  · exact p.elim
  · obtain ⟨v, rfl, rv⟩ := repB1 rb
    cases d <;> first | exact p.elim | skip
    · rename_i xs
      obtain ⟨a, vs, rfl, qa, za, la⟩ := rv
      simp only [biD, sortD] at p
      cases e : asInts xs with
      | some ns =>
        rw [e] at p
        obtain rfl := repL_ints e la
        refine cr_sortedI pins s σ H _ us Q I r ⟨a, ns, rfl, .inl qa, fun ns' q h1 h2 hq => ?_⟩
        rw [sortBy_one ord_I h1 (sortedI_ok h2)]
        exact post_sorted (xs := xs) p w (by rw [List.length_map, (sortBy_perm ns).length_eq]; simpa using za) (repL_int _) hq
      | none =>
        rw [e] at p
        simp only at p
        cases e2 : asStrs xs with
        | some ss =>
          rw [e2] at p
          simp only at p
          by_cases h64 : ss.length < 64
          · rw [if_pos h64] at p
            obtain rfl := repL_strs e2 la
            refine cr_sortedS pins s σ H _ us Q I r ⟨a, ss, rfl, .inl qa, h64, fun ys q h1 h2 hq => ?_⟩
            rw [sortBy_one ord_S h1 (sortedS_ok h2)]
            exact post_sorted (xs := xs) p w (by rw [List.length_map, (sortBy_perm ss).length_eq]; simpa using za) (repL_str _) hq
          · rw [if_neg h64] at p; exact p.elim
        | none =>
          rw [e2] at p
          simp only at p
          cases e3 : asPrs xs with
          | some ps =>
            rw [e3] at p
            obtain rfl := asPrs_some e3
            have hk := prs_keys w la
            refine cr_sortPr pins s σ H _ us Q I r ⟨a, vs, keyV C.K G, rfl, .inl qa, fun x hx => ?_, fun ys q h1 h2 hq => ?_⟩
            · obtain ⟨t, e1, e2⟩ := keyV_ok (hk x hx)
              exact ⟨t, e1, by rw [hK]; exact w.sqT e2⟩
            · have mem : ∀ y ∈ ys, Rep C G io (prD (keyV C.K G y)) y := fun y hy => by
                obtain ⟨t, e1, e2⟩ := keyV_ok (hk y (h2.mem_iff.mp hy))
                exact ⟨t, _, e1, e2, by show 2 ≤ sizeLine; decide, _, _, rfl, rfl, _, _, rfl, rfl, rfl⟩
              have ek : vs.map (keyV C.K G) = ps := by
                have inj : ∀ {t : Addr} {p q : Int × Int}, SqT C.K G t [.int p.1, .int p.2] → SqT C.K G t [.int q.1, .int q.2] → p = q := fun {t p q} h1 h2 => by
                  have := I.tuple_inj (by rw [hK]; exact w.sqT h1) (by rw [hK]; exact w.sqT h2)
                  simp only [List.cons.injEq, V.int.injEq, and_true] at this
                  exact Prod.ext this.1 this.2
                have go : ∀ (ps : List (Int × Int)) (vs : List V), RepL C G io (ps.map prD) vs → vs.map (keyV C.K G) = ps := by
                  intro ps
                  induction ps with
                  | nil => intro vs h; obtain rfl : vs = [] := h; rfl
                  | cons p ps ih =>
                    intro vs h
                    obtain ⟨v, r, rfl, q, t⟩ := h
                    rw [List.map_cons, ih r t]
                    congr 1
                    obtain ⟨b, us, rfl, qa, _, l⟩ := q
                    obtain ⟨v1, r1, rfl, h1, v2, r2, rfl, h2, rfl⟩ := l
                    have h1 : v1 = .int p.1 := h1
                    have h2 : v2 = .int p.2 := h2
                    subst h1 h2
                    obtain ⟨t', e1, e2⟩ := keyV_ok (K := C.K) (G := G) ⟨p, b, rfl, qa⟩
                    cases e1
                    exact inj e2 qa
                exact go ps vs la
              have es : ys.map (keyV C.K G) = sortBy Wh.ltP ps := by
                rw [← ek]
                exact sortBy_one ord_P (h2.map _) (srtd_pairs h1)
              refine post_sorted (xs := ps.map prD) p w (by rw [h2.length_eq]; exact za) ?_ hq
              rw [← es, List.map_map]
              exact repL_of_mem mem
          | none =>
            rw [e3] at p
            exact p.elim
    · rename_i ks
      obtain ⟨a, kvs, rfl, qa, za, la⟩ := rv
      simp only [biD] at p
      by_cases h64 : ks.length < 64
      · rw [if_pos h64] at p
        have hkeys := la.keys
        simp only [sortD] at p
        cases e : asInts (ks.map fun kv => keyD kv.1) with
        | some ns =>
          rw [e] at p
          have hk : kvs.map (·.1) = ns.map Sum.inl := by
            rw [hkeys]
            exact keys_int (asInts_some e)
          have hl : ns.length = ks.length := by
            have := congrArg List.length (asInts_some e)
            simpa using this.symm
          refine call_sortedDI hc pins s σ H _ us Q I r ⟨a, kvs, ns, rfl, qa, hk, by omega, fun ys q h1 h2 hq => ?_⟩
          rw [sortBy_one ord_I h1 (sortedI_ok h2)]
          exact post_sorted (xs := []) p w (by rw [List.length_map, (sortBy_perm ns).length_eq, sizeLine_eq]; omega) (repL_int _) hq
        | none =>
          rw [e] at p
          simp only at p
          cases e2 : asStrs (ks.map fun kv => keyD kv.1) with
          | some ss =>
            rw [e2] at p
            simp only at p
            have hl : ss.length = ks.length := by
              have := congrArg List.length (asStrs_some e2)
              simpa using this.symm
            rw [if_pos (by omega)] at p
            have hk : kvs.map (·.1) = ss.map Sum.inr := by
              rw [hkeys]
              exact keys_str (asStrs_some e2)
            refine call_sortedD hc pins s σ H _ us Q I r ⟨a, kvs, ss, rfl, qa, hk, by omega, fun ys q h1 h2 hq => ?_⟩
            rw [sortBy_one ord_S h1 (sortedS_ok h2)]
            exact post_sorted (xs := []) p w (by rw [List.length_map, (sortBy_perm ss).length_eq, sizeLine_eq]; omega) (repL_str _) hq
          | none =>
            rw [e2] at p
            simp only at p
            cases e3 : asPrs (ks.map fun kv => keyD kv.1) with
            | none => rw [e3] at p; exact p.elim
            | some ps =>
              -- keys are no pairs
              have := asPrs_some e3
              cases ks with
              | nil => simp [asInts] at e
              | cons q ks =>
                cases ps with
                | nil => simp at this
                | cons p0 ps =>
                  obtain ⟨k, d⟩ := q
                  simp only [List.map_cons, List.cons.injEq] at this
                  cases k <;> simp [keyD, prD] at this
      · rw [if_neg h64] at p; exact p.elim
  · cases d <;> exact p.elim
/-! ### dict(..) -/
theorem asKvs_rep {G : Hp} {io : List Addr} : ∀ {xs : List D} {ks : List (Key × D)} {vs : List V}, asKvs xs = some ks → RepL C G io xs vs →
    ∃ (ps : List Addr) (kvs : List (Key × V)), vs = ps.map V.ref ∧ Paired (fun p kv => SqT C.K G p [kV kv.1, kv.2]) ps kvs ∧ RepK C G io ks kvs
  | [], ks, vs, h, r => by
    simp only [asKvs, Option.some.injEq] at h
    subst h
    obtain rfl : vs = [] := r
    exact ⟨[], [], rfl, .nil, rfl⟩
  | x :: xs, ks, vs, h, r => by
    unfold asKvs at h
    split at h
    · rename_i e; cases e
    · rename_i kd d rest e
      cases e
      obtain ⟨k, e1, h⟩ := Option.bind_eq_some_iff.mp h
      obtain ⟨ks', e2, rfl⟩ := Option.map_eq_some_iff.mp h
      obtain ⟨v, vr, rfl, q, t⟩ := r
      obtain ⟨ps, kvs, rfl, hp, hk⟩ := asKvs_rep e2 t
      obtain ⟨a, us, rfl, qa, _, l⟩ := q
      obtain ⟨v1, r1, rfl, h1, v2, r2, rfl, h2, rfl⟩ := l
      have h1' : v1 = kV k := by
        cases kd <;> simp only [keyOf, reduceCtorEq, Option.some.injEq] at e1
        all_goals (subst e1; exact h1)
      subst h1'
      exact ⟨a :: ps, (k, v2) :: kvs, rfl, .cons qa hp, v2, kvs, rfl, h2, hk⟩
    · cases h
theorem RepK.merge {G : Hp} {io : List Addr} : ∀ {ks : List (Key × D)} {kvs : List (Key × V)} {as : List (Key × D)} {bs : List (Key × V)}, RepK C G io ks kvs → RepK C G io as bs →
    RepK C G io (ks.foldl (fun acc kv => setK acc kv.1 kv.2) as) (mergeK bs kvs)
  | [], kvs, as, bs, h, k => by
    obtain rfl : kvs = [] := h
    exact k
  | (j, d) :: ks, kvs, as, bs, h, k => by
    obtain ⟨v, r, rfl, q, t⟩ := h
    exact RepK.merge (ks := ks) (kvs := r) (as := setK as j d) (bs := putK bs j v) t (RepK.put j q k)
theorem mergeK_len : ∀ (kvs bs : List (Key × V)), (mergeK bs kvs).length ≤ bs.length + kvs.length
  | [], bs => Nat.le_refl _
  | (j, v) :: kvs, bs => by
    have h1 := mergeK_len kvs (putK bs j v)
    have h2 : (putK bs j v).length ≤ bs.length + 1 := by
      unfold putK
      split
      · rw [List.length_map]; omega
      · rw [List.length_append]; simp
    show (mergeK (putK bs j v) kvs).length ≤ _
    rw [List.length_cons]
    omega
theorem paired_sqT {H G : Hp} {io : List Addr} {m : Mu} (w : WRel C H G io m) {ps : List Addr} {kvs : List (Key × V)} (h : Paired (fun p kv => SqT C.K G p [kV kv.1, kv.2]) ps kvs) : Paired (fun p kv => SqT C.K H p [kV kv.1, kv.2]) ps kvs := by
  induction h with
  | nil => exact .nil
  | cons a _ ih => exact .cons (w.sqT a) ih
theorem cr_dict' (hK : X.K = C.K) (hc : X.calm = true) : CallR X (.type "dict") (rBi C .dict) := by
  intro pins s σ H xs us Q I r ⟨G, io, m, ds, w, rb, p⟩
  rcases ds with _ | ⟨d, _ | ⟨_, _⟩⟩
  · exact p.elim
  · obtain ⟨v, rfl, rv⟩ := repB1 rb
    cases d <;> first | exact p.elim | skip
    · rename_i xs
      obtain ⟨a, vs, rfl, qa, za, la⟩ := rv
      simp only [biD] at p
      cases e : asKvs xs with
      | none => rw [e] at p; exact p.elim
      | some ks =>
        rw [e] at p
        obtain ⟨ps, kvs, rfl, hp, hk⟩ := asKvs_rep e la
        have hl : kvs.length = ps.length := hp.length.symm
        refine call_dictP hc pins s σ H _ us Q I r ⟨a, ps, kvs, rfl, .inl qa, by rw [hK]; exact paired_sqT w hp, fun q hq => post_new (u := .dK (mergeK [] kvs)) (d := .dic (ks.foldl (fun acc kv => setK acc kv.1 kv.2) [])) p w rfl ⟨?_, RepK.merge (as := []) (bs := []) hk (show ([] : List (Key × V)) = [] from rfl)⟩ hq⟩
        have := mergeK_len kvs []
        simp only [List.length_map] at za
        simp only [List.length_nil] at this
        omega
    · obtain ⟨a, kvs, rfl, qa, za, la⟩ := rv
      exact call_dictD pins s σ H _ us Q I r ⟨a, kvs, rfl, qa, fun q hq => post_new (u := .dK kvs) p w rfl ⟨za, la⟩ hq⟩
  · cases d <;> exact p.elim
end
end Wh
/-! Calls of builtins by name. -/
namespace Wh
open PySem L2 PySem.Spec PyProof.Rows
section
variable {C : Wd} {F : Fn} {X : Cx} {c : Cc}
/-- the call of a builtin, by its rule -/
theorem hn_biB (h : CcX c C F X) {x id : String} {b : Bi} {es : List Expr} {xs : List E} {p pos : Pos} (hc : CallR X (.builtin id) (rBi C b)) (hg : isGl c (S x) = true) (hx : x ∈ bltNames) (hv : bootBuiltins (S x) = some (.builtin id))
    (hne : es ≠ []) (ha : HAo C F X es xs) (hs : ∀ es', ∀ e ∈ es, starEach (e :: es') X.env = (false, eval e X.env) :: starEach es' X.env) : HN C F X (.Call (.Name (S x) p) es [] pos) (.bi b xs) := fun r W tk => by
  obtain ⟨g1, g2, g3⟩ := h.gl hg
  cases es with
  | nil => exact absurd rfl hne
  | cons e es =>
    refine pe_mono (pe_callB hc g1 (h.glb.blt x hx) hv (ha r W tk) g3 g2 (hs es e List.mem_cons_self) (any_star es pos X.env fun es' e' he' => hs es' e' (List.mem_cons_of_mem _ he'))) fun σ H Q ⟨G, io, m, w, sr, p⟩ => ?_
    rw [ev] at p
    refine ⟨G, io, m, w, sr, (p.seq Mo.repN sr).mono ?_⟩
    rintro vs H1 ⟨G1, io1, m1, ds, s1, w1, sr1, rds, e1, p1⟩
    exact ⟨G1, io1, m1, _, w1, rds.look w1, p1.up'⟩
theorem hn_biT (h : CcX c C F X) {x id : String} {b : Bi} {es : List Expr} {xs : List E} {p pos : Pos} (hc : CallR X (.type id) (rBi C b)) (hg : isGl c (S x) = true) (hx : x ∈ bltNames) (hv : bootBuiltins (S x) = some (.type id))
    (hne : es ≠ []) (ha : HAo C F X es xs) (hs : ∀ es', ∀ e ∈ es, starEach (e :: es') X.env = (false, eval e X.env) :: starEach es' X.env) : HN C F X (.Call (.Name (S x) p) es [] pos) (.bi b xs) := fun r W tk => by
  obtain ⟨g1, g2, g3⟩ := h.gl hg
  cases es with
  | nil => exact absurd rfl hne
  | cons e es =>
    refine pe_mono (pe_callTy hc g1 (h.glb.blt x hx) hv (ha r W tk) g3 g2 (hs es e List.mem_cons_self) (any_star es pos X.env fun es' e' he' => hs es' e' (List.mem_cons_of_mem _ he'))) fun σ H Q ⟨G, io, m, w, sr, p⟩ => ?_
    rw [ev] at p
    refine ⟨G, io, m, w, sr, (p.seq Mo.repN sr).mono ?_⟩
    rintro vs H1 ⟨G1, io1, m1, ds, s1, w1, sr1, rds, e1, p1⟩
    exact ⟨G1, io1, m1, _, w1, rds.look w1, p1.up'⟩
theorem boots : bootBuiltins (S "len") = some (.builtin "len") ∧ bootBuiltins (S "sum") = some (.builtin "sum") ∧ bootBuiltins (S "max") = some (.builtin "max") ∧ bootBuiltins (S "min") = some (.builtin "min") ∧
    bootBuiltins (S "all") = some (.builtin "all") ∧ bootBuiltins (S "any") = some (.builtin "any") ∧ bootBuiltins (S "sorted") = some (.builtin "sorted") ∧ bootBuiltins (S "divmod") = some (.builtin "divmod") ∧ bootBuiltins (S "isinstance") = some (.builtin "isinstance") := by decide +kernel
theorem bootsT : bootBuiltins (S "list") = some (.type "list") ∧ bootBuiltins (S "tuple") = some (.type "tuple") ∧ bootBuiltins (S "dict") = some (.type "dict") ∧ bootBuiltins (S "int") = some (.type "int") ∧ bootBuiltins (S "str") = some (.type "str") ∧ bootBuiltins (S "bool") = some (.type "bool") := by decide +kernel
theorem hn_bi (h : CcX c C F X) (hot : c.hot = false) {x : Str} {b : Bi} {es : List Expr} {xs : List E} {p pos : Pos} (hb : biOf x es.length = some b) (hg : isGl c x = true) (ha : HAo C F X es xs)
    (hs : ∀ es', ∀ e ∈ es, starEach (e :: es') X.env = (false, eval e X.env) :: starEach es' X.env) : HN C F X (.Call (.Name x p) es [] pos) (.bi b xs) := by
  unfold biOf at hb
  obtain ⟨q, hf, rfl⟩ := Option.map_eq_some_iff.mp hb
  have hm := List.mem_of_find?_eq_some hf
  have hp := List.find?_some hf
  simp only [Bool.and_eq_true, decide_eq_true_eq, beq_iff_eq] at hp
  obtain ⟨rfl, hl⟩ := hp
  have hK := h.glb.K
  have hcm := h.glb.calm hot
  have ne : ∀ n, n ≠ 0 → n = es.length → es ≠ [] := fun n h0 e z => by subst z; exact h0 e
  obtain ⟨b1, b2, b3, b4, b5, b6, b7, b8, b9⟩ := boots
  obtain ⟨t1, t2, t3, t4, t5, t6⟩ := bootsT
  simp only [biNames, List.mem_cons, List.not_mem_nil, or_false] at hm
  rcases hm with rfl | rfl | rfl | rfl | rfl | rfl | rfl | rfl | rfl | rfl | rfl | rfl | rfl | rfl | rfl
  · exact hn_biB h (cr_len hK) hg (by decide) b1 (ne 1 (by decide) hl) ha hs
  · exact hn_biB h (cr_sum' hK hcm) hg (by decide) b2 (ne 1 (by decide) hl) ha hs
  · exact hn_biB h (cr_max' hK hcm h.glb.units) hg (by decide) b3 (ne 1 (by decide) hl) ha hs
  · exact hn_biB h (cr_min' hK hcm h.glb.units) hg (by decide) b4 (ne 1 (by decide) hl) ha hs
  · exact hn_biB h (cr_mx2 hcm) hg (by decide) b3 (ne 2 (by decide) hl) ha hs
  · exact hn_biB h (cr_mn2 hcm) hg (by decide) b4 (ne 2 (by decide) hl) ha hs
  · exact hn_biB h (cr_all' hcm) hg (by decide) b5 (ne 1 (by decide) hl) ha hs
  · exact hn_biB h (cr_any' hcm) hg (by decide) b6 (ne 1 (by decide) hl) ha hs
  · exact hn_biB h (cr_sorted' hK hcm) hg (by decide) b7 (ne 1 (by decide) hl) ha hs
  · exact hn_biT h (cr_list' hK hcm) hg (by decide) t1 (ne 1 (by decide) hl) ha hs
  · exact hn_biT h (cr_tup' hK) hg (by decide) t2 (ne 1 (by decide) hl) ha hs
  · exact hn_biT h (cr_dict' hK hcm) hg (by decide) t3 (ne 1 (by decide) hl) ha hs
  · exact hn_biT h cr_int' hg (by decide) t4 (ne 1 (by decide) hl) ha hs
  · exact hn_biT h cr_str' hg (by decide) t5 (ne 1 (by decide) hl) ha hs
  · exact hn_biB h cr_divmod' hg (by decide) b8 (ne 2 (by decide) hl) ha hs
/-! ### isinstance -/
theorem kit_all : ∀ a ∈ ["NoneType", "bool", "int", "str", "tuple", "list", "dict"], ∀ t ∈ bltTys, kitB a t = some (isiB a t) := by decide +kernel
theorem boots_ty : ∀ t ∈ bltTys, bootBuiltins (S t) = some (.type t) := by decide +kernel
theorem isiD_ok {H G : Hp} {io : List Addr} {m : Mu} (w : WRel C H G io m) {d : D} {v : V} {t : String} {b : Bool} (h : isiD d t = some b) (r : RepB C H G io d v) : t ∈ bltTys ∧ ∃ a, TyX C.K H v (.type a) ∧ PySem.W.kitOne C.K (.type a) (.type t) = some b := by
  unfold isiD at h
  by_cases ht : bltTys.contains t = true
  · rw [if_pos ht] at h
    have hm : t ∈ bltTys := List.contains_iff_mem.mp ht
    refine ⟨hm, ?_⟩
    have fin : ∀ a, a ∈ ["NoneType", "bool", "int", "str", "tuple", "list", "dict"] → TyX C.K H v (.type a) → some (isiB a t) = some b → ∃ a, TyX C.K H v (.type a) ∧ PySem.W.kitOne C.K (.type a) (.type t) = some b := fun a ha ty e => ⟨a, ty, kit_ty (by rw [kit_all a ha t hm, e])⟩
    cases d <;> simp only [reduceCtorEq] at h
    · obtain rfl : v = .non := r
      exact fin "NoneType" (by decide) (.base .non) h
    · obtain rfl := r
      exact fin "bool" (by decide) (.base (.bl _)) h
    · obtain rfl := r
      exact fin "int" (by decide) (.base (.int _)) h
    · obtain rfl := r
      exact fin "str" (by decide) (.base (.str _)) h
    · obtain ⟨a, vs, rfl, qa, za, la⟩ := r
      refine fin "tuple" (by decide) ?_ h
      rcases w.sqT qa with (q | ⟨o, q⟩) | ⟨o, its, n, q, qc, _⟩
      · exact .base (.tup q)
      · exact .fTuple q
      · exact .kTuple q qc
    · obtain ⟨a, vs, rfl, qa, za, la⟩ := r
      refine fin "list" (by decide) ?_ h
      rcases qa with q | ⟨o, q⟩
      · exact .base (.lst q)
      · exact .base (.frz q)
    · obtain ⟨a, vs, rfl, qa, za, la⟩ := r
      refine fin "dict" (by decide) ?_ h
      rcases qa with q | ⟨o, q⟩
      · exact .base (.dK q)
      · exact .fDict q
  · rw [if_neg ht] at h; cases h
theorem he_isi (h : CcX c C F X) {a : Expr} {x : E} {t : String} {p pt pos : Pos} (hg : isGl c (S "isinstance") = true) (ht : t ∈ bltTys) (hgt : isGl c (S t) = true) (hm : X.mg (S t) = none) (ha : HO_ C F X a x)
    (hs : ∀ es', starEach (a :: es') X.env = (false, eval a X.env) :: starEach es' X.env) : HE C F X (.Call (.Name (S "isinstance") p) [a, .Name (S t) pt] [] pos) (.isi x t) := fun r W tk => by
  obtain ⟨g1, g2, g3⟩ := h.gl hg
  obtain ⟨k1, k2, k3⟩ := h.gl hgt
  have pt : PE X (.Name (S t) pt) (tC (.ty t)) := pe_bltn k1 hm (boots_ty t ht) rfl k3 k2
  refine pe_mono (pe_callB call_isi g1 (h.glb.blt "isinstance" (by decide)) boots.2.2.2.2.2.2.2.2 (pa_cons (ha r W tk) (pa_cons pt pa_nil) (hs _)) g3 g2 (hs _) rfl) fun σ H Q ⟨G, io, m, w, sr, p⟩ => ?_
  rw [ev] at p
  refine ⟨G, io, m, w, sr, (p.seq Mo.const sr).mono ?_⟩
  rintro v1 H1 ⟨G1, io1, m1, d, s1, w1, sr1, rd, e1, p1⟩
  cases e : isiD (look m1 d) t with
  | none => rw [e] at p1; exact p1.elim
  | some b =>
    rw [e] at p1
    obtain ⟨_, a, ty, ko⟩ := isiD_ok w1 e (rd.look w1)
    refine ⟨v1, .ty t, .type a, .type t, b, rfl, .ty t, ?_, ?_, p1.here w1 rfl⟩
    · rw [h.glb.K]; exact ty
    · rw [h.glb.K]; exact ko
end
end Wh
/-! len(range(..)), xs.index(x). -/
namespace Wh
open PySem L2 PySem.Spec PyProof.Rows
section
variable {C : Wd} {F : Fn} {X : Cx} {c : Cc}
theorem rngN_size {a b c : Int} (hc : 0 < c) : Builtin.Range.rangeSize a b c = (rngN a b c : Nat) := by
  unfold Builtin.Range.rangeSize rngN
  rw [if_pos hc, if_pos hc]
  split
  · have h1 : (b - a + c - 1) / c = (b - a - 1) / c + 1 := by
      rw [show b - a + c - 1 = (b - a - 1) + c * 1 by omega, Int.add_mul_ediv_left _ _ (by omega)]
    have h2 : 0 ≤ (b - a - 1) / c := Int.ediv_nonneg (by omega) (by omega)
    rw [h1]
    omega
  · have h1 : (b - a + c - 1) / c ≤ 0 := by
      have : (b - a + c - 1) / c < 1 := Int.ediv_lt_of_lt_mul hc (by omega)
      omega
    omega
theorem he_rlen (h : CcX c C F X) {a b d : Expr} {xs : List E} {p q pos pos2 : Pos} (hg : isGl c (S "len") = true) (hgr : isGl c (S "range") = true) (ha : HAo C F X [a, b, d] xs)
    (hs : ∀ es', ∀ e ∈ [a, b, d], starEach (e :: es') X.env = (false, eval e X.env) :: starEach es' X.env) : HE C F X (.Call (.Name (S "len") p) [.Call (.Name (S "range") q) [a, b, d] [] pos2] [] pos) (.bi .rlen xs) := fun r W tk => by
  obtain ⟨g1, g2, g3⟩ := h.gl hg
  obtain ⟨k1, k2, k3⟩ := h.gl hgr
  have s1 : starEach [a, b, d] X.env = (false, eval a X.env) :: starEach [b, d] X.env := hs _ a List.mem_cons_self
  have s2 : (backTo pos2 (starEach [b, d] X.env)).any (·.1) = false := any_star [b, d] pos2 X.env fun es' e' he' => hs es' e' (List.mem_cons_of_mem _ he')
  refine ⟨fun pins s σ H Q I ⟨G, io, m, w, sr, pp⟩ => ?_⟩
  rw [ev] at pp
  refine Call_ (ld_blt I g1 (h.glb.blt "len" (by decide)) boots.1 (callWith_builtin1 (args_cons (thn (Call_ (ld_blt I k1 (h.glb.blt "range" (by decide)) boot_range (PyProof.Rows.callWith_type1 (thn ((ha r W tk).run pos2 pins s σ H _ I ⟨G, io, m, w, sr, pp.seq Mo.const sr⟩) fun us s1 ⟨vs, H1, I1, r1, q1⟩ => ?_) s1 s2) k3 k2)) fun x s1 hx => args_nil hx) rfl) rfl) g3 g2)
  obtain ⟨G1, io1, m1, ds, st1, w1, sr1, rds, e1, p1⟩ := q1
  have rb := rds.look w1
  generalize ds.map (look m1) = ds' at rb p1
  rcases ds' with _ | ⟨d1, _ | ⟨d2, _ | ⟨d3, _ | ⟨_, _⟩⟩⟩⟩
  · exact p1.elim
  · cases d1 <;> exact p1.elim
  · cases d1 <;> cases d2 <;> exact p1.elim
  · cases d1 <;> first | exact p1.elim | skip
    cases d2 <;> first | exact p1.elim | skip
    cases d3 <;> first | exact p1.elim | skip
    rename_i i j k
    obtain ⟨v1, l1, rfl, rv1, v2, l2, rfl, rv2, v3, l3, rfl, rv3, rfl⟩ := rb
    obtain rfl : v1 = .int i := rv1
    obtain rfl : v2 = .int j := rv2
    obtain rfl : v3 = .int k := rv3
    by_cases hz : (lim62 i && lim62 j && decide (0 < k) && decide (k < 1073741824)) = true
    · simp only [biD, if_pos hz] at p1
      simp only [Bool.and_eq_true, decide_eq_true_eq] at hz
      obtain ⟨⟨⟨hi, hj⟩, hk0⟩, hk1⟩ := hz
      obtain ⟨ia, ib⟩ : -(2 ^ 62) ≤ i ∧ i < 2 ^ 62 := by unfold lim62 at hi; simpa using hi
      obtain ⟨ja, jb⟩ : -(2 ^ 62) ≤ j ∧ j < 2 ^ 62 := by unfold lim62 at hj; simpa using hj
      cases r1 with
      | cons r rr =>
        cases rr with
        | cons r' rr =>
          cases rr with
          | cons r'' rr =>
            cases rr
            obtain ⟨t, rfl⟩ := r
            obtain ⟨t', rfl⟩ := r'
            obtain ⟨t'', rfl⟩ := r''
            refine call_range_3 (by omega) ?_ (.inl (PyProof.noPylong_small (by omega)))
            have hn := rngN_size (a := i) (b := j) hk0
            have hfit : ((rngN i j k : Nat) : Int) < 2 ^ 63 := by
              rw [← hn]
              unfold Builtin.Range.rangeSize
              rw [if_pos hk0]
              split
              · have : (j - i - 1) / k ≤ j - i - 1 := Int.ediv_le_self _ (by omega)
                omega
              · omega
            refine call_len_range (n := rngN i j k) (IsRange.new ..) hn hfit ?_
            exact ⟨.int _, H1, I1.kept fun b o e => Heap.get?_push_of_some _ e, ⟨_, rfl⟩, p1.here w1 rfl⟩
    · simp only [biD, if_neg hz] at p1; exact p1.elim
  · cases d1 <;> first | exact p1.elim | skip
    cases d2 <;> first | exact p1.elim | skip
    cases d3 <;> exact p1.elim
theorem few_1 {a : Expr} {cpos : Pos} {env : PySem.Env} (hs : ∀ es, starEach (a :: es) env = (false, eval a env) :: starEach es env) :
    ((backTo cpos (starEach [a] env)).all (fun x => !x.1) && (backToKw cpos (keywordEach [] env)).all (fun x => x.1.isSome)
      && decide (([a] : List Expr).length + ([] : List Keyword).length + (if ([] : List Keyword).isEmpty then 0 else 1) < 30)) = true := by
  rw [hs []]
  rfl
/-- a method of a list: what is asked of its value and of the one argument's -/
theorem mt_countD (hu : X.A.units + 65 < cLine) : MtR X "list.count" (fun x xs H Q => ∃ (a : Addr) (y : V) (d : PyData) (ds : List PyData), x = .ref a ∧ xs = [y] ∧ Dp X.K H (.ref a) (.list ds) ∧ Dp X.K H y d ∧ SeqAt.shaped (.list ds) = true ∧ SeqAt.shaped d = true ∧ Q (.int (ds.countP fun z => PyData.eqv z d : Nat)) H) := by
  intro pins s σ H x xs v us Q I rx rxs h
  obtain ⟨a, y, d, ds, rfl, rfl, hl, hy, sl, sd, q⟩ := h
  cases rx
  cases rxs with
  | cons ry rt =>
    rename_i uy ut
    cases rt
    obtain ⟨bs, r1⟩ := Dp.reads I d y uy hy ry
    have hcl : PyData.canLayAll0 ds = true := SeqAt.canLay_of_shaped sl
    cases hl with
    | lst hs ha =>
      obtain ⟨its, rv, ⟨⟨kl, dd, dat, sls⟩, n, ho, hc, hdn, hdt⟩, hlen⟩ := I.list hs
      simp only at hc hdt
      subst hc hdt
      obtain ⟨as, h4⟩ := Dp.readsAll I ds _ its ha rv
      have emap : its.map (SeqAt.readOf s.heap) = ds := SeqAt.readsAll_map ds its as hcl h4
      have ecnt : its.toArray.toList.countP (fun u => PyData.eqv (SeqAt.readOf s.heap u) d) = ds.countP fun z => PyData.eqv z d := by
        rw [← emap, List.countP_map]
        rfl
      refine call_meets PySem.F.slot_list_count ⟨_, ho, rfl⟩ PySem.F.entry_list_count (PySem.F.args_list_count_2 _ _)
        (SeqAt.list_countAt a its.toArray n dd sls uy fun u => PyData.eqv (SeqAt.readOf s.heap u) d) ⟨ho, SeqAt.items_eqAt (vs := its.toArray) (show ReadsAll s.heap its.toArray.toList ds as from h4) r1 hcl (SeqAt.canLay_of_shaped sd) (room_in_shaped sd hu), ?_⟩
      refine ⟨.int (ds.countP fun z => PyData.eqv z d : Nat), H, I.tok _, ⟨s.toks, ?_⟩, q⟩
      rw [ecnt]
theorem bm_pre {b : Bi} (hb : b = .count ∨ b = .index) {r : Env} {W : WX} {ys : List E} {Q : VK} {σ : L2.St} {H1 G1 : Hp} {io1 : List Addr} {m1 : Mu} {d : D} {v1 : V} (w1 : WRel C H1 G1 io1 m1) (sr1 : SRel C σ H1 G1 io1 r) (rd : RepO C H1 G1 io1 d v1)
    (p1 : Post C W σ H1 G1 io1 (rRep C) (if kdOk b (look m1 d) = true then (evs F ys r m1).bind fun bs m => up (biD b (look m d :: bs.map (look m))) m else .bad) Q) :
    ∃ a1 vs, v1 = .ref a1 ∧ Rd H1 a1 (.lst vs) ∧ Post C W σ H1 G1 io1 (RepOs C) (evs F ys r m1) (fun ws H2 => ∃ G2 io2 m2 l d2 us v2, ws = [v2] ∧ WRel C H2 G2 io2 m2 ∧ Rd H2 a1 (.lst us) ∧ RepL C G2 io2 l us ∧ RepB C H2 G2 io2 d2 v2 ∧ Post C W σ H2 G2 io2 (rRep C) (up (biD b [.lst l, d2]) m2) Q) := by
  by_cases hkd : kdOk b (look m1 d) = true
  · rw [if_pos hkd] at p1
    have rl := rd.look w1
    have el : ∃ l1, look m1 d = .lst l1 := by
      rcases hb with rfl | rfl <;> (revert hkd; cases look m1 d <;> intro hkd <;> first | exact ⟨_, rfl⟩ | cases hkd)
    obtain ⟨l1, el⟩ := el
    rw [el] at rl
    obtain ⟨a1, vs, rfl, hr, _, _⟩ := rl
    refine ⟨a1, vs, rfl, hr, (p1.seq Mo.const sr1).mono ?_⟩
    rintro v2 H2 ⟨G2, io2, m2, d2, s2, w2, sr2, rd2, e2, p2⟩
    have rl2 := (rd.step s2).look w2
    have ra2 := rd2.look w2
    generalize look m2 d = dl2 at rl2 p2
    generalize d2.map (look m2) = da at ra2 p2
    cases dl2 with
    | lst l2 =>
      obtain ⟨a2, us, e, hr2, _, ll⟩ := rl2
      cases e
      cases da with
      | nil => rcases hb with rfl | rfl <;> exact p2.elim
      | cons d3 dr =>
        cases dr with
        | nil =>
          obtain ⟨v3, e3, rb3⟩ := repB1 ra2
          exact ⟨G2, io2, m2, l2, d3, us, v3, e3, w2, hr2, ll, rb3, p2⟩
        | cons _ _ => rcases hb with rfl | rfl <;> exact p2.elim
    | _ => rcases hb with rfl | rfl <;> (cases da <;> exact p2.elim)
  · rw [if_neg hkd] at p1; exact p1.elim
theorem he_bm {o a : Expr} {x : E} {ys : List E} {f : Bi} {m : String} {apos cpos : Pos} (hK : X.K = C.K) (hu : X.A.units + 65 < cLine) (hf : bmOf (S m) 1 = some f) (ho : HO_ C F X o x) (ha : HAo C F X [a] ys) (hb : attributeBase o (S m) X.env (eval o X.env) = eval o X.env) (hl : (apos.endLine == cpos.line) = true)
    (hs : ∀ es, starEach (a :: es) X.env = (false, eval a X.env) :: starEach es X.env) : HE C F X (.Call (.Attribute o (S m) apos) [a] [] cpos) (.bm f x ys) := fun r W tk => by
  unfold bmOf at hf
  obtain ⟨q, hq, rfl⟩ := Option.map_eq_some_iff.mp hf
  have hm := List.mem_of_find?_eq_some hq
  have hp := List.find?_some hq
  simp only [Bool.and_eq_true, decide_eq_true_eq, beq_iff_eq] at hp
  obtain ⟨hp, _⟩ := hp
  simp only [bmNames, List.mem_cons, List.not_mem_nil, or_false] at hm
  rcases hm with rfl | rfl
  · have em : m = "count" := S_inj hp.symm
    subst em
    have q := pe_bm (T := "list") (apos := apos) (cpos := cpos) PySem.F.plainAttrs_list PySem.F.slot_list_count PySem.F.type_list_count (mt_countD hu) (ho r W tk) (ha r W tk) hb (few_1 hs) hl (hs []) rfl
    refine pe_mono q fun σ H Q ⟨G, io, m, w, sr, p⟩ => ?_
    rw [ev] at p
    refine ⟨G, io, m, w, sr, (p.seq Mo.const sr).mono ?_⟩
    rintro v1 H1 ⟨G1, io1, m1, d, s1, w1, sr1, rd, e1, p1⟩
    obtain ⟨a2, vs, rfl, hr1, p2⟩ := bm_pre (.inl rfl) w1 sr1 rd p1
    refine ⟨.inl ⟨rfl, vs, .inl hr1⟩, G1, io1, m1, w1, sr1, p2.mono ?_⟩
    rintro ws H2 ⟨G2, io2, m2, l, d2, vs2, v2, rfl, w2, hr2, l2, rb2, p2⟩
    simp only [biD] at p2
    cases e3 : toP 60 d2 with
    | none => rw [e3] at p2; exact p2.elim
    | some pd =>
      rw [e3] at p2
      simp only [Option.bind_some] at p2
      cases e4 : toPs 59 l with
      | none => rw [e4] at p2; exact p2.elim
      | some ps =>
        rw [e4] at p2
        have d1 := toP_dpB w2 e3 rb2
        have d2' : Dp C.K H2 (.ref a2) (.list ps) := .lst (.inl hr2) (toPs_dp w2 _ _ ps vs2 e4 l2)
        rw [← hK] at d1 d2'
        exact ⟨a2, v2, pd, ps, rfl, rfl, d2', d1, toPs_shaped e4 (by decide), toP_shaped e3 (by decide), p2.here w2 rfl⟩
  · have em : m = "index" := S_inj hp.symm
    subst em
    have q := pe_bm (T := "list") (apos := apos) (cpos := cpos) PySem.F.plainAttrs_list PySem.F.slot_list_index PySem.F.type_list_index (mt_indexD hu) (ho r W tk) (ha r W tk) hb (few_1 hs) hl (hs []) rfl
    refine pe_mono q fun σ H Q ⟨G, io, m, w, sr, p⟩ => ?_
    rw [ev] at p
    refine ⟨G, io, m, w, sr, (p.seq Mo.const sr).mono ?_⟩
    rintro v1 H1 ⟨G1, io1, m1, d, s1, w1, sr1, rd, e1, p1⟩
    obtain ⟨a2, vs, rfl, hr1, p2⟩ := bm_pre (.inr rfl) w1 sr1 rd p1
    refine ⟨.inl ⟨rfl, vs, .inl hr1⟩, G1, io1, m1, w1, sr1, p2.mono ?_⟩
    rintro ws H2 ⟨G2, io2, m2, l, d2, vs2, v2, rfl, w2, hr2, l2, rb2, p2⟩
    simp only [biD] at p2
    cases e3 : toP 60 d2 with
    | none => rw [e3] at p2; exact p2.elim
    | some pd =>
      rw [e3] at p2
      simp only [Option.bind_some] at p2
      cases e4 : toPs 59 l with
      | none => rw [e4] at p2; exact p2.elim
      | some ps =>
        rw [e4] at p2
        simp only [Option.bind_some] at p2
        cases e5 : ps.findIdx? (fun z => PyData.eqv z pd) with
        | none => rw [e5] at p2; exact p2.elim
        | some j =>
          rw [e5] at p2
          obtain ⟨hj, hj1, hj2⟩ := List.findIdx?_eq_some_iff_getElem.mp e5
          have d1 := toP_dpB w2 e3 rb2
          have d2' : Dp C.K H2 (.ref a2) (.list ps) := .lst (.inl hr2) (toPs_dp w2 _ _ ps vs2 e4 l2)
          rw [← hK] at d1 d2'
          refine ⟨a2, v2, pd, ps, j, ps[j], rfl, rfl, d2', d1, toPs_shaped e4 (by decide), toP_shaped e3 (by decide), List.getElem?_eq_getElem hj, hj1, fun k z hk hz => ?_, p2.here w2 rfl⟩
          obtain ⟨hk', rfl⟩ := List.getElem?_eq_some_iff.mp hz
          have := hj2 k hk
          simpa using this
end
end Wh
/-! Methods, new instances, what is asked of a caught error, defs called while one is handled. -/
namespace Wh
open PySem L2 PySem.Spec PyProof.Rows
section
variable {C : Wd} {F : Fn} {X : Cx} {c : Cc}
theorem all_star : ∀ (es : List Expr) (pos : Pos) (env : PySem.Env), (∀ es', ∀ e ∈ es, starEach (e :: es') env = (false, eval e env) :: starEach es' env) → (backTo pos (starEach es env)).all (fun x => !x.1) = true
  | [], _, _, _ => rfl
  | e :: es, pos, env, h => by
    rw [h es e List.mem_cons_self]
    show ((false, eval e env) :: backTo pos (starEach es env)).all (fun x => !x.1) = true
    rw [List.all_cons]
    show (true && (backTo pos (starEach es env)).all fun x => !x.1) = true
    rw [all_star es pos env fun es' e' he' => h es' e' (List.mem_cons_of_mem _ he')] <;> rfl
/-- o.m(..), the class told when o is -/
def tMethD (X : Cx) (m : Str) (E : L2.St → XK) (ta : TE) (t : TA) : TE := fun σ H Q => ta σ H fun x H1 => ∃ (a A dx : Addr) (fs : List (Str × V)) (f : Addr) (fd : FuncData) (ps : List Str) (sp : Sp) (k : Nat), x = .ref a ∧ H1 a = some (.ins A dx fs) ∧ Cls X.K A ∧ Meth X.K A m f ∧
  FnOk X.prog X.w X.K X.mg X.base (L2.CX X.prog X.w) k f fd ps sp ∧ Room k X.A ∧ Binds X.K fd ps [] ∧ fs.lookup m = none ∧ t σ H1 fun vs H2 => sp (x :: vs) H2 Q (E σ)
theorem pe_methD {o : Expr} {m : Str} {es : List Expr} {apos pos : Pos} {ta : TE} {t : TA} {E : L2.St → XK} (ho : PE X o ta) (ha : PA X es t) (hx : ∀ σ, PassesAt (L2.CX X.prog X.w) X σ (E σ)) (hb : attributeBase o m X.env (eval o X.env) = eval o X.env) (hl : (apos.endLine == pos.line) = true) (hn : es.length < 30) (hne : es = [] → t = tNil)
    (hs : ∀ es', ∀ e ∈ es, starEach (e :: es') X.env = (false, eval e X.env) :: starEach es' X.env) : PE X (.Call (.Attribute o m apos) es [] pos) (tMethD X m E ta t) := by
  refine ⟨fun pins s σ H Q I h => ?_⟩
  have form : methodCallForm (es.length + ([] : List Keyword).length) (backTo pos (starEach es X.env)) (backToKw pos (keywordEach [] X.env)) = true := by
    show ((backTo pos (starEach es X.env)).all (fun x => !x.1) && true && decide (es.length + 0 + 0 < 30)) = true
    rw [all_star es pos X.env hs, decide_eq_true (by omega)] <;> rfl
  have place : methodCallPos true o X.env apos pos = pure pos := by unfold methodCallPos; simp [hl]
  rw [arm_eval_Call, hb]
  refine wpAny_bind (thn (ho.run pins s σ H _ I h) fun u s1 ⟨x, H1, I1, rx, a, A, dx, fs, f, fd, ps, sp, k, ex, ea, cl, mt, FO, hr, bd, lk, q⟩ => ?_)
  subst ex
  obtain rfl : u = Value.ref a := rx
  refine wpAny_bind (wpAny_standAt ?_)
  unfold methodCall
  rw [form]
  refine wpAny_bind (wpAny_holding (getmeth_ok I1 ea cl mt lk ?_))
  refine wpAny_bind (wpAny_of_eq place ?_)
  cases es with
  | nil =>
    rw [hne rfl] at q
    exact PySem.W.callWith_K0 (first := [.ref a]) I1.kIn mt.kp (run_fnS (us := [.ref a]) (vs := [.ref a]) FO hr bd (hx σ) I1 (.cons rfl .nil) q)
  | cons e es =>
    refine PySem.W.callWith_K (first := [.ref a]) (h₀ := X.base) I1.ok.mod.kin mt.kp (thn (ha.run pos pins s1 σ H1 _ I1 q) fun us s2 ⟨vs, H2, I2, r, q2⟩ => ⟨I2.kIn, ?_⟩) (hs es e List.mem_cons_self) (any_star es pos X.env fun es' e' he' => hs es' e' (List.mem_cons_of_mem _ he'))
    exact run_fnS (us := .ref a :: us) (vs := .ref a :: vs) FO hr bd (hx σ) I2 (.cons rfl r) q2

theorem he_meth (h : CcX c C F X) (hot : c.hot = false) {o : Expr} {q : String × List String} {x : E} {apos pos : Pos} {es : List Expr} {xs : List E} (hm : q ∈ c.T.mets) (ho : HE C F X o x) (hl : xs.length = es.length) (ha : HA C F X es xs) (hb : attributeBase o (S q.1) X.env (eval o X.env) = eval o X.env) (hli : (apos.endLine == pos.line) = true) (hn : es.length < 30)
    (hs : ∀ es', ∀ e ∈ es, starEach (e :: es') X.env = (false, eval e X.env) :: starEach es' X.env) : HE C F X (.Call (.Attribute o (S q.1) apos) es [] pos) (.meth x q.1 q.2 xs) := fun r W tk => by
  obtain ⟨k, hr, _, hall, _⟩ := h.glb.fns hot
  have core : ∀ t : TA, (∀ σ H Q, tRun C W r (fun _ => rRepL C) (evs F xs r) σ H Q → t σ H Q) → ∀ σ H Q, tRun C W r (fun _ => rRep C) (ev F (.meth x q.1 q.2 xs) r) σ H Q → tMethD X (S q.1) (WE W) (tRun C W r (fun _ => rRep C) (ev F x r)) t σ H Q := by
    intro t ht σ H Q ⟨G, io, mm, w, sr, p⟩
    rw [ev] at p
    refine ⟨G, io, mm, w, sr, (p.seq Mo.const sr).mono ?_⟩
    rintro v1 H1 ⟨G1, io1, m1, d, s1, w1, sr1, rd, e1, p1⟩
    have rb := (RepO.of (H := H1) rd).look w1
    cases el : look m1 d with
    | ins k0 fs =>
      rw [el] at p1 rb
      obtain ⟨a, A, dx, fvs, rfl, hA, isc, lf⟩ := rb
      obtain ⟨cl, _⟩ := h.glb.cls k0 A isc
      have p2 : Post C W σ H1 G1 io1 (rRep C) (if q.2.contains k0 = true ∧ (fs.lookup q.1).isNone = true then (evs F xs r m1).bind fun ds m2 => F (k0 ++ "." ++ q.1) (d :: ds) m2 else .bad) Q := p1
      by_cases hlk : q.2.contains k0 = true ∧ (fs.lookup q.1).isNone = true
      · rw [if_pos hlk] at p2
        obtain ⟨hin, hno⟩ := hlk
        have hno' : fs.lookup q.1 = none := Option.isNone_iff_eq_none.mp hno
        have p3 := p2.seq (R := rRepL C) (R' := fun _ => rRep C) Mo.const sr1
        obtain ⟨f, fd, ps, mt, bd, FO, hlen⟩ := (hall k0 A isc q hm (List.contains_iff_mem.mp hin)).ex
        refine ⟨a, A, dx, fvs, f, fd, ps, _, k, rfl, hA, cl, mt, FO, hr, bd, (RepF.look q.1 lf).2 hno', ht σ H1 _ ⟨G1, io1, m1, w1, sr1, p3.mono ?_⟩⟩
        rintro vs H2 ⟨G2, io2, m2, ds, s2, w2, sr2, rds, e2, p4⟩
        refine ⟨?_, G2, io2, m2, d :: ds, w2, ⟨.ref a, vs, rfl, rd.step s2, rds⟩, ?_⟩
        · rw [List.length_cons, rds.length]
          exact hlen (d :: ds) m2 fun z => by rw [z] at p4; exact p4
        · cases e6 : F (k0 ++ "." ++ q.1) (d :: ds) m2 with
          | bad => rw [e6] at p4; exact p4
          | ok d2 m3 => rw [e6] at p4; exact p4
          | exc k2 m3 => rw [e6] at p4; exact p4
      · rw [if_neg hlk] at p2; exact p2.elim
    | _ => rw [el] at p1; exact p1.elim
  cases es with
  | nil =>
    obtain rfl : xs = [] := List.eq_nil_of_length_eq_zero hl
    refine pe_mono (pe_methD (t := tNil) (ho r W tk) pa_nil (fun σ => passAt tk σ) hb hli hn (fun _ => rfl) hs) (core tNil fun σ H Q ⟨G, io, m, w, sr, p⟩ => ?_)
    rw [evs] at p
    exact p.here w rfl
  | cons e es => exact pe_mono (pe_methD (ho r W tk) (ha r W tk) (fun σ => passAt tk σ) hb hli hn (fun z => by cases z) hs) (core _ fun σ H Q z => z)
/-! ### new instances -/
theorem IsOb.isObj {G : Hp} {io : List Addr} {u : HO} {d : D} (h : IsOb C G io u d) : isObj d = true := by
  cases u <;> cases d <;> first | rfl | exact h.elim
theorem hn_new (h : CcX c C F X) (hot : c.hot = false) {k0 : String} {p pos : Pos} {es : List Expr} {xs : List E} (hf : k0 ∈ c.T.cls) (hg : isGl c (S k0) = true) (hl : xs.length = es.length) (ha : HA C F X es xs) (hs : ∀ es', ∀ e ∈ es, starEach (e :: es') X.env = (false, eval e X.env) :: starEach es' X.env) :
    HN C F X (.Call (.Name (S k0) p) es [] pos) (.new k0 xs) := fun r W tk => by
  obtain ⟨k, hr, _, _, hall⟩ := h.glb.fns hot
  obtain ⟨g1, g2, g3⟩ := h.gl hg
  obtain ⟨A0, m0, kp0, hbad | ⟨j, hj, NI⟩⟩ := hall k0 hf
  · have never : ∀ σ H Q (t : TA), (∀ σ H Q, tRun C W r (fun _ => rRepL C) (evs F xs r) σ H Q → t σ H Q) → tRun C W r (RepN C) (ev F (.new k0 xs) r) σ H Q → t σ H (fun _ _ => False) := by
      intro σ H Q t ht ⟨G, io, mm, w, sr, p⟩
      rw [ev] at p
      refine ht σ H _ ⟨G, io, mm, w, sr, (p.seq Mo.repN sr).mono ?_⟩
      rintro vs H1 ⟨G1, io1, m1, ds, s1, w1, sr1, rds, e2, p1⟩
      rw [hbad] at p1
      exact p1
    cases es with
    | nil =>
      obtain rfl : xs = [] := List.eq_nil_of_length_eq_zero hl
      refine ⟨fun pins s σ H Q I hw => (never σ H Q tNil (fun σ H Q ⟨G, io, m, w, sr, p⟩ => ?_) hw).elim⟩
      rw [evs] at p
      exact p.here w rfl
    | cons e es =>
      refine ⟨fun pins s σ H Q I hw => ?_⟩
      refine wpAny_Call_Name_kw (ld_glob I g1 m0 ?_ g2)
      exact PySem.W.callWith_K (h₀ := X.base) I.ok.mod.kin kp0 (thn ((ha r W tk).run pos pins s σ H _ I (never σ H Q _ (fun _ _ _ z => z) hw)) fun us s1 ⟨vs, H1, I1, rr, q⟩ => q.elim) (hs es e List.mem_cons_self) (any_star es pos X.env fun es' e' he' => hs es' e' (List.mem_cons_of_mem _ he'))
  obtain ⟨A, f, fd, ps, e1, isc, mk, bd, FO, hlen⟩ := NI.ex
  have px : Passes (L2.CX X.prog X.w) X (fun _ _ _ => False) := fun pins σ H s e s' I cx => by
    obtain ⟨_, _, _, _, _, _, _, _, _, _, _, _, z⟩ := cx
    exact z.elim
  have core : ∀ t : TA, (∀ σ H Q, tRun C W r (fun _ => rRepL C) (evs F xs r) σ H Q → t σ H Q) → ∀ σ H Q, tRun C W r (RepN C) (ev F (.new k0 xs) r) σ H Q → tMake A (spI C F k0 A ps.length) [] (fun _ _ _ => False) t σ H Q := by
    intro t ht σ H Q ⟨G, io, mm, w, sr, p⟩
    rw [ev] at p
    refine ht σ H _ ⟨G, io, mm, w, sr, (p.seq Mo.repN sr).mono ?_⟩
    rintro vs H1 ⟨G1, io1, m1, ds, s1, w1, sr1, rds, e2, p1⟩
    intro x dx hx hdx ne
    rw [List.append_nil]
    cases e3 : F k0 ds m1 with
    | bad => rw [e3] at p1; exact p1.elim
    | exc k2 m2 => rw [e3] at p1; exact p1.elim
    | ok d m2 =>
      rw [e3] at p1
      refine ⟨?_, x, dx, vs, H1, G1, io1, m1, ds, d, m2, rfl, rfl, hx, hdx, ne, w1, rds, e3, fun H' G' io' u st w' hu ob hg hn => ⟨rfl, p1 (.ref x) H' G' io' st w' ?_⟩⟩
      · rw [List.length_cons, rds.length]
        exact hlen ds m1 fun z => by rw [z] at e3; cases e3
      · unfold RepN
        rw [if_pos ob.isObj]
        exact ⟨x, u, rfl, hx, hu, ob, hg, hn⟩
  have hr' : Room (j + 1) X.A := hr.mono hj
  cases es with
  | nil =>
    obtain rfl : xs = [] := List.eq_nil_of_length_eq_zero hl
    refine pe_mono (pe_make0 mk FO hr' g1 e1 bd .nil px g2) (core tNil fun σ H Q ⟨G, io, m, w, sr, p⟩ => ?_)
    rw [evs] at p
    exact p.here w rfl
  | cons e es => exact pe_mono (pe_make mk FO hr' g1 e1 bd .nil px (ha r W tk) g2 (hs es e List.mem_cons_self) (any_star es pos X.env fun es' e' he' => hs es' e' (List.mem_cons_of_mem _ he'))) (core _ fun σ H Q z => z)
/-! ### a caught error's class -/
theorem call_isX {a A : Addr} {oe : Obj} (hp : (a, oe) ∈ X.pn) (ec : ExcC X.K A) (hz : Zc (.ref A) none oe) (hf : ∃ vs, oe.data = .fields vs) : CallR X (.builtin "isinstance") (rIsE X.K A a) := by
  rintro pins s σ H xs us Q I rs ⟨t, tv, b, rfl, ht, e, q⟩
  obtain ⟨got, _⟩ := I.pin (a, oe) (List.mem_append_left _ hp)
  obtain ⟨vs, hv⟩ := hf
  obtain ⟨kl, od, dat, sl⟩ := oe
  obtain ⟨z1, z2⟩ := hz
  dsimp only at z1 z2 hv
  subst z1 z2 hv
  cases rs with
  | cons r1 rs =>
    cases rs with
    | cons r2 rs =>
      cases rs
      cases r1
      obtain rfl := ht _ r2
      exact PySem.W.kia_one (PySem.W.handS_kitx_exc ec.hg ec.hk ec.hs ec.hd ec.ha ec.hn ec.ht ec.hm) I.kIn ⟨got, rfl, rfl, trivial⟩ e (fun z => nomatch z) fun tk => ⟨.bl b, H, I.kept (t' := tk) fun _ _ z => z, rfl, q⟩
theorem he_isx (h : CcX c C F X) (hot : c.hot = true) {a : Expr} {x : E} {t : String} {p pt pos : Pos} (hg : isGl c (S "isinstance") = true) (ht : t ∈ "ValueError" :: c.T.excs) (hgt : isGl c (S t) = true) (ha : HE C F X a x)
    (hs : ∀ es', starEach (a :: es') X.env = (false, eval a X.env) :: starEach es' X.env) : HE C F X (.Call (.Name (S "isinstance") p) [a, .Name (S t) pt] [] pos) (.isx x t) := fun r W tk => by
  obtain ⟨g1, g2, g3⟩ := h.gl hg
  obtain ⟨k1, k2, k3⟩ := h.gl hgt
  obtain ⟨⟨a0, k0, hex⟩, _⟩ := h.glb.hfns hot
  · obtain ⟨_, hk0, oe, A, hp, hz, hf, hmg⟩ := h.glb.ex a0 k0 hex
    obtain ⟨A', EI⟩ := h.glb.excs k0 hk0
    obtain rfl : A = A' := by
      have := hmg.symm.trans EI.mg
      cases this
      rfl
    obtain ⟨T, tv, hT, hrel, hkit⟩ : ∃ (T : V) (tv : Value), PE X (.Name (S t) pt) (tC T) ∧ (∀ u, RelV T u → u = tv) ∧ PySem.W.kitOne X.K (.ref A) tv = some (subx k0 t) := by
      by_cases hv : t = "ValueError"
      · subst hv
        exact ⟨.ty "ValueError", .type "ValueError", pe_bltn k1 (h.glb.blt "ValueError" (by decide)) (by decide +kernel) rfl k3 k2, fun u hu => hu, EI.ve⟩
      · rcases List.mem_cons.mp ht with z | z
        · exact absurd z hv
        · obtain ⟨B, b1, b2, b3⟩ := EI.exm t z
          exact ⟨.ref B, .ref B, pe_glob k1 b1 rfl k2, fun u hu => hu, b3⟩
    refine pe_mono (pe_callB (call_isX hp EI.ec hz hf) g1 (h.glb.blt "isinstance" (by decide)) boots.2.2.2.2.2.2.2.2 (pa_cons (ha r W tk) (pa_cons hT pa_nil) (hs _)) g3 g2 (hs _) rfl) fun σ H Q ⟨G, io, m, w, sr, pp⟩ => ?_
    rw [ev] at pp
    refine ⟨G, io, m, w, sr, (pp.seq Mo.const sr).mono ?_⟩
    rintro v1 H1 ⟨G1, io1, m1, d, s1, w1, sr1, rd, e1, p1⟩
    cases d <;> first | exact p1.elim | skip
    rename_i k1
    obtain ⟨a1, rfl, e2⟩ := rd
    rw [hex] at e2
    cases e2
    exact ⟨T, tv, subx k0 t, rfl, hrel, hkit, p1.here w1 rfl⟩
/-- .. where none is held: it is never asked -/
theorem he_isx0 (h : CcX c C F X) (hot : c.hot = false) {a : Expr} {x : E} {t : String} {p pt pos : Pos} (hg : isGl c (S "isinstance") = true) (ht : t ∈ "ValueError" :: c.T.excs) (hgt : isGl c (S t) = true) (ha : HE C F X a x)
    (hs : ∀ es', starEach (a :: es') X.env = (false, eval a X.env) :: starEach es' X.env) : HE C F X (.Call (.Name (S "isinstance") p) [a, .Name (S t) pt] [] pos) (.isx x t) := fun r W tk => by
  obtain ⟨g1, g2, g3⟩ := h.gl hg
  obtain ⟨k1, k2, k3⟩ := h.gl hgt
  obtain ⟨T, hT⟩ : ∃ T : V, PE X (.Name (S t) pt) (tC T) := by
    by_cases hv : t = "ValueError"
    · subst hv
      exact ⟨.ty "ValueError", pe_bltn k1 (h.glb.blt "ValueError" (by decide)) (by decide +kernel) rfl k3 k2⟩
    · rcases List.mem_cons.mp ht with z | z
      · exact absurd z hv
      · obtain ⟨B, EI⟩ := h.glb.excs t z
        exact ⟨.ref B, pe_glob k1 EI.mg rfl k2⟩
  have never : CallR X (.builtin "isinstance") (fun _ _ _ => False) := fun pins s σ H xs us Q I rs z => z.elim
  refine pe_mono (pe_callB never g1 (h.glb.blt "isinstance" (by decide)) boots.2.2.2.2.2.2.2.2 (pa_cons (ha r W tk) (pa_cons hT pa_nil) (hs _)) g3 g2 (hs _) rfl) fun σ H Q ⟨G, io, m, w, sr, pp⟩ => ?_
  rw [ev] at pp
  refine ⟨G, io, m, w, sr, (pp.seq Mo.const sr).mono ?_⟩
  rintro v1 H1 ⟨G1, io1, m1, d, s1, w1, sr1, rd, e1, p1⟩
  cases d <;> first | exact p1.elim | skip
  obtain ⟨a1, rfl, e2⟩ := rd
  obtain ⟨z, _⟩ := h.glb.ex _ _ e2
  rw [hot] at z
  cases z
/-! ### defs that are called while an error is handled -/
theorem fnx_of {P : Program} {w : World} {K : PySem.W.Frag} {mg : Str → Option Value} {base : Heap} {nm qual : Str} {pars : Arguments} {body : List Stmt} {scope : Scope} {dvs : List V} {kws : List (Str × V)} {f : Addr} {fd : FuncData} {N ps : List Str} {k : Nat} {sp : Sp} {p : Addr × Obj}
    (D0 : FunD K nm qual pars body scope dvs kws f fd) (Sc : FnScope N ps scope) (size : ∀ xs G Q E, sp xs G Q E → xs.length = ps.length)
    (bdy : ∀ (cdv : Value) (A : Around) (out : List PySem.Env) (s : Shared) (G : Hp) (xs : List V) (Q : VK) (E : XK), L2H.RoomH k (A.deeper (envOfC qual scope s.heap.objs.size f cdv)) → sp xs G Q E →
      ∃ t, PSs (L2H.cxH (L2.CX P w) P w K mg base N qual scope f cdv A out s G E p) body t ∧ t { nx := fun _ G' => Q .non G', rt := Q } (L2.start N xs) G) : FnX P w K mg base (k + 1) f fd ps sp p where
  size := size
  go := by
    intro A out s G ar us xs Q E room pin env bind rel want
    obtain ⟨oc, od, dV, kV, doc, pm, an, cdv, ct, osl, rfl, lk, code, _, _⟩ := D0.ex
    have kin : K.In s.heap := env.mod.kin.keeps fun b o e => (env.bs b o e).1
    have nolim : s.heap.NoLimit := env.mod.nolimit.keeps fun b o e => (env.bs b o e).1
    have kinds : ∀ y ∈ ps.zip us, scope.names.lookup y.1 = some .local ∨ (scope.names.lookup y.1 = some .cell ∧ ((cellsFrom (s.heap.objs.size + 1) scope.names []).lookup y.1).isSome = true) := by
      rintro ⟨n, v⟩ hy
      rcases Sc.par n (List.of_mem_zip hy).1 with z | z
      · exact Or.inl z
      · exact Or.inr ⟨z, PySem.W.cellsFrom_some _ _ _ (Or.inl z)⟩
    refine codeAny_call_function room.depth (kin _ _ lk) rfl Sc.co Sc.gen rfl (PySem.W.codeRec_of kin code) (bind _ _ _ _ (wpAny_newFunctionEnv_cells Sc.kind kinds fun env' he' s1 made => ?_))
    subst he'
    refine ⟨nolim.keeps made.toInCall.keep, codeAny_func ?_⟩
    obtain ⟨t, ht, hq⟩ := bdy cdv A out s G xs Q E (room.deeper _) want
    refine wpAny_mono (ht.run [] s1 (L2.start N xs) G _ (L2H.inv_startH Sc pin env (size _ _ _ _ want) rel made) hq) (fun fl s' hs => ?_) fun e s' hs => hs
    cases fl with
    | brk => obtain ⟨_, _, _, z⟩ := hs; exact z.elim
    | cont => obtain ⟨_, _, _, z⟩ := hs; exact z.elim
    | next => obtain ⟨σ', G', J, z⟩ := hs; exact ⟨V.non, G', J.os, J.bare, J.base, J.hok, rfl, z⟩
    | ret u => obtain ⟨v, σ', G', J, rv, z⟩ := hs; exact ⟨v, G', J.os, J.bare, J.base, J.hok, rv, z⟩
theorem run_X {pins : List (Addr × Obj)} {σ : L2.St} {H : Hp} {s : Shared} {Q : VK} {us : List Value} {vs : List V} {k : Nat} {f : Addr} {fd : FuncData} {ps : List Str} {sp : Sp} {E : L2.St → XK} {p : Addr × Obj} (FX : FnX X.prog X.w X.K X.mg X.base k f fd ps sp p) (hr : L2H.RoomH k X.A) (hp : p ∈ X.pn) (bd : Binds X.K fd ps [])
    (hx : PassesAt (L2.CX X.prog X.w) X σ (E σ)) (I : Inv X pins σ H s) (rel : Vals vs us) (want : sp vs H Q (E σ)) : wpAny (model X.prog X.w) X.A (call (.ref f) us) (EP X pins σ Q) X.xe s := by
  have ln : us.length = ps.length := by rw [← rel.length]; exact FX.size _ _ _ _ want
  have b := bd s us I.kIn (by rw [List.append_nil]; exact ln)
  rw [List.append_nil] at b
  obtain ⟨z1, z2, z3, z4, z5⟩ := I.pin p (List.mem_append_left _ hp)
  have pin : L2H.PinOk X.stack H s p := ⟨z1, z2, fun hm => by
    rcases List.mem_cons.mp (I.stkSub p.1 hm) with y | y
    · exact z3 y
    · exact z4 y, z5⟩
  refine wpAny_call (codeAny_mono (FX.go X.A X.stack s H ⟨us, []⟩ us vs Q (E σ) hr pin I.env0 b rel want) fun res s' hq => ?_)
  cases res with
  | error e => exact hx pins H s e s' I hq
  | ok fl => cases fl with
    | ret u => exact I.after hq
    | next => exact hq.elim
    | brk => exact hq.elim
    | cont => exact hq.elim
theorem he_callX (h : CcX c C F X) (hot : c.hot = true) {f : String} {p pos : Pos} {es : List Expr} {xs : List E} (hf : f ∈ c.T.hfns) (hg : isGl c (S f) = true) (hl : xs.length = es.length) (ha : HA C F X es xs) (hs : ∀ es', ∀ e ∈ es, starEach (e :: es') X.env = (false, eval e X.env) :: starEach es' X.env) :
    HE C F X (.Call (.Name (S f) p) es [] pos) (.call f xs) := fun r W tk => by
  obtain ⟨_, p0, k, hp, hr, hall⟩ := h.glb.hfns hot
  obtain ⟨a, fd, ps, e1, e2, e3, e4, e7⟩ := (hall f hf).ex
  obtain ⟨g1, g2, g3⟩ := h.gl hg
  have want : ∀ σ H Q (t : TA), (∀ σ H Q, tRun C W r (fun _ => rRepL C) (evs F xs r) σ H Q → t σ H Q) → tRun C W r (fun _ => rRep C) (ev F (.call f xs) r) σ H Q → t σ H (fun vs H1 => spF C F f ps.length vs H1 Q (WE W σ)) := by
    intro σ H Q t ht ⟨G, io, m, w, sr, pp⟩
    rw [ev] at pp
    refine ht σ H _ ⟨G, io, m, w, sr, (pp.seq Mo.const sr).mono ?_⟩
    rintro vs H1 ⟨G1, io1, m1, ds, s1, w1, sr1, rds, e5, p1⟩
    refine ⟨?_, G1, io1, m1, ds, w1, rds, ?_⟩
    · rw [rds.length]
      exact e7 ds m1 fun z => by rw [z] at p1; exact p1
    · cases e6 : F f ds m1 with
      | bad => rw [e6] at p1; exact p1
      | ok d m2 => rw [e6] at p1; exact p1
      | exc x m2 => rw [e6] at p1; exact p1
  refine ⟨fun pins s σ H Q I hw => wpAny_Call_Name_kw (ld_glob I g1 e1 ?_ g2)⟩
  cases es with
  | nil =>
    obtain rfl : xs = [] := List.eq_nil_of_length_eq_zero hl
    refine PySem.W.callWith_K0 I.kIn e2 (run_X (us := []) (vs := []) e4 hr hp e3 (passAt tk σ) I .nil ?_)
    exact want σ H Q tNil (fun σ H Q ⟨G, io, m, w, sr, pp⟩ => by rw [evs] at pp; exact pp.here w rfl) hw
  | cons e es =>
    refine PySem.W.callWith_K (h₀ := X.base) I.ok.mod.kin e2 (thn ((ha r W tk).run pos pins s σ H _ I (want σ H Q _ (fun _ _ _ z => z) hw)) fun us s1 ⟨vs, H1, I1, rr, q⟩ => ⟨I1.kIn, ?_⟩) (hs es e List.mem_cons_self) (any_star es pos X.env fun es' e' he' => hs es' e' (List.mem_cons_of_mem _ he'))
    exact run_X e4 hr hp e3 (passAt tk σ) I1 rr q
end
end Wh
/-! Targets, what a for walks, comprehensions. -/
namespace Wh
open PySem L2 PySem.Spec PyProof.Rows
section
variable {C : Wd} {F : Fn} {X : Cx} {c : Cc}
/-! ### slots -/
theorem slot_set {r : Env} {i j : Nat} {s : Sl} : slot (r.set i s) j = if i = j ∧ i < r.length then s else slot r j := by
  unfold slot
  rw [List.getElem?_set]
  by_cases h : i = j
  · subst h
    by_cases hl : i < r.length
    · simp [hl]
    · simp [hl]
  · simp [h]
theorem SRel.set {σ : L2.St} {H G : Hp} {io : List Addr} {r : Env} (h : SRel C σ H G io r) (i : Nat) {d : D} {v : V} (q : Rep C G io d v) : SRel C (σ.set i (some v)) H G io (r.set i (.val d)) where
  len := by rw [List.length_set, List.length_set]; exact h.len
  at_ := fun j => by
    by_cases e : i = j ∧ i < r.length
    · rw [slot_set, if_pos e]
      obtain ⟨rfl, hl⟩ := e
      exact ⟨v, by rw [List.getElem?_set_self (by rw [h.len]; exact hl)], q⟩
    · rw [slot_set, if_neg e]
      have ne : i ≠ j ∨ ¬ i < r.length := by
        by_cases z : i = j
        · exact .inr fun l => e ⟨z, l⟩
        · exact .inl z
      have es : (σ.set i (some v))[j]? = σ[j]? := by
        rcases ne with z | z
        · rw [List.getElem?_set_ne z]
        · rw [List.set_eq_of_length_le (by rw [h.len]; omega)]
      rw [es]
      exact h.at_ j
theorem SRel.fold {H G : Hp} {io : List Addr} : ∀ {is : List Nat} {σ : L2.St} {r : Env} {ds : List D} {vs : List V}, SRel C σ H G io r → RepL C G io ds vs →
    SRel C ((is.zip vs).foldl (fun σ p => σ.set p.1 (some p.2)) σ) H G io ((is.zip ds).foldl (fun r p => r.set p.1 (.val p.2)) r)
  | [], σ, r, ds, vs, h, q => by simpa using h
  | i :: is, σ, r, [], vs, h, q => by
    obtain rfl : vs = [] := q
    simpa using h
  | i :: is, σ, r, d :: ds, vs, h, q => by
    obtain ⟨v, us, rfl, q1, q2⟩ := q
    simp only [List.zip_cons_cons, List.foldl_cons]
    exact SRel.fold (h.set i q1) q2
theorem fold_at : ∀ (is : List Nat) (vs : List V) (σ : L2.St) (j : Nat), j ∉ is → ((is.zip vs).foldl (fun σ p => σ.set p.1 (some p.2)) σ)[j]? = σ[j]?
  | [], vs, σ, j, _ => by simp
  | i :: is, [], σ, j, _ => by simp
  | i :: is, v :: vs, σ, j, h => by
    simp only [List.zip_cons_cons, List.foldl_cons]
    rw [fold_at is vs _ j fun z => h (List.mem_cons_of_mem _ z), List.getElem?_set_ne fun z => h (by rw [z]; exact List.mem_cons_self)]
theorem fold_len : ∀ (is : List Nat) (vs : List V) (σ : L2.St), ((is.zip vs).foldl (fun σ p => σ.set p.1 (some p.2)) σ).length = σ.length
  | [], vs, σ => by simp
  | i :: is, [], σ => by simp
  | i :: is, v :: vs, σ => by
    simp only [List.zip_cons_cons, List.foldl_cons]
    rw [fold_len is vs, List.length_set]
/-- fewer slots are told -/
theorem SRel.less {σ σ' : L2.St} {H G : Hp} {io : List Addr} {r r' : Env} (h : SRel C σ H G io r) (hl : σ'.length = r'.length) (hs : ∀ i, slot r' i = .no ∨ (slot r' i = slot r i ∧ σ'[i]? = σ[i]?)) : SRel C σ' H G io r' where
  len := hl
  at_ := fun i => by
    rcases hs i with e | ⟨e1, e2⟩
    · rw [e]; trivial
    · rw [e1, e2]; exact h.at_ i
theorem wipeE_len : ∀ (is : List Nat) (r : Env), (wipeE r is).length = r.length
  | [], r => rfl
  | i :: is, r => by
    show (wipeE (r.set i .no) is).length = _
    rw [wipeE_len is, List.length_set]
theorem wipeE_slot : ∀ (is : List Nat) (r : Env) (j : Nat), slot (wipeE r is) j = .no ∨ (j ∉ is ∧ slot (wipeE r is) j = slot r j)
  | [], r, j => .inr ⟨by simp, rfl⟩
  | i :: is, r, j => by
    show slot (wipeE (r.set i .no) is) j = .no ∨ _
    rcases wipeE_slot is (r.set i .no) j with e | ⟨hn, e⟩
    · exact .inl e
    · by_cases hij : i = j
      · subst hij
        rw [slot_set] at e
        by_cases hl : i < r.length
        · rw [if_pos ⟨rfl, hl⟩] at e; exact .inl e
        · rw [if_neg fun z => hl z.2] at e
          left
          rw [e]
          unfold slot
          rw [List.getElem?_eq_none (by omega)] <;> rfl
      · right
        refine ⟨by simp only [List.mem_cons, not_or]; exact ⟨fun z => hij z.symm, hn⟩, ?_⟩
        rw [show slot (wipeE r (i :: is)) j = slot (wipeE (r.set i .no) is) j from rfl, e, slot_set, if_neg fun z => hij z.1]
theorem wipe_at {σ : L2.St} {i : Nat} {vs : List Nat} (h : i ∉ vs) : (wipe σ vs)[i]? = σ[i]? := wipe_out h
theorem SRel.wipe {σ : L2.St} {H G : Hp} {io : List Addr} {r : Env} (h : SRel C σ H G io r) (is : List Nat) : SRel C (L2.wipe σ is) H G io (wipeE r is) :=
  h.less (by rw [wipe_length, wipeE_len, h.len]) fun i => by
    rcases wipeE_slot is r i with e | ⟨hn, e⟩
    · exact .inl e
    · exact .inr ⟨e, wipe_at hn⟩
/-! ### targets -/
theorem pg_mono {tg : Expr} {t t' : TG} (h : PG X tg t) (hm : ∀ v σ H Q, t' v σ H Q → t v σ H Q) : PG X tg t' := ⟨fun pins s σ H v u Q I r q => h.run pins s σ H v u Q I r (hm v σ H Q q)⟩
def gNames : List Nat → TGs
  | [] => gNil
  | i :: is => gCons (gName i) (gNames is)
theorem gNames_of : ∀ {is : List Nat} {vs : List V} {σ : L2.St} {H : Hp} {Q : L2.St → Hp → Prop}, vs.length = is.length → Q ((is.zip vs).foldl (fun σ p => σ.set p.1 (some p.2)) σ) H → gNames is vs σ H Q
  | [], vs, σ, H, Q, hl, q => by
    obtain rfl : vs = [] := List.eq_nil_of_length_eq_zero hl
    exact ⟨rfl, q⟩
  | i :: is, [], σ, H, Q, hl, q => by simp at hl
  | i :: is, v :: vs, σ, H, Q, hl, q => ⟨v, vs, rfl, gNames_of (by simpa using hl) q⟩
theorem pgs_names (h : CcX c C F X) : ∀ {es : List Expr} {is : List Nat}, (es.mapM fun e => (nameOf e).bind (slotTo c)) = some is → PGs X es (gNames is) ∧ (assignEach es X.env).length = is.length ∧ (assignEach es X.env).findIdx? (·.1) = none
  | [], is, e => by
    have e : some [] = some is := by simpa using e
    cases e
    exact ⟨pgs_nil, rfl, rfl⟩
  | t :: es, is, e => by
    rw [List.mapM_cons] at e
    obtain ⟨i, e1, e⟩ := Option.bind_eq_some_iff.mp e
    obtain ⟨is', e2, e⟩ := Option.bind_eq_some_iff.mp e
    cases e
    obtain ⟨x, e3, e4⟩ := Option.bind_eq_some_iff.mp e1
    cases t <;> simp only [nameOf, reduceCtorEq, Option.some.injEq] at e3
    subst e3
    obtain ⟨h1, h2, h3⟩ := pgs_names h e2
    obtain ⟨k1, k2, k3⟩ := h.loc e4
    refine ⟨pgs_cons (pg_name (by rw [h.N]; exact h.nd) k1 k2 k3) h1 rfl, ?_, ?_⟩
    · show (assignEach es X.env).length + 1 = _
      rw [h2] <;> rfl
    · show ((false, assign _ X.env) :: assignEach es X.env).findIdx? (·.1) = none
      rw [List.findIdx?_cons, h3] <;> rfl
def tBind (C : Wd) (t : Tg) : TG := fun v σ H Q => ∃ G io m r d r', WRel C H G io m ∧ SRel C σ H G io r ∧ Rep C G io d v ∧ bindTg t d r = some r' ∧ ∀ σ', SRel C σ' H G io r' → (∀ j, j ∉ tgIx t → σ'[j]? = σ[j]?) → σ'.length = σ.length → Q σ' H
theorem hg_of (h : CcX c C F X) (hot : c.hot = false) {tg : Expr} {t : Tg} (ht : tgOf c tg = some t) : PG X tg (tBind C t) := by
  have hN : X.N.Nodup := by rw [h.N]; exact h.nd
  cases tg <;> simp only [tgOf, reduceCtorEq] at ht
  · rename_i x pos
    obtain ⟨i, e, rfl⟩ := Option.map_eq_some_iff.mp ht
    obtain ⟨k1, k2, k3⟩ := h.loc e
    refine pg_mono (pg_name hN k1 k2 k3) fun v σ H Q ⟨G, io, m, r, d, r', w, sr, rd, eb, q⟩ => ?_
    simp only [bindTg, Option.some.injEq] at eb
    subst eb
    exact q _ (sr.set i rd) (fun j hj => List.getElem?_set_ne fun z => hj (by rw [z]; exact List.mem_singleton.mpr rfl)) (by rw [List.length_set])
  · rename_i es k pos
    obtain ⟨is, e, rfl⟩ := Option.map_eq_some_iff.mp ht
    obtain ⟨h1, h2, h3⟩ := pgs_names h e
    refine pg_mono (pg_tup (n := is.length) (h.glb.calm hot) h1 h2 h3) fun v σ H Q ⟨G, io, m, r, d, r', w, sr, rd, eb, q⟩ => ?_
    cases d <;> simp only [bindTg, reduceCtorEq] at eb
    rename_i xs
    split at eb
    · rename_i hl
      simp only [Option.some.injEq] at eb
      subst eb
      obtain ⟨a, vs, rfl, qa, za, la⟩ := rd
      refine ⟨a, vs, rfl, by rw [h.glb.K]; exact w.sqT qa, by rw [la.length]; exact hl, gNames_of (by rw [la.length]; exact hl) (q _ (sr.fold la) (fun j hj => fold_at _ _ _ _ hj) (fold_len _ _ _))⟩
    · cases eb
/-! ### what is walked -/
structure SrcOk (C : Wd) (J : It) (items : List D) (H1 G1 : Hp) (io1 : List Addr) : Prop where
  len : items.length ≤ sizeLine
  walk : ∃ (Gd : Hp → Prop) (Y : Nat → Hp → V → Hp → Prop), Walk J items.length Gd Y ∧ (∀ H G io m, Step H1 G1 io1 H G io → WRel C H G io m → Gd H) ∧
    ∀ i H x H' G io m d, Step H1 G1 io1 H G io → WRel C H G io m → Y i H x H' → items[i]? = some d → ∃ G', Step H G io H' G' io ∧ WRel C H' G' io m ∧ Rep C G' io d x
section
variable {H G : Hp} {io : List Addr} {m : Mu}
theorem pair_step {H G : Hp} {io : List Addr} {m : Mu} (w : WRel C H G io m) {T : Addr} {x y : V} {d e : D} (hT : H T = none) (rx : Rep C G io d x) (ry : Rep C G io e y) :
    ∃ G', Step H G io (upd H T (.tup [x, y])) G' io ∧ WRel C (upd H T (.tup [x, y])) G' io m ∧ Rep C G' io (.tup [d, e]) (.ref T) := by
  have hg := w.freshG hT
  have up : ∀ b z, G b = some z → upd G T (.tup [x, y]) b = some z := fun b z e => by rw [upd_ne (ne_of_none e hg)]; exact e
  exact ⟨upd G T (.tup [x, y]), tup_step hT hg, (w.laid hT).freeze upd_same (fun _ _ e => by cases e) hg (w.freshIo hT), T, [x, y], rfl, .inl (.inl upd_same), by show 2 ≤ sizeLine; decide, x, [y], rfl, Rep.mono up List.prefix_rfl _ _ rx, y, [], rfl, Rep.mono up List.prefix_rfl _ _ ry, rfl⟩
theorem src_list {a : Addr} {vs : List V} {xs : List D} (hr : Rd H a (.lst vs)) (hi : a ∈ io → ∃ o, H a = some (.frz o (.lst vs))) (hz : vs.length ≤ sizeLine) (l : RepL C G io xs vs) : SrcOk C (Itl C.K a) xs H G io := by
  refine ⟨by rw [← l.length]; exact hz, fun H => SqL C.K H a vs, YAt vs, by rw [← l.length]; exact walk_list, fun H' G' io' m' s w => ?_, fun i H' x H'' G' io' m' d s w y e => ?_⟩
  · rcases hr with q | ⟨o, q⟩
    · by_cases ha : a ∈ io
      · obtain ⟨o, q⟩ := hi ha
        exact .inl (.inr ⟨o, s.ext _ _ q fun _ => ⟨_, _, rfl⟩⟩)
      · exact .inl (.inl (s.ext _ _ q fun z => absurd z ha))
    · exact .inl (.inr ⟨o, s.ext _ _ q fun _ => ⟨_, _, rfl⟩⟩)
  · obtain ⟨rfl, ex⟩ := y
    obtain ⟨d', e1, e2⟩ := l.get' ex
    rw [e] at e1
    cases e1
    exact ⟨G', Step.refl _ _ _, w, e2.step s⟩
theorem src_tup {a : Addr} {vs : List V} {xs : List D} (q : SqT C.K G a vs) (hz : vs.length ≤ sizeLine) (l : RepL C G io xs vs) : SrcOk C (Itt C.K a) xs H G io := by
  refine ⟨by rw [← l.length]; exact hz, fun H => SqT C.K H a vs, YAt vs, by rw [← l.length]; exact walk_tup, fun H' G' io' m' s w => w.sqT (SqT.mono s.g q), fun i H' x H'' G' io' m' d s w y e => ?_⟩
  obtain ⟨rfl, ex⟩ := y
  obtain ⟨d', e1, e2⟩ := l.get' ex
  rw [e] at e1
  cases e1
  exact ⟨G', Step.refl _ _ _, w, e2.step s⟩
theorem src_str {z : Str} (hz : z.length ≤ sizeLine) : SrcOk C (Its z) (strD z) H G io := by
  have hl : (strD z).length = z.cps.size := by unfold strD; rw [List.length_map, Array.length_toList]
  refine ⟨by rw [hl]; exact hz, fun _ => True, _, by rw [hl]; exact walk_str, fun _ _ _ _ _ _ => trivial, fun i H' x H'' G' io' m' d s w y e => ?_⟩
  obtain ⟨rfl, k, ek, rfl⟩ := y
  unfold strD at e
  rw [List.getElem?_map, Array.getElem?_toList, ek] at e
  cases e
  exact ⟨G', Step.refl _ _ _, w, rfl⟩
theorem rngL_len (a c : Int) (n : Nat) : (rngL a c n).length = n := by unfold rngL; rw [List.length_map, List.length_range]
theorem rngL_get {a c : Int} {n i : Nat} {d : D} (h : (rngL a c n)[i]? = some d) : d = .int (a + (i : Int) * c) := by
  unfold rngL at h
  rw [List.getElem?_map] at h
  obtain ⟨k, e1, e2⟩ := Option.map_eq_some_iff.mp h
  have hi : i < n := by
    have := (List.getElem?_eq_some_iff.mp e1).1
    simpa using this
  rw [List.getElem?_range hi] at e1
  cases e1
  exact e2.symm
theorem src_rng {lo : Int} {n : Nat} (hz : n ≤ sizeLine) : SrcOk C (Itr lo n) (rngL lo 1 n) H G io := by
  refine ⟨by rw [rngL_len]; exact hz, fun _ => True, _, by rw [rngL_len]; exact walk_range, fun _ _ _ _ _ _ => trivial, fun i H' x H'' G' io' m' d s w y e => ?_⟩
  obtain ⟨rfl, rfl⟩ := y
  rw [rngL_get e, Int.mul_one]
  exact ⟨G', Step.refl _ _ _, w, rfl⟩
theorem src_rngC {lo k : Int} {n : Nat} (hz : n ≤ sizeLine) : SrcOk C (Itc lo k n) (rngL lo k n) H G io := by
  refine ⟨by rw [rngL_len]; exact hz, fun _ => True, _, by rw [rngL_len]; exact walk_rangeC, fun _ _ _ _ _ _ => trivial, fun i H' x H'' G' io' m' d s w y e => ?_⟩
  obtain ⟨rfl, rfl⟩ := y
  rw [rngL_get e]
  exact ⟨G', Step.refl _ _ _, w, rfl⟩
theorem src_enum {a : Addr} {vs : List V} {xs : List D} (hr : Rd H a (.lst vs)) (hi : a ∉ io) (hz : vs.length ≤ sizeLine) (l : RepL C G io xs vs) : SrcOk C (Ite C.K a) (xs.mapIdx fun i x => .tup [.int i, x]) H G io := by
  have hl : (xs.mapIdx fun i x => D.tup [.int i, x]).length = vs.length := by rw [List.length_mapIdx, l.length]
  refine ⟨by rw [hl]; exact hz, fun H => SqL C.K H a vs, _, by rw [hl]; exact walk_enum, fun H' G' io' m' s w => .inl (s.rd hi hr), fun i H' x H'' G' io' m' d s w y e => ?_⟩
  obtain ⟨T, x', y', rfl, hT, rfl, e1, e2⟩ := y
  cases e1
  obtain ⟨d', e3, e4⟩ := l.get' e2
  rw [List.getElem?_mapIdx, e3] at e
  cases e
  exact pair_step w hT rfl (e4.step s)
theorem zip_get {xs ys : List D} {i : Nat} {d e f : D} (h1 : xs[i]? = some d) (h2 : ys[i]? = some e) (h : ((xs.zip ys).map fun p => D.tup [p.1, p.2])[i]? = some f) : f = .tup [d, e] := by
  rw [List.getElem?_map] at h
  obtain ⟨p, e1, e2⟩ := Option.map_eq_some_iff.mp h
  obtain ⟨a, b, q1, q2⟩ : xs[i]? = some p.1 ∧ ys[i]? = some p.2 ∧ True ∧ True := by
    have := List.getElem?_zip_eq_some.mp e1
    exact ⟨this.1, this.2, trivial, trivial⟩
  rw [h1] at a; rw [h2] at b
  cases a; cases b
  exact e2.symm
theorem src_zip {a b : Addr} {vs us : List V} {xs ys : List D} (hr : Rd H a (.lst vs)) (hi : a ∉ io) (hr2 : Rd H b (.lst us)) (hi2 : b ∉ io) (hz : vs.length ≤ sizeLine) (l : RepL C G io xs vs) (l2 : RepL C G io ys us) : SrcOk C (Itz C.K a b) ((xs.zip ys).map fun p => .tup [p.1, p.2]) H G io := by
  have e1 := l.length
  have e2 := l2.length
  have hl : ((xs.zip ys).map fun p => D.tup [p.1, p.2]).length = min vs.length us.length := by rw [List.length_map, List.length_zip, e1, e2]
  refine ⟨by rw [hl]; omega, fun H => SqL C.K H a vs ∧ SqL C.K H b us, _, by rw [hl]; exact walk_zip rfl, fun H' G' io' m' s w => ⟨.inl (s.rd hi hr), .inl (s.rd hi2 hr2)⟩, fun i H' x H'' G' io' m' d s w y e => ?_⟩
  obtain ⟨T, x', y', rfl, hT, rfl, f1, f2⟩ := y
  obtain ⟨d1, f3, f4⟩ := l.get' f1
  obtain ⟨d2, f5, f6⟩ := l2.get' f2
  rw [zip_get f3 f5 e]
  exact pair_step w hT (f4.step s) (f6.step s)
theorem walk_zipT {K : PySem.W.Frag} {a b : Addr} {xs ys : List V} : Walk (RZ.ItzT K a b) (min xs.length ys.length) (fun H => SqT K H a xs ∧ SqT K H b ys) (YPair (fun i => xs[i]?) (fun i => ys[i]?)) := by
  refine ⟨fun i _ hi q => ?_, fun _ q => ⟨xs, ys, q.1, q.2, by omega⟩, fun i H v H' _ q y => ?_⟩
  · have h1 : i < xs.length := by omega
    have h2 : i < ys.length := by omega
    exact ⟨xs, ys, xs[i], ys[i], q.1, q.2, by simp [h1], by simp [h2]⟩
  · obtain ⟨T, x, z, h1, h2, h3, h4, h5⟩ := y
    exact ⟨T, x, z, h1, h2, h3, h4 xs q.1, h5 ys q.2⟩
theorem src_zipT {a b : Addr} {vs us : List V} {xs ys : List D} (q : SqT C.K G a vs) (q2 : SqT C.K G b us) (hz : vs.length ≤ sizeLine) (l : RepL C G io xs vs) (l2 : RepL C G io ys us) : SrcOk C (RZ.ItzT C.K a b) ((xs.zip ys).map fun p => .tup [p.1, p.2]) H G io := by
  have e1 := l.length
  have e2 := l2.length
  have hl : ((xs.zip ys).map fun p => D.tup [p.1, p.2]).length = min vs.length us.length := by rw [List.length_map, List.length_zip, e1, e2]
  refine ⟨by rw [hl]; omega, fun H => SqT C.K H a vs ∧ SqT C.K H b us, _, by rw [hl]; exact walk_zipT, fun H' G' io' m' s w => ⟨w.sqT (SqT.mono s.g q), w.sqT (SqT.mono s.g q2)⟩, fun i H' x H'' G' io' m' d s w y e => ?_⟩
  obtain ⟨T, x', y', rfl, hT, rfl, f1, f2⟩ := y
  obtain ⟨d1, f3, f4⟩ := l.get' f1
  obtain ⟨d2, f5, f6⟩ := l2.get' f2
  rw [zip_get f3 f5 e]
  exact pair_step w hT (f4.step s) (f6.step s)
end
end
end Wh
/-! enumerate(t), t a tuple. -/
namespace Wh
open PySem L2 PySem.Spec PyProof.Rows
open AutoSeq1 (wpAny_loadPart')
theorem enT_new (tp : Addr) (vals : Array Value) (cap : Nat) (dd : Option Addr) (sls : Array (Option Value)) :
    Meets (Builtin.«enumerate.__new__» ⟨[.type "enumerate", .ref tp], []⟩) (fun _ R s => s.heap.get? tp = some { cls := .type "tuple", dict := dd, data := .seq vals cap, slots := sls } ∧
      R (.ok (.ret (.ref (s.heap.push { cls := .type "tuple_iterator", data := .fields #[.ref tp, .int 0 0] }).objs.size)))
        { s with heap := (s.heap.push { cls := .type "tuple_iterator", data := .fields #[.ref tp, .int 0 0] }).push { cls := .type "enumerate", data := .fields #[.none, .bool false, .ref s.heap.objs.size, rawInt 0, .none, .none] } }) :=
  .of_wp fun pr wo Ar Re s h => by
    obtain ⟨hp, gs, dr, tks, oss⟩ := s
    obtain ⟨hget, hend⟩ := h
    have hsb := sub_enumerate
    have hTu : Heap.IsTuple (Shared.heap ⟨hp, gs, dr, tks, oss⟩) tp vals := ⟨_, hget, rfl, cap, rfl⟩
    wp_walk using wpAny_loadPart' hget
    refine wpAny_stack_any fun stk => wpAny_pure ?_
    split
    · rename_i cc _ _ _ _ _
      cases (cc == Value.type "enumerate") <;>
        (wp_walk using wpAny_loadPart' hget, wpAny_pyIter_tuple hTu
         exact ⟨_, rfl, hend⟩)
    · wp_walk using wpAny_loadPart' hget, wpAny_pyIter_tuple hTu
      exact ⟨_, rfl, hend⟩
section
variable {prog : Program} {w : World} {A : Around} {E : Value → Shared → Prop} {s : Shared}
theorem call_enT {tp : Addr} {vals : Array Value} {Q : Value → Shared → Prop} (hTu : s.heap.IsTuple tp vals)
    (h : ∀ h1, IsEnum h1 (s.heap.objs.size + 1) s.heap.objs.size 0 .none → h1.IsTupleIter s.heap.objs.size tp 0 → (∀ b o, s.heap.get? b = some o → h1.get? b = some o) → Q (.ref (s.heap.objs.size + 1)) { s with heap := h1 }) :
    wpAny (model prog w) A (call (.type "enumerate") [.ref tp]) Q E s := by
  obtain ⟨⟨cc, dd, dt, sls⟩, hget, hcl, cap, hdt⟩ := hTu
  obtain rfl : cc = .type "tuple" := hcl
  obtain rfl : dt = .seq vals cap := hdt
  refine callType_new F.called_enumerate (by decide) (F.typeCall_enumerate_1 _) (F.newCall_enumerate_1 _) (fun ob => F.args_object_init_2 ob _) F.entry_enumerate_new (enT_new tp vals cap dd sls) ⟨hget, ?_⟩
  have hsz : (s.heap.push { cls := .type "tuple_iterator", data := .fields #[.ref tp, .int 0 0] }).objs.size = s.heap.objs.size + 1 := Heap.size_push ..
  show _ ∧ _
  rw [hsz]
  have hen : IsEnum ((s.heap.push { cls := .type "tuple_iterator", data := .fields #[.ref tp, .int 0 0] }).push { cls := .type "enumerate", data := .fields #[.none, .bool false, .ref s.heap.objs.size, rawInt 0, .none, .none] }) (s.heap.objs.size + 1) s.heap.objs.size 0 .none := by
    have q := Heap.get?_push_size (s.heap.push { cls := .type "tuple_iterator", data := .fields #[.ref tp, .int 0 0] }) (o := { cls := .type "enumerate", data := .fields #[.none, .bool false, .ref s.heap.objs.size, rawInt 0, .none, .none] }) rfl
    rw [hsz] at q
    exact q
  exact ⟨⟨_, hen, rfl⟩, h _ hen ⟨_, Heap.get?_push_of_some _ (Heap.get?_push_size _ rfl), rfl, rfl⟩ fun b o z => Heap.get?_push_of_some _ (Heap.get?_push_of_some _ z)⟩
end
/-- the tuple at a, each item in a new pair -/
def IteT (K : PySem.W.Frag) (a : Addr) (xs : List V) : It :=
  ⟨fun i H => SqT K H a xs ∧ ∃ x, xs[i]? = some x, fun i H v H' => ∃ T x, v = .ref T ∧ H T = none ∧ H' = upd H T (.tup [.int (i : Nat), x]) ∧ xs[i]? = some x, fun i H => SqT K H a xs ∧ xs.length ≤ i⟩
theorem turn_enT {P : Program} {w : World} {K : PySem.W.Frag} {elts : List Expr} {kk : Nat} {tpos : Pos} (a e it : Addr) (xs : List V) (hae : a ≠ e) (hai : a ≠ it) (hei : e ≠ it) :
    Turn P w K (.Tuple elts kk tpos) (IteT K a xs) [e, it] e (fun i h => (∃ old, IsEnum h e it ((i : Nat) : Int) old) ∧ h.IsTupleIter it a i ∧ i ≤ xs.length) where
  mem := by simp
  obj := fun i h st b hb => by
    obtain ⟨⟨old, hE⟩, ⟨o, ho, hcl, hdt⟩, _⟩ := st
    rcases (show b = e ∨ b = it by simpa using hb) with z | z
    · rw [z]; exact ⟨_, hE, fun v q => nomatch q⟩
    · rw [z]; exact ⟨o, ho, fun v q => by rw [hdt] at q; cases q⟩
  keep := fun i h h' st k => by
    obtain ⟨⟨old, hE⟩, hI, hn⟩ := st
    exact ⟨⟨old, k e (by simp) _ hE⟩, hI.at fun o q => k it (by simp) o q, hn⟩
  item := by
    intro X hP hw hK hc i pins s σ H E I hf st hg
    subst hP hw hK
    obtain ⟨⟨old, hE⟩, hI, hn⟩ := st
    obtain ⟨hq, x, hx⟩ := hg
    obtain ⟨its, rv, hT, hz⟩ := I.tuple hq
    obtain ⟨u, hu, ru⟩ := rv.get hx
    have hil : i < its.toArray.size := by
      rw [List.size_toArray]
      exact (List.getElem?_eq_some_iff.mp hu).1
    have hel : e < s.heap.objs.size := Heap.lt_size hE
    have hitl : it < s.heap.objs.size := by obtain ⟨_, q, _⟩ := hI; exact Heap.lt_size q
    have hef : e ∉ [it, a] := by simp; exact ⟨hei, Ne.symm hae⟩
    refine wpAny_pyNext_enum_itemD (Draws.tuple (A := X.A.in1) (I.ok.hd hc) it a hai its.toArray) hE ⟨hI, hT⟩ hil hei hef fun u' h' tk hu' ho hs' hTn hsz hk => ?_
    have e0 : u' = u := by
      have : its[i]? = some u' := by simpa using hu'
      rw [hu] at this
      cases this
      rfl
    subst e0
    refine ⟨_, rfl, wpAny_letOwnedTupleGo_enum (s := { s with heap := h', toks := tk + 1 }) ho fun h'' hE' sb => ?_⟩
    have hT2 : h''.get? s.heap.objs.size = some { cls := .type "tuple", data := .seq #[.int i tk, u'] } := (sb.2 _ (Nat.ne_of_gt hel)).trans hTn
    have nw : ObjOk X.prog X.w (upd H s.heap.objs.size (.tup [.int (i : Nat), x])) h'' s.heap.objs.size (.tup [.int (i : Nat), x]) :=
      ⟨by show 2 ≤ sizeLine; decide, [.int i tk, u'], .cons ⟨_, rfl⟩ (.cons ru .nil), ⟨_, hT2, rfl, _, rfl⟩⟩
    have I1 : Inv X pins σ (upd H s.heap.objs.size (.tup [.int (i : Nat), x])) { s with heap := h'', toks := tk + 1 } :=
      I.turnedNew (ch := [e, it]) (fun b ob hb q => (sb.2 b (fun z => hb (by simp [z]))).trans (hk b ob (fun z => hb (by simp [z])) (fun z => hb (by simp [z])) q)) hf (Nat.le_refl _) nw
    refine ⟨.ref s.heap.objs.size, _, I1, rfl, ⟨_, x, rfl, I.hok.fresh (Nat.le_refl _), rfl, hx⟩, ⟨⟨u', ?_⟩, hs'.1.at fun o q => (sb.2 it (Ne.symm hei)).trans q, (List.getElem?_eq_some_iff.mp hx).1⟩, fun b hb => ?_⟩
    · rw [show ((i + 1 : Nat) : Int) = (i : Int) + 1 by omega]
      exact hE'
    · have hb' : b < s.heap.objs.size := by
        rcases (show b = e ∨ b = it by simpa using hb) with z | z
        · rw [z]; exact hel
        · rw [z]; exact hitl
      rw [upd_ne (Nat.ne_of_lt hb')]
      exact (hf b hb).1
  done := by
    intro X hP hw hK hc i pins s σ H E I hf st hg
    subst hP hw hK
    obtain ⟨⟨old, hE⟩, hI, hn⟩ := st
    obtain ⟨hq, hx⟩ := hg
    obtain ⟨its, rv, hT, hz⟩ := I.tuple hq
    obtain ⟨f0, f1, f2, f3, f4, f5⟩ := hf it (by simp)
    have hl := rv.length
    have ei : i = its.toArray.size := by rw [List.size_toArray]; omega
    refine wpAny_pyNext_enum_endD (Draws.tuple (A := X.A.in1) (I.ok.hd hc) it a hai its.toArray) hE ⟨ei ▸ hI, hT⟩ fun h' eb => ⟨rfl, I.turned (t' := s.toks) (fun b o hb q => eb b o hb q) f0 f1 f3 f4 f5⟩
  self := fun A i s Q E st h => let ⟨⟨_, hE⟩, _⟩ := st; wpAny_pyIter_enum hE h
/-- a list or a tuple, counted -/
def iEnA (K : PySem.W.Frag) (ta : TA) : TI := fun σ H R => ta σ H fun vs H1 => ∃ a xs, vs = [.ref a] ∧ ((SqL K H1 a xs ∧ R (Ite K a) H1) ∨ (SqT K H1 a xs ∧ R (IteT K a xs) H1))
theorem pi_enA {X : Cx} {e : Expr} {ta : TA} {p pos tpos : Pos} {elts : List Expr} {kk : Nat} (hg : Gl X "enumerate") (hm : X.mg "enumerate" = none) (ha : PA X [e] ta) (hs : starEach [e] X.env = [(false, eval e X.env)] := by rfl) :
    PI X (.Tuple elts kk tpos) (.Call (.Name "enumerate" p) [e] [] pos) (iEnA X.K ta) := by
  refine ⟨fun pins s σ H R I h => ?_⟩
  refine Call_ (ld_blt I hg hm boot_enumerate (PyProof.Rows.callWith_type1 (thn (ha.run pos pins s σ H _ I h) fun us st ⟨ws, H1, I1, rw_, qw⟩ => ?_) hs rfl))
  obtain ⟨a, xs, rfl, alt⟩ := qw
  have eu := Vals.ref1 rw_
  subst eu
  have fin : ∀ {hn : Heap} {J : It} {Sg : Nat → Heap → Prop}, (∀ b o, st.heap.get? b = some o → hn.get? b = some o) → Turn X.prog X.w X.K (.Tuple elts kk tpos) J [st.heap.objs.size + 1, st.heap.objs.size] (st.heap.objs.size + 1) Sg → Sg 0 hn → R J H1 → PIE X pins σ (.Tuple elts kk tpos) R (.ref (st.heap.objs.size + 1)) { st with heap := hn } := fun {hn J Sg} hk tu s0 q => by
    refine ⟨st.heap.objs.size + 1, [st.heap.objs.size + 1, st.heap.objs.size], _, _, H1, rfl, I1.kept (t' := st.toks) hk, tu, s0, fun b hb => ?_, q⟩
    have hle : st.heap.objs.size ≤ b := by
      rcases (show b = st.heap.objs.size + 1 ∨ b = st.heap.objs.size by simpa using hb) with z | z
      · rw [z]; exact Nat.le_succ _
      · rw [z]; exact Nat.le_refl _
    exact I1.fpOk hle (I1.hok.fresh hle)
  rcases alt with ⟨hq, q⟩ | ⟨hq, q⟩
  · obtain ⟨its, rv, pl, hz⟩ := I1.list hq
    exact call_enumerate_list pl.isList fun hn he hit hsz hk => wpAny_pyIter_enum he (fin hk (turn_enum a (st.heap.objs.size + 1) st.heap.objs.size) ⟨⟨.none, he⟩, hit, Nat.succ_ne_self _⟩ q)
  · obtain ⟨its, rv, hT, hz⟩ := I1.tuple hq
    have hlt : a < st.heap.objs.size := by obtain ⟨_, e1, _⟩ := hT; exact Heap.lt_size e1
    exact call_enT hT fun hn he hit hk => wpAny_pyIter_enum he (fin hk (turn_enT a (st.heap.objs.size + 1) st.heap.objs.size xs (Nat.ne_of_lt (Nat.lt_succ_of_lt hlt)) (Nat.ne_of_lt hlt) (Nat.succ_ne_self _)) ⟨⟨.none, he⟩, hit, Nat.zero_le _⟩ q)
theorem walk_enT {K : PySem.W.Frag} {a : Addr} {xs : List V} : Walk (IteT K a xs) xs.length (fun H => SqT K H a xs) (YPair (fun i => some (.int (i : Nat))) (fun i => xs[i]?)) := by
  refine ⟨fun i _ hi q => ⟨q, xs[i], by simp [hi]⟩, fun _ q => ⟨q, Nat.le_refl _⟩, fun i H v H' _ q y => ?_⟩
  obtain ⟨T, x, h1, h2, h3, h4⟩ := y
  exact ⟨T, .int (i : Nat), x, h1, h2, h3, rfl, h4⟩
theorem src_enT {C : Wd} {H G : Hp} {io : List Addr} {a : Addr} {vs : List V} {xs : List D} (q : SqT C.K G a vs) (hz : vs.length ≤ sizeLine) (l : RepL C G io xs vs) : SrcOk C (IteT C.K a vs) (xs.mapIdx fun i x => .tup [.int i, x]) H G io := by
  have hl : (xs.mapIdx fun i x => D.tup [.int i, x]).length = vs.length := by rw [List.length_mapIdx, l.length]
  refine ⟨by rw [hl]; exact hz, fun H => SqT C.K H a vs, _, by rw [hl]; exact walk_enT, fun H' G' io' m' s w => w.sqT (SqT.mono s.g q), fun i H' x H'' G' io' m' d s w y e => ?_⟩
  obtain ⟨T, x', y', rfl, hT, rfl, e1, e2⟩ := y
  cases e1
  obtain ⟨d', e3, e4⟩ := l.get' e2
  rw [List.getElem?_mapIdx, e3] at e
  cases e
  exact pair_step w hT rfl (e4.step s)
end Wh
/-! Locks; the sources of a comprehension. -/
namespace Wh
open PySem L2 PySem.Spec PyProof.Rows
def NoF (X : Cx) (d : Addr) : Prop := ∀ o' u', X.H_0 d ≠ some (.frz o' u')
def LD : HO → Prop
  | .lst _ => True
  | .dK _ => True
  | _ => False
theorem LD.mut {u : HO} (h : LD u) : Mut (some u) := by cases u <;> first | exact h.elim | exact trivial
theorem LD.nofrz {u : HO} (h : LD u) : ∀ o x, u ≠ .frz o x := fun o x e => by subst e; exact h
theorem LD.noins {u : HO} (h : LD u) : ∀ A dx fs, u ≠ .ins A dx fs := fun A dx fs e => by subst e; exact h
/-- a thing is locked while it is walked -/
def Lkd (X : Cx) (H1 H2 : Hp) (io : List Addr) (lk : Option Nat) (dk : Bool) : Prop :=
  (H2 = H1 ∧ lk = none) ∨ ∃ d od u, H1 d = some u ∧ LD u ∧ H2 = upd H1 d (.frz od u) ∧ NoF X d ∧ (match lk with
    | some n => io[n]? = some d
    | none => d ∉ io) ∧ (lk ≠ none ∨ dk = true)
def dkOf (ds : List D) (m : Mu) : Bool := match ds with
  | [d] => match look m d with
    | .dic _ => true
    | _ => false
  | _ => false
section
variable {X : Cx}
def tLockA (X : Cx) (t : TE) : TE := fun σ H Q => t σ H fun v H1 => Q v H1 ∨ ∃ d u, H1 d = some u ∧ Mut (some u) ∧ ∀ od, NoF X d → Q v (upd H1 d (.frz od u))
theorem pe_lockA {e : Expr} {t : TE} (h : PE X e t) : PE X e (tLockA X t) := ⟨fun pins s σ H Q I hw =>
  thn (h.run pins s σ H _ I hw) fun v s1 ⟨x, H1, I1, r, q⟩ => by
    rcases q with q | ⟨d, u, e, mu, q⟩
    · exact ⟨x, H1, I1, r, q⟩
    · obtain ⟨od, I2⟩ := I1.lock e mu
      exact ⟨x, _, I2, r, q od (I1.nofrz e mu)⟩⟩
def tUnl (X : Cx) (t : TE) : TE := fun σ H Q => t σ H fun v H1 => Q v H1 ∨ ∃ d od u, H1 d = some (.frz od u) ∧ NoF X d ∧ Q v (upd H1 d u)
theorem pe_unl {e : Expr} {t : TE} (h : PE X e t) : PE X e (tUnl X t) := ⟨fun pins s σ H Q I hw =>
  thn (h.run pins s σ H _ I hw) fun v s1 ⟨x, H1, I1, r, q⟩ => by
    rcases q with q | ⟨d, od, u, e, nf, q⟩
    · exact ⟨x, H1, I1, r, q⟩
    · exact ⟨x, _, I1.unlock e nf, r, q⟩⟩
theorem pi_or {tg e : Expr} {w w' : TI} (h : PI X tg e w) (h' : PI X tg e w') : PI X tg e (fun σ H R => w σ H R ∨ w' σ H R) := ⟨fun pins s σ H R I q => by
  rcases q with q | q
  · exact h.run pins s σ H R I q
  · exact h'.run pins s σ H R I q⟩
theorem pi_mono {tg e : Expr} {w w' : TI} (h : PI X tg e w) (hm : ∀ σ H R, w' σ H R → w σ H R) : PI X tg e w' := ⟨fun pins s σ H R I q => h.run pins s σ H R I (hm σ H R q)⟩
end
section
variable {C : Wd} {F : Fn} {X : Cx} {c : Cc}
theorem modify_get {α : Type} {l : List α} {n k : Nat} {f : α → α} : (l.modify n f)[k]? = if n = k then (l[k]?).map f else l[k]? := by
  rw [List.getElem?_modify]
  split <;> simp
theorem Lkd.wrel {H1 H2 G : Hp} {io : List Addr} {lk : Option Nat} {dk : Bool} {m : Mu} (L : Lkd X H1 H2 io lk dk) (w : WRel C H1 G io m) : WRel C H2 G io (lockO lk m) := by
  rcases L with ⟨rfl, rfl⟩ | ⟨d, od, u, hd, ld, rfl, nf, hl, _⟩
  · exact w
  · have lk_len : (lockO lk m).length = m.length := by cases lk <;> simp [lockO]
    refine ⟨fun a x e => ?_, w.nofrz, by rw [lk_len]; exact w.len, w.nd, w.off, fun n a l x h1 h2 => ?_⟩
    · have q := w.sub a x e
      by_cases ha : a = d
      · subst ha
        have r := w.sub.rd e
        rcases r with r | ⟨o, r⟩
        · rw [hd] at r
          cases r
          cases u <;> first | exact ld.elim | exact .inr ⟨od, upd_same⟩
        · rw [hd] at r
          cases r
          exact ld.elim
      · cases x <;> first
          | (rw [upd_ne ha]; exact q)
          | (rcases q with q | ⟨o, q⟩
             · exact .inl (by rw [upd_ne ha]; exact q)
             · exact .inr ⟨o, by rw [upd_ne ha]; exact q⟩)
    · by_cases ha : a = d
      · subst ha
        cases lk with
        | none => exact absurd (List.mem_of_getElem? h1) hl
        | some k =>
          have hk : k = n := by
            have l1 := (List.getElem?_eq_some_iff.mp hl).1
            have l2 := (List.getElem?_eq_some_iff.mp h1).1
            exact (List.getElem_inj (i := k) (j := n) w.nd).mp (by
              have a1 := (List.getElem?_eq_some_iff.mp hl).2
              have a2 := (List.getElem?_eq_some_iff.mp h1).2
              rw [a1, a2])
          subst hk
          simp only [lockO, modify_get, if_true] at h2
          obtain ⟨⟨l0, d0⟩, e1, e2⟩ := Option.map_eq_some_iff.mp h2
          obtain rfl : true = l := congrArg Prod.fst e2
          obtain rfl : d0 = x := congrArg Prod.snd e2
          obtain ⟨u', ob, hr, hi, hf, ht⟩ := w.box k a l0 d0 h1 e1
          have eu : u' = u := by
            rcases hr with r | ⟨o, r⟩
            · rw [hd] at r; cases r; rfl
            · rw [hd] at r; cases r; exact ld.elim
          subst eu
          exact ⟨u', ob, .inr ⟨od, upd_same⟩, fun A dx fs z => absurd z (ld.noins A dx fs), fun z => (by cases z), fun _ => ⟨od, upd_same⟩⟩
      · have h2' : m[n]? = some (l, x) := by
          cases lk with
          | none => exact h2
          | some k =>
            simp only [lockO, modify_get] at h2
            by_cases hk : k = n
            · subst hk
              have hl : io[k]? = some d := hl
              rw [h1] at hl
              cases hl
              exact absurd rfl ha
            · rw [if_neg hk] at h2; exact h2
        obtain ⟨u', ob, hr, hi, hf, ht⟩ := w.box n a l x h1 h2'
        refine ⟨u', ob, ?_, fun A dx fs z => by rw [upd_ne ha]; exact hi A dx fs z, fun z => by rw [upd_ne ha]; exact hf z, fun z => by rw [upd_ne ha]; exact ht z⟩
        rcases hr with r | ⟨o, r⟩
        · exact .inl (by rw [upd_ne ha]; exact r)
        · exact .inr ⟨o, by rw [upd_ne ha]; exact r⟩
/-- behind the walk it is as it was -/
theorem Lkd.back {H1 H2 G Hf Gf : Hp} {io iof : List Addr} {lk : Option Nat} {dk : Bool} {mf : Mu} (L : Lkd X H1 H2 io lk dk) (s : Step H2 G io Hf Gf iof) (w : WRel C Hf Gf iof mf) :
    ∃ Hu, (Hu = Hf ∨ ∃ d od u, Hf d = some (.frz od u) ∧ NoF X d ∧ Hu = upd Hf d u) ∧ Step H1 G io Hu Gf iof ∧ WRel C Hu Gf iof (unlockO lk mf) ∧ ∀ b, H2 b = none → Hu b = Hf b := by
  rcases L with ⟨rfl, rfl⟩ | ⟨d, od, u, hd, ld, rfl, nf, hl, _⟩
  · exact ⟨Hf, .inl rfl, s, w, fun _ _ => rfl⟩
  · have hf : Hf d = some (.frz od u) := s.ext d _ upd_same fun _ => ⟨_, _, rfl⟩
    refine ⟨upd Hf d u, .inr ⟨d, od, u, hf, nf, rfl⟩, ⟨fun a o e hc => ?_, fun a e => ?_, s.g, fun a x e => ?_, s.pre, fun a e => ?_⟩, ⟨fun a x e => ?_, w.nofrz, ?_, w.nd, w.off, fun n a l x h1 h2 => ?_⟩, fun b hb => ?_⟩
    · by_cases ha : a = d
      · subst ha
        rw [hd] at e; cases e
        exact upd_same
      · rw [upd_ne ha]
        exact s.ext a o (by rw [upd_ne ha]; exact e) hc
    · by_cases ha : a = d
      · subst ha; rw [upd_same] at e; cases e
      · rw [upd_ne ha] at e
        have := s.alive a e
        rw [upd_ne ha] at this; exact this
    · rcases s.gnew a x e with q | q
      · exact .inl q
      · by_cases ha : a = d
        · subst ha; rw [upd_same] at q; cases q
        · rw [upd_ne ha] at q; exact .inr q
    · rcases s.new a e with q | q
      · exact .inl q
      · by_cases ha : a = d
        · subst ha; rw [upd_same] at q; cases q
        · rw [upd_ne ha] at q; exact .inr q
    · have q := w.sub a x e
      by_cases ha : a = d
      · subst ha
        have r := w.sub.rd e
        rcases r with r | ⟨o, r⟩
        · rw [hf] at r; cases r; exact absurd e (w.nofrz _ _ _)
        · rw [hf] at r
          cases r
          cases u <;> first | exact ld.elim | exact .inl upd_same
      · cases x <;> first
          | (rw [upd_ne ha]; exact q)
          | (rcases q with q | ⟨o, q⟩
             · exact .inl (by rw [upd_ne ha]; exact q)
             · exact .inr ⟨o, by rw [upd_ne ha]; exact q⟩)
    · rw [w.len]; cases lk <;> simp [unlockO]
    · by_cases ha : a = d
      · subst ha
        cases lk with
        | none =>
          rcases s.new a (List.mem_of_getElem? h1) with q | q
          · exact absurd q hl
          · rw [upd_same] at q; cases q
        | some k =>
          have hk : k = n := by
            have hl' := pre_get s.pre hl
            have l1 := (List.getElem?_eq_some_iff.mp hl').1
            have l2 := (List.getElem?_eq_some_iff.mp h1).1
            exact (List.getElem_inj (i := k) (j := n) w.nd).mp (by
              have a1 := (List.getElem?_eq_some_iff.mp hl').2
              have a2 := (List.getElem?_eq_some_iff.mp h1).2
              rw [a1, a2])
          subst hk
          simp only [unlockO, modify_get, if_true] at h2
          obtain ⟨⟨l0, d0⟩, e1, e2⟩ := Option.map_eq_some_iff.mp h2
          obtain rfl : false = l := congrArg Prod.fst e2
          obtain rfl : d0 = x := congrArg Prod.snd e2
          obtain ⟨u', ob, hr, hi, _, _⟩ := w.box k a l0 d0 h1 e1
          have eu : u' = u := by
            rcases hr with r | ⟨o, r⟩
            · rw [hf] at r; cases r; exact (ob.noFrz _ _ rfl).elim
            · rw [hf] at r; cases r; rfl
          subst eu
          exact ⟨u', ob, .inl upd_same, fun _ _ _ _ => upd_same, fun _ => upd_same, fun z => by cases z⟩
      · have h2' : mf[n]? = some (l, x) := by
          cases lk with
          | none => exact h2
          | some k =>
            simp only [unlockO, modify_get] at h2
            by_cases hk : k = n
            · subst hk
              have hl : io[k]? = some d := hl
              rw [pre_get s.pre hl] at h1
              cases h1
              exact absurd rfl ha
            · rw [if_neg hk] at h2; exact h2
        obtain ⟨u', ob, hr, hi, hf', ht⟩ := w.box n a l x h1 h2'
        refine ⟨u', ob, ?_, fun A dx fs z => by rw [upd_ne ha]; exact hi A dx fs z, fun z => by rw [upd_ne ha]; exact hf' z, fun z => by rw [upd_ne ha]; exact ht z⟩
        rcases hr with r | ⟨o, r⟩
        · exact .inl (by rw [upd_ne ha]; exact r)
        · exact .inr ⟨o, by rw [upd_ne ha]; exact r⟩
    · by_cases ha : b = d
      · subst ha; rw [upd_same] at hb; cases hb
      · rw [upd_ne ha]
/-! ### the sources -/
/-- what a comprehension walks -/
def tSrc (C : Wd) (F : Fn) (X : Cx) (W : WX) (r : Env) (k : Sk) (es : List E) : TI := fun σ H R => ∃ G io m, WRel C H G io m ∧ SRel C σ H G io r ∧
  Post C W σ H G io (RepOs C) (evs F es r m) (fun vs H1 => ∃ G1 io1 m1 ds items, evs F es r m = .ok ds m1 ∧ Step H G io H1 G1 io1 ∧ WRel C H1 G1 io1 m1 ∧ RepOs C H1 G1 io1 ds vs ∧ srcM k ds m1 = some items ∧
    ∀ J H2, Lkd X H1 H2 io1 (lkOf ds m1) (dkOf ds m1) → SrcOk C J items H2 G1 io1 → R J H2)
def HI (C : Wd) (F : Fn) (X : Cx) (tg iter : Expr) (k : Sk) (es : List E) : Prop := ∀ (r : Env) (W : WX), Takes X W → PI X tg iter (tSrc C F X W r k es)
theorem srcC_rng {ds : List D} {items : List D} (h : srcC .rng ds = some items) : srcD .rng ds = some items ∧ items.length ≤ sizeLine := by
  unfold srcC at h
  obtain ⟨it, e1, e2⟩ := Option.bind_eq_some_iff.mp h
  split at e2
  · cases e2
  · rename_i hn
    cases e2
    refine ⟨e1, ?_⟩
    rw [← big_eq]
    have : ¬ ¬ items.length ≤ big := fun z => hn ⟨rfl, z⟩
    omega
theorem srcC_ne {k : Sk} (hk : k ≠ .rng) {ds : List D} {items : List D} (h : srcC k ds = some items) : srcD k ds = some items := by
  unfold srcC at h
  obtain ⟨it, e1, e2⟩ := Option.bind_eq_some_iff.mp h
  rw [if_neg fun z => hk z.1] at e2
  cases e2
  exact e1
theorem vals_of1 {H G : Hp} {io : List Addr} {d : D} {vs : List V} (h : RepOs C H G io [d] vs) : ∃ v, vs = [v] ∧ RepO C H G io d v := by
  obtain ⟨v, r, rfl, q, rfl⟩ := h
  exact ⟨v, rfl, q⟩
theorem vals_of2 {H G : Hp} {io : List Addr} {d e : D} {vs : List V} (h : RepOs C H G io [d, e] vs) : ∃ v u, vs = [v, u] ∧ RepO C H G io d v ∧ RepO C H G io e u := by
  obtain ⟨v, r, rfl, q, u, s, rfl, q2, rfl⟩ := h
  exact ⟨v, u, rfl, q, q2⟩
theorem repO_int {H G : Hp} {io : List Addr} {i : Int} {v : V} (h : RepO C H G io (.int i) v) : v = .int i := by
  rcases h with h | ⟨a, u, _, _, _, ob, _⟩
  · exact h
  · cases u <;> exact ob.elim
theorem repO_tup {H G : Hp} {io : List Addr} {xs : List D} {v : V} (h : RepO C H G io (.tup xs) v) : Rep C G io (.tup xs) v := by
  rcases h with h | ⟨a, u, _, _, _, ob, _⟩
  · exact h
  · cases u <;> exact ob.elim
/-- a list that no box holds -/
theorem repO_lst {H G : Hp} {io : List Addr} {m : Mu} (w : WRel C H G io m) {xs : List D} {v : V} (h : RepO C H G io (.lst xs) v) : ∃ a vs, v = .ref a ∧ Rd H a (.lst vs) ∧ a ∉ io ∧ vs.length ≤ sizeLine ∧ RepL C G io xs vs := by
  rcases h with h | ⟨a, u, rfl, hn, hr, ob, _⟩
  · obtain ⟨a, vs, rfl, q, z, l⟩ := h
    exact ⟨a, vs, rfl, w.sub.rd q, fun z => (by rw [w.off a z] at q; cases q), z, l⟩
  · cases u <;> first | exact ob.elim | skip
    exact ⟨a, _, rfl, hr, hn, ob.1, ob.2⟩
/-- no lock, nothing changes -/
theorem lkd_refl {H1 : Hp} {io : List Addr} {dk : Bool} : Lkd X H1 H1 io none dk := .inl ⟨rfl, rfl⟩
theorem lim62_ok {n : Int} (h : lim62 n = true) : -(2 ^ 62) ≤ n ∧ n < 2 ^ 62 := by
  unfold lim62 at h
  rw [Bool.and_eq_true, decide_eq_true_eq, decide_eq_true_eq] at h
  exact h
theorem hi_rng1 (h : CcX c C F X) {tg a : Expr} {p pos : Pos} {xs : List E} (hg : isGl c (S "range") = true) (hl : xs.length = 1) (ha : HAo C F X [a] xs) (hs : ∀ es', starEach (a :: es') X.env = (false, eval a X.env) :: starEach es' X.env) : HI C F X tg (.Call (.Name (S "range") p) [a] [] pos) .rng xs := fun r W tk => by
  obtain ⟨g1, g2, g3⟩ := h.gl hg
  refine pi_mono (pi_range1 g1 (h.glb.blt "range" (by decide)) (ha r W tk) (hs [])) fun σ H R ⟨G, io, m, w, sr, p⟩ => ⟨G, io, m, w, sr, p.mono ?_⟩
  rintro vs H1 ⟨G1, io1, m1, ds, items, e, s1, w1, rds, es, q⟩
  have hd := evs_length e
  rw [hl] at hd
  obtain ⟨e1, hz⟩ := srcC_rng (show srcC .rng ds = some items from es)
  rcases ds with _ | ⟨d, _ | ⟨_, _⟩⟩
  · simp at hd
  · cases d <;> simp only [srcD, reduceCtorEq] at e1
    rename_i n
    split at e1
    · rename_i hn
      cases e1
      obtain ⟨v, rfl, rv⟩ := vals_of1 rds
      obtain rfl := repO_int rv
      rw [rngL_len] at hz
      exact ⟨n, rfl, (lim62_ok hn).1, (lim62_ok hn).2, q _ H1 lkd_refl (src_rng hz)⟩
    · cases e1
  · simp at hd
theorem hi_rng2 (h : CcX c C F X) {tg a b : Expr} {p pos : Pos} {xs : List E} (hg : isGl c (S "range") = true) (hl : xs.length = 2) (ha : HAo C F X [a, b] xs) (hs : ∀ es', starEach (a :: es') X.env = (false, eval a X.env) :: starEach es' X.env) (hs2 : ∀ es', starEach (b :: es') X.env = (false, eval b X.env) :: starEach es' X.env) :
    HI C F X tg (.Call (.Name (S "range") p) [a, b] [] pos) .rng xs := fun r W tk => by
  obtain ⟨g1, g2, g3⟩ := h.gl hg
  refine pi_mono (pi_range2 g1 (h.glb.blt "range" (by decide)) (ha r W tk) (by rw [hs, hs2] <;> rfl) (hs2 [])) fun σ H R ⟨G, io, m, w, sr, p⟩ => ⟨G, io, m, w, sr, p.mono ?_⟩
  rintro vs H1 ⟨G1, io1, m1, ds, items, e, s1, w1, rds, es, q⟩
  have hd := evs_length e
  rw [hl] at hd
  obtain ⟨e1, hz⟩ := srcC_rng (show srcC .rng ds = some items from es)
  rcases ds with _ | ⟨d, _ | ⟨d2, _ | ⟨_, _⟩⟩⟩
  · simp at hd
  · simp at hd
  · cases d <;> cases d2 <;> simp only [srcD, reduceCtorEq] at e1
    rename_i n k
    split at e1
    · rename_i hn
      cases e1
      rw [Bool.and_eq_true] at hn
      obtain ⟨v, u, rfl, rv, ru⟩ := vals_of2 rds
      obtain rfl := repO_int rv
      obtain rfl := repO_int ru
      rw [rngL_len] at hz
      exact ⟨n, k, rfl, ⟨(lim62_ok hn.1).1, (lim62_ok hn.1).2, (lim62_ok hn.2).1, (lim62_ok hn.2).2⟩, q _ H1 lkd_refl (src_rng hz)⟩
    · cases e1
  · simp at hd
theorem hi_enum (h : CcX c C F X) {a : Expr} {p pos tpos : Pos} {elts : List Expr} {kk : Nat} {xs : List E} (hg : isGl c (S "enumerate") = true) (hl : xs.length = 1) (ha : HAo C F X [a] xs) (hs : ∀ es', starEach (a :: es') X.env = (false, eval a X.env) :: starEach es' X.env) :
    HI C F X (.Tuple elts kk tpos) (.Call (.Name (S "enumerate") p) [a] [] pos) .enum xs := fun r W tk => by
  obtain ⟨g1, g2, g3⟩ := h.gl hg
  refine pi_mono (pi_enA g1 (h.glb.blt "enumerate" (by decide)) (ha r W tk) (hs [])) fun σ H R ⟨G, io, m, w, sr, p⟩ => ⟨G, io, m, w, sr, p.mono ?_⟩
  rintro vs H1 ⟨G1, io1, m1, ds, items, e, s1, w1, rds, es, q⟩
  have hd := evs_length e
  rw [hl] at hd
  have e1 := srcC_ne (by decide) (show srcC .enum ds = some items from es)
  rcases ds with _ | ⟨d, _ | ⟨_, _⟩⟩
  · simp at hd
  · obtain ⟨v, rfl, rv⟩ := vals_of1 rds
    cases d <;> simp only [srcD, reduceCtorEq] at e1
    · rename_i zs
      cases e1
      have rv' : ∃ a vs, v = .ref a ∧ SqT C.K G1 a vs ∧ vs.length ≤ sizeLine ∧ RepL C G1 io1 zs vs := by
        rcases rv with rv | ⟨a, u, _, _, _, ob, _⟩
        · exact rv
        · cases u <;> exact ob.elim
      obtain ⟨b, us, rfl, qa, hz, l⟩ := rv'
      rw [h.glb.K]
      exact ⟨b, us, rfl, .inr ⟨w1.sqT qa, q _ H1 lkd_refl (src_enT qa hz l)⟩⟩
    · cases e1
      obtain ⟨b, us, rfl, hr, hn, hz, l⟩ := repO_lst w1 rv
      rw [h.glb.K]
      exact ⟨b, us, rfl, .inl ⟨.inl hr, q _ H1 lkd_refl (src_enum hr hn hz l)⟩⟩
  · simp at hd
theorem hi_zip (h : CcX c C F X) {a b : Expr} {p pos tpos : Pos} {elts : List Expr} {kk : Nat} {xs : List E} (hg : isGl c (S "zip") = true) (hl : xs.length = 2) (ha : HAo C F X [a, b] xs) (hs : ∀ es', starEach (a :: es') X.env = (false, eval a X.env) :: starEach es' X.env) (hs2 : ∀ es', starEach (b :: es') X.env = (false, eval b X.env) :: starEach es' X.env) :
    HI C F X (.Tuple elts kk tpos) (.Call (.Name (S "zip") p) [a, b] [] pos) .zip xs := fun r W tk => by
  obtain ⟨g1, g2, g3⟩ := h.gl hg
  refine pi_mono (RZ.pi_zipA g1 (h.glb.blt "zip" (by decide)) (ha r W tk) (hs _) (by rw [hs2] <;> rfl)) fun σ H R ⟨G, io, m, w, sr, p⟩ => ⟨G, io, m, w, sr, p.mono ?_⟩
  rintro vs H1 ⟨G1, io1, m1, ds, items, e, s1, w1, rds, es, q⟩
  have hd := evs_length e
  rw [hl] at hd
  have e1 := srcC_ne (by decide) (show srcC .zip ds = some items from es)
  rcases ds with _ | ⟨d, _ | ⟨d2, _ | ⟨_, _⟩⟩⟩
  · simp at hd
  · simp at hd
  · obtain ⟨v, u, rfl, rv, ru⟩ := vals_of2 rds
    rw [h.glb.K]
    cases d <;> cases d2 <;> simp only [srcD, reduceCtorEq] at e1
    · cases e1
      obtain ⟨a1, us, rfl, qa, za, la⟩ := repO_tup rv
      obtain ⟨a2, us2, rfl, qa2, za2, la2⟩ := repO_tup ru
      exact ⟨a1, a2, us, us2, rfl, .inr ⟨w1.sqT qa, w1.sqT qa2, q _ H1 lkd_refl (src_zipT qa qa2 za la la2)⟩⟩
    · cases e1
      obtain ⟨a1, us, rfl, hr, hn, hz, l⟩ := repO_lst w1 rv
      obtain ⟨a2, us2, rfl, hr2, hn2, hz2, l2⟩ := repO_lst w1 ru
      exact ⟨a1, a2, us, us2, rfl, .inl ⟨.inl hr, .inl hr2, q _ H1 lkd_refl (src_zip hr hn hr2 hn2 hz l l2)⟩⟩
  · simp at hd
end
end Wh
/-! What is walked as it is; comprehensions. -/
namespace Wh
open PySem L2 PySem.Spec PyProof.Rows
section
variable {C : Wd} {F : Fn} {X : Cx} {c : Cc}
/-- an object that is walked: which lock it wants -/
theorem obj_lock {H G : Hp} {io : List Addr} {m : Mu} (w : WRel C H G io m) {d : D} {v : V} (h : RepO C H G io d v) (ho : isObj (look m d) = true) : ∃ a u, v = .ref a ∧ Rd H a u ∧ IsOb C G io u (look m d) ∧
    ((∃ n, lkOf [d] m = some n ∧ io[n]? = some a ∧ H a = some u) ∨ (lkOf [d] m = none ∧ (a ∈ io → ∃ o, H a = some (.frz o u)))) := by
  rcases h with h | ⟨a, u, rfl, hn, hr, ob, hi⟩
  · cases d with
    | box n =>
      obtain ⟨a, rfl, e⟩ := h
      cases em : m[n]? with
      | none =>
        have : look m (.box n) = .box n := by simp only [look, em]
        rw [this] at ho; cases ho
      | some p =>
        obtain ⟨l, d⟩ := p
        have el : look m (.box n) = d := by simp only [look, em]
        rw [el]
        obtain ⟨u, ob, hr, hi, hf, ht⟩ := w.box n a l d e em
        refine ⟨a, u, rfl, hr, ob, ?_⟩
        cases l with
        | false => exact .inl ⟨n, by unfold lkOf; simp [em], e, hf rfl⟩
        | true => exact .inr ⟨by unfold lkOf; simp [em], fun _ => ht rfl⟩
    | lst xs =>
      obtain ⟨a, vs, rfl, q, z, l⟩ := h
      exact ⟨a, .lst vs, rfl, w.sub.rd q, ⟨z, l⟩, .inr ⟨rfl, fun z => by rw [w.off a z] at q; cases q⟩⟩
    | dic xs =>
      obtain ⟨a, vs, rfl, q, z, l⟩ := h
      exact ⟨a, .dK vs, rfl, w.sub.rd q, ⟨z, l⟩, .inr ⟨rfl, fun z => by rw [w.off a z] at q; cases q⟩⟩
    | ins k fs =>
      obtain ⟨a, A, dx, fvs, rfl, q, z, l⟩ := h
      exact ⟨a, .ins A dx fvs, rfl, w.sub.rd q, ⟨z, l⟩, .inr ⟨rfl, fun z => by rw [w.off a z] at q; cases q⟩⟩
    | _ => cases ho
  · have hl : look m d = d := by cases u <;> cases d <;> first | rfl | exact ob.elim
    rw [hl]
    exact ⟨a, u, rfl, hr, ob, .inr ⟨by cases u <;> cases d <;> first | rfl | exact ob.elim, fun z => absurd z hn⟩⟩
theorem keyD_rep {G : Hp} {io : List Addr} (k : Key) : Rep C G io (keyD k) (kV k) := by cases k <;> rfl
theorem src_keys {H G : Hp} {io : List Addr} {a : Addr} {o : Obj} {kvs : List (Key × V)} {ks : List (Key × D)} (hr : H a = some (.frz o (.dK kvs))) (hz : kvs.length ≤ sizeLine) (l : RepK C G io ks kvs) : SrcOk C (Itk a o kvs) (ks.map fun kv => keyD kv.1) H G io := by
  have hl : (ks.map fun kv => keyD kv.1).length = kvs.length := by rw [List.length_map, l.length]
  refine ⟨by rw [hl]; exact hz, _, _, by rw [hl]; exact walk_keys, fun H' G' io' m' s w => s.ext _ _ hr fun _ => ⟨_, _, rfl⟩, fun i H' x H'' G' io' m' d s w y e => ?_⟩
  obtain ⟨rfl, k, v, ek, rfl⟩ := y
  have hk : ks.map (·.1) = kvs.map (·.1) := l.keys.symm
  have e2 : (ks.map (·.1))[i]? = some k := by rw [hk, List.getElem?_map, ek] <;> rfl
  have e3 : (ks.map fun kv => keyD kv.1) = (ks.map (·.1)).map keyD := by rw [List.map_map]; rfl
  rw [e3, List.getElem?_map, e2] at e
  cases e
  exact ⟨G', Step.refl _ _ _, w, keyD_rep k⟩
theorem evs_one {x : E} {r : Env} {m : Mu} : evs F [x] r m = (ev F x r m).bind fun d m => .ok [d] m := by
  rw [evs]
  cases ev F x r m with
  | bad => rfl
  | exc k m1 => rfl
  | ok d m1 => simp only [Res.bind, evs]
theorem hi_it (h : CcX c C F X) {tg e : Expr} {x : E} (hx : HO_ C F X e x) : HI C F X tg e .it [x] := fun r W tk => by
  refine pi_mono (pi_or (pi_list (pe_lockA (hx r W tk))) (pi_or (pi_tup (hx r W tk)) (pi_or (pi_str (hx r W tk)) (pi_keys (pe_lockA (hx r W tk)))))) ?_
  rintro σ H R ⟨G, io, m, w, sr, p⟩
  rw [evs_one] at p
  cases e1 : ev F x r m with
  | bad => rw [e1] at p; exact p.elim
  | exc k m1 =>
    rw [e1] at p
    exact .inl ⟨G, io, m, w, sr, by rw [e1]; exact p⟩
  | ok d m1 =>
    rw [e1] at p
    have p' : ∀ v H1 G1 io1, Step H G io H1 G1 io1 → WRel C H1 G1 io1 m1 → RepO C H1 G1 io1 d v → ∃ G1 io1 items, WRel C H1 G1 io1 m1 ∧ RepO C H1 G1 io1 d v ∧ srcD .it [look m1 d] = some items ∧ ∀ J H2, Lkd X H1 H2 io1 (lkOf [d] m1) (dkOf [d] m1) → SrcOk C J items H2 G1 io1 → R J H2 := fun v H1 G1 io1 s1 w1 rv => by
      obtain ⟨G2, io2, m2, ds, items, ee, s2, w2, rds, es, q⟩ := p [v] H1 G1 io1 s1 w1 ⟨v, [], rfl, rv, rfl⟩
      cases ee
      obtain ⟨v', e2, rv'⟩ := vals_of1 rds
      cases e2
      exact ⟨G2, io2, items, w2, rv', srcC_ne (by decide) (show srcC .it [look m1 d] = some items from es), q⟩
    cases el : look m1 d with
    | lst xs =>
      refine .inl ⟨G, io, m, w, sr, ?_⟩
      rw [e1]
      intro v H1 G1 io1 s1 w1 rv
      obtain ⟨G2, io2, items, w2, rv2, es, q⟩ := p' v H1 G1 io1 s1 w1 rv
      rw [el] at es
      cases es
      obtain ⟨a, u, rfl, hr, ob, lk⟩ := obj_lock w2 rv2 (by rw [el]; rfl)
      rw [el] at ob
      cases u <;> first | exact ob.elim | skip
      rename_i vs
      rcases lk with ⟨n, l1, l2, l3⟩ | ⟨l1, l2⟩
      · refine .inr ⟨a, .lst vs, l3, trivial, fun od nf => ⟨a, rfl, ⟨vs, .inl (.inr ⟨od, upd_same⟩)⟩, ?_⟩⟩
        rw [h.glb.K]
        exact q _ _ (.inr ⟨a, od, .lst vs, l3, trivial, rfl, nf, by rw [l1]; exact l2, .inl (by rw [l1]; exact fun z => by cases z)⟩) (src_list (.inr ⟨od, upd_same⟩) (fun _ => ⟨od, upd_same⟩) ob.1 ob.2)
      · refine .inl ⟨a, rfl, ⟨vs, .inl hr⟩, ?_⟩
        rw [h.glb.K]
        exact q _ _ (.inl ⟨rfl, l1⟩) (src_list hr l2 ob.1 ob.2)
    | tup xs =>
      refine .inr (.inl ⟨G, io, m, w, sr, ?_⟩)
      rw [e1]
      intro v H1 G1 io1 s1 w1 rv
      obtain ⟨G2, io2, items, w2, rv2, es, q⟩ := p' v H1 G1 io1 s1 w1 rv
      rw [el] at es
      cases es
      have rb := rv2.look w2
      rw [el] at rb
      obtain ⟨a, vs, rfl, qa, za, la⟩ := rb
      rw [h.glb.K]
      have hlk : lkOf [d] m1 = none := by
        cases d with
        | box n =>
          rcases rv2 with r2 | ⟨b, u, _, _, _, ob, _⟩
          · obtain ⟨b, e3, e4⟩ := r2
            cases em : m1[n]? with
            | none => unfold lkOf; simp [em]
            | some p =>
              obtain ⟨l, d⟩ := p
              have e5 : look m1 (.box n) = d := by simp only [look, em]
              rw [el] at e5
              subst e5
              obtain ⟨u, ob, _⟩ := w2.box n b l _ e4 em
              cases u <;> exact ob.elim
          · cases u <;> exact ob.elim
        | _ => rfl
      exact ⟨a, rfl, ⟨vs, w2.sqT qa⟩, q _ _ (.inl ⟨rfl, hlk⟩) (src_tup qa za la)⟩
    | str z =>
      refine .inr (.inr (.inl ⟨G, io, m, w, sr, ?_⟩))
      rw [e1]
      intro v H1 G1 io1 s1 w1 rv
      obtain ⟨G2, io2, items, w2, rv2, es, q⟩ := p' v H1 G1 io1 s1 w1 rv
      rw [el] at es
      simp only [srcD] at es
      by_cases hz : z.length ≤ big
      · rw [if_pos hz] at es
        cases es
        have rb := rv2.look w2
        rw [el] at rb
        obtain rfl := rb
        have hlk : lkOf [d] m1 = none := by
          cases d with
          | box n =>
            rcases rv2 with r2 | ⟨b, u, _, _, _, ob, _⟩
            · obtain ⟨b, e3, e4⟩ := r2
              cases e3
            · cases u <;> exact ob.elim
          | _ => rfl
        exact ⟨z, rfl, q _ _ (.inl ⟨rfl, hlk⟩) (src_str (by rw [← big_eq]; exact hz))⟩
      · rw [if_neg hz] at es; cases es
    | dic ks =>
      refine .inr (.inr (.inr ⟨G, io, m, w, sr, ?_⟩))
      rw [e1]
      intro v H1 G1 io1 s1 w1 rv
      obtain ⟨G2, io2, items, w2, rv2, es, q⟩ := p' v H1 G1 io1 s1 w1 rv
      rw [el] at es
      cases es
      obtain ⟨a, u, rfl, hr, ob, lk⟩ := obj_lock w2 rv2 (by rw [el]; rfl)
      rw [el] at ob
      cases u <;> first | exact ob.elim | skip
      rename_i kvs
      rcases hr with l3 | ⟨o, hr⟩
      · refine .inr ⟨a, .dK kvs, l3, trivial, fun od nf => ⟨a, od, rfl, .inl ⟨kvs, upd_same, ?_⟩⟩⟩
        refine q _ _ (.inr ⟨a, od, .dK kvs, l3, trivial, rfl, nf, ?_, .inr (by simp only [dkOf, el])⟩) (src_keys upd_same ob.1 ob.2)
        rcases lk with ⟨n, l1, l2, _⟩ | ⟨l1, l2⟩
        · rw [l1]; exact l2
        · rw [l1]
          intro z
          obtain ⟨o, z⟩ := l2 z
          rw [l3] at z; cases z
      · rcases lk with ⟨n, l1, l2, l4⟩ | ⟨l1, l2⟩
        · rw [hr] at l4; cases l4
        · exact .inl ⟨a, o, rfl, .inl ⟨kvs, hr, q _ _ (.inl ⟨rfl, l1⟩) (src_keys hr ob.1 ob.2)⟩⟩
    | _ =>
      refine .inl ⟨G, io, m, w, sr, ?_⟩
      rw [e1]
      intro v H1 G1 io1 s1 w1 rv
      obtain ⟨G2, io2, items, w2, rv2, es, q⟩ := p' v H1 G1 io1 s1 w1 rv
      rw [el] at es
      cases es
/-! ### comprehensions -/
theorem Glb.blk {T : Tb} (g : Glb T false C F X) (s : Shared) (H : Hp) (scope : Scope) (env : PySem.Env) (fp : List Addr) : Glb T false C F (X.blk s H scope env fp) where
  K := g.K
  mg := g.mg
  calm := g.calm
  units := g.units
  blt := g.blt
  con := g.con
  cls := g.cls
  sup := g.sup
  excs := fun k hk => by
    obtain ⟨A, e⟩ := g.excs k hk
    exact ⟨A, ⟨e.mg, e.ok, e.kp, e.bs, e.ty, e.ec, e.exm, e.ve⟩⟩
  fns := fun h0 => by
    obtain ⟨k, h1, h2, h3, h4⟩ := g.fns h0
    refine ⟨k, h1, fun f hf => ⟨(h2 f hf).ex⟩, fun k0 A i q hq hk => ⟨(h3 k0 A i q hq hk).ex⟩, fun k0 hk => ?_⟩
    obtain ⟨A, z1, z2, z3⟩ := h4 k0 hk
    refine ⟨A, z1, z2, ?_⟩
    rcases z3 with z | ⟨j, hj, N⟩
    · exact .inl z
    · exact .inr ⟨j, hj, ⟨N.ex⟩⟩
  ex := fun a k e => absurd (g.ex a k e).1 Bool.false_ne_true
  keep := g.keep
  hots := fun h0 => by
    obtain ⟨k, h1, h2⟩ := g.hots h0
    exact ⟨k, h1, fun a e oe A z1 z2 z3 z4 f hf => ⟨(h2 a e oe A z1 z2 z3 z4 f hf).ex⟩⟩
  hfns := fun z => absurd z Bool.false_ne_true
theorem CcX.blk (h : CcX c C F X) (hot : c.hot = false) {scope : Scope} {own : List (Str × Nat)} (ok : BlkOk X.N X.env.scope scope own) (s : Shared) (H : Hp) (A : Addr) (cl : List (Str × Addr)) (fp : List Addr) :
    CcX { c with sc := relS scope c.sc, oc := cellsOf scope } C F (X.blk s H scope (compEnvC scope cl A X.env) fp) where
  N := h.N
  sc := by
    show relS scope X.env.scope = _
    rw [h.sc]
  nd := h.nd
  oc := fun x hx => by
    show (scope.names.lookup x == some .cell) = true
    unfold cellsOf at hx
    obtain ⟨p, hp, rfl⟩ := List.mem_map.mp hx
    obtain ⟨h1, h2⟩ := List.mem_filter.mp hp
    rw [ok.uniq p h1, eq_of_beq h2] <;> rfl
  glb := by
    have g := h.glb
    rw [hot] at g
    show Glb c.T c.hot C F _
    rw [hot]
    exact g.blk ..
theorem takes_no (s : Shared) (H : Hp) (scope : Scope) (env : PySem.Env) (fp : List Addr) : Takes (X.blk s H scope env fp) noW := fun u s' ⟨a, B, sI, pins, σ, H, cls, d, e, I, nb, up, sky, na, os, ag, w⟩ => w.elim
def HTs (C : Wd) (F : Fn) (X : Cx) (es : List Expr) (cs : List E) : Prop := ∀ (r : Env) (W : WX), Takes X W → PTs X es (tRun C W r (fun _ => rB) (evc F cs r))
theorem hts_nil : HTs C F X [] [] := fun r W tk => ⟨fun pins s σ H Q I ⟨G, io, m, w, sr, p⟩ => pts_nil.run pins s σ H Q I (by rw [evc] at p; exact p.here w rfl)⟩
theorem hts_one {e : Expr} {x : E} (h : HT C F X e x) : HTs C F X [e] [x] := fun r W tk => ⟨fun pins s σ H Q I ⟨G, io, m, w, sr, p⟩ => (pts_one (h r W tk)).run pins s σ H Q I ⟨G, io, m, w, sr, by
  have e1 : evc F [x] r m = (ev F x r m).bind fun d m => tstD d m := by
    rw [evc]
    cases ev F x r m with
    | bad => rfl
    | exc k m1 => rfl
    | ok d m1 =>
      cases d <;> try rfl
      rename_i b
      cases b
      · rfl
      · simp only [Res.bind, tstD, if_true, evc]
  rw [e1] at p
  exact p⟩⟩
/-- one turn -/
def turnC (F : Fn) (el : E) (cond : List E) (tg : Tg) (r : Env) (x : D) (m : Mu) : Res (Option D) :=
  (up (bindTg tg x r) m).bind fun r' m => ((evc F cond r' m).bind fun b m => if b = true then (ev F el r' m).bind fun d m => .ok (some d) m else .ok none m).calm
/-- the loop, read from a list that stands in the making -/
theorem lc_run {J : It} {items : List D} {H2 G2 : Hp} {io2 : List Addr} {m2 : Mu} {D0 : Addr} {σ : L2.St} {r : Env} {t : Tg} {cond : List E} {el : E} {Qd : Hp → Prop} {tt : TT} {te : TE}
    (so : SrcOk C J items H2 G2 io2) (w2 : WRel C H2 G2 io2 m2) (sr : SRel C σ H2 G2 io2 r) (hD : H2 D0 = none)
    (htt : ∀ r' σ H Q, tRun C noW r' (fun _ => rB) (evc F cond r') σ H Q → tt σ H Q) (hte : ∀ r' σ H Q, tRun C noW r' (fun _ => rRep C) (ev F el r') σ H Q → te σ H Q)
    (hp : match loopC (turnC F el cond t (wipeE r (tgIx t))) items m2 with
      | .ok ys mf => ∀ Hf Gf iof vs, Step H2 G2 io2 Hf Gf iof → WRel C Hf Gf iof mf → Hf D0 = some (.lst vs) → Gf D0 = none → D0 ∉ iof → vs.length ≤ sizeLine → RepL C Gf iof ys vs → Qd Hf
      | _ => False) :
    ∃ W : Nat → Nat → Hp → Prop, (∃ k, W 0 k (upd H2 D0 (.lst []))) ∧ ∀ i k H, W i k H →
      (J.stop i H ∧ Qd H) ∨ (J.go i H ∧ ∃ Nx : Hp → Prop, (∀ H', Nx H' → ∃ k', k' < k ∧ W (i + 1) k' H') ∧ ∀ x H', J.yld i H x H' → tBind C t x (L2.wipe σ (tgIx t)) H' fun σ2 H3 => L2.wipe σ2 (tgIx t) = L2.wipe σ (tgIx t) ∧ tt σ2 H3 fun b H4 =>
        if b = true then te σ2 H4 fun y H5 => ∃ acc, H5 D0 = some (.lst acc) ∧ acc.length < sizeLine ∧ Nx (upd H5 D0 (.lst (acc ++ [y]))) else Nx H4) := by
  obtain ⟨hlen, Gd, Y, wk, hG, hY⟩ := so
  refine lc_it wk (g := tBind C t) (tt := tt) (te := te) (vs := tgIx t) (σ := σ) (D := D0) (Qd := Qd)
    (fun i H => ∃ G io m ys vs, Step H2 G2 io2 H G io ∧ WRel C H G io m ∧ H D0 = some (.lst vs) ∧ G D0 = none ∧ D0 ∉ io ∧ vs.length ≤ i ∧ RepL C G io ys vs ∧
      match loopC (turnC F el cond t (wipeE r (tgIx t))) (items.drop i) m with
      | .ok zs mf => ∀ Hf Gf iof vs, Step H2 G2 io2 Hf Gf iof → WRel C Hf Gf iof mf → Hf D0 = some (.lst vs) → Gf D0 = none → D0 ∉ iof → vs.length ≤ sizeLine → RepL C Gf iof (ys ++ zs) vs → Qd Hf
      | _ => False) ?_ ?_ ?_ ?_
  · refine ⟨G2, io2, m2, [], [], upd_step hD, w2.laid hD, upd_same, w2.freshG hD, w2.freshIo hD, Nat.le_refl _, rfl, ?_⟩
    rw [List.drop_zero]
    exact hp
  · rintro i H hi ⟨G, io, m, ys, vs, s, w, _⟩
    exact hG H G io m s w
  · rintro i x H H' hi ⟨G, io, m, ys, vs, s, w, hl, hg, hn, hz, ry, hp⟩ y
    obtain ⟨d, ed⟩ : ∃ d, items[i]? = some d := ⟨items[i], by simp [hi]⟩
    obtain ⟨G', s', w', rd⟩ := hY i H x H' G io m d s w y ed
    have edrop : items.drop i = d :: items.drop (i + 1) := by
      rw [List.drop_eq_getElem_cons hi]
      congr 1
      rw [List.getElem?_eq_getElem hi] at ed
      exact Option.some.inj ed
    rw [edrop] at hp
    simp only [loopC] at hp
    have srw : SRel C (L2.wipe σ (tgIx t)) H' G' io (wipeE r (tgIx t)) := (sr.step (s.trans s')).wipe _
    cases eb : bindTg t d (wipeE r (tgIx t)) with
    | none =>
      have : turnC F el cond t (wipeE r (tgIx t)) d m = .bad := by unfold turnC; rw [eb]; rfl
      rw [this] at hp; exact hp.elim
    | some r' =>
      have et : turnC F el cond t (wipeE r (tgIx t)) d m = ((evc F cond r' m).bind fun b m => if b = true then (ev F el r' m).bind fun d m => .ok (some d) m else .ok none m).calm := by unfold turnC; rw [eb]; rfl
      rw [et] at hp
      refine ⟨G', io, m, _, d, r', w', srw, rd, eb, fun σ2 sr2 hj hll => ⟨?_, ?_⟩⟩
      · refine List.ext_getElem? fun j => ?_
        by_cases hm : j ∈ tgIx t
        · have none_at : ∀ τ : L2.St, τ.length = σ.length → (L2.wipe τ (tgIx t))[j]? = if j < σ.length then some none else none := fun τ hτ => by
            by_cases hj : j < σ.length
            · rw [if_pos hj]
              cases e : (L2.wipe τ (tgIx t))[j]? with
              | none =>
                have := List.getElem?_eq_none_iff.mp e
                rw [wipe_length] at this; omega
              | some o =>
                cases o with
                | none => rfl
                | some v => exact absurd hm (wipe_some e).2
            · rw [if_neg hj]
              exact List.getElem?_eq_none (by rw [wipe_length]; omega)
          rw [none_at σ2 (by rw [hll, wipe_length]), none_at σ rfl]
        · rw [wipe_at hm, wipe_at hm, hj j hm, wipe_at hm]
      · refine htt r' σ2 H' _ ⟨G', io, m, w', sr2, ?_⟩
        cases e3 : evc F cond r' m with
        | bad => rw [e3] at hp; exact hp.elim
        | exc k m3 => rw [e3] at hp; exact hp.elim
        | ok b m3 =>
          rw [e3] at hp
          intro b' H3 G3 io3 s3 w3 eb'
          obtain rfl : b = b' := eb'
          have s03 : Step H2 G2 io2 H3 G3 io3 := (s.trans s').trans s3
          have l3 : H3 D0 = some (.lst vs) := s3.ext _ _ (s'.ext _ _ hl fun z => absurd z hn) fun z => absurd z hn
          have g3 : G3 D0 = none := s3.offG (.inl (s'.ext _ _ hl fun z => absurd z hn)) (s'.offG (.inl hl) hg)
          have n3 : D0 ∉ io3 := s3.offIo (s'.ext _ _ hl fun z => absurd z hn) hn
          have ry3 : RepL C G3 io3 ys vs := (ry.step s').step s3
          cases b with
          | false =>
            rw [if_neg Bool.false_ne_true]
            refine ⟨G3, io3, m3, ys, vs, s03, w3, l3, g3, n3, by omega, ry3, ?_⟩
            have hp' : match (loopC (turnC F el cond t (wipeE r (tgIx t))) (items.drop (i + 1)) m3).bind fun zs m => Res.ok zs m with
              | .ok zs mf => ∀ Hf Gf iof vs, Step H2 G2 io2 Hf Gf iof → WRel C Hf Gf iof mf → Hf D0 = some (.lst vs) → Gf D0 = none → D0 ∉ iof → vs.length ≤ sizeLine → RepL C Gf iof (ys ++ zs) vs → Qd Hf
              | _ => False := hp
            cases e4 : loopC (turnC F el cond t (wipeE r (tgIx t))) (items.drop (i + 1)) m3 with
            | bad => rw [e4] at hp'; exact hp'.elim
            | exc k m4 => rw [e4] at hp'; exact hp'.elim
            | ok zs m4 => rw [e4] at hp'; exact hp'
          | true =>
            rw [if_pos rfl]
            refine hte r' σ2 H3 _ ⟨G3, io3, m3, w3, sr2.step s3, ?_⟩
            cases e5 : ev F el r' m3 with
            | bad => simp only [Res.bind, if_true, e5, Res.calm] at hp
            | exc k m5 => simp only [Res.bind, if_true, e5, Res.calm] at hp
            | ok dy m5 =>
              have hp' : match (loopC (turnC F el cond t (wipeE r (tgIx t))) (items.drop (i + 1)) m5).bind fun zs m => Res.ok (dy :: zs) m with
                | .ok zs mf => ∀ Hf Gf iof vs, Step H2 G2 io2 Hf Gf iof → WRel C Hf Gf iof mf → Hf D0 = some (.lst vs) → Gf D0 = none → D0 ∉ iof → vs.length ≤ sizeLine → RepL C Gf iof (ys ++ zs) vs → Qd Hf
                | _ => False := by
                simp only [Res.bind, if_true, e5, Res.calm] at hp
                exact hp
              intro vy H5 G5 io5 s5 w5 rdy
              have l5 : H5 D0 = some (.lst vs) := s5.ext _ _ l3 fun z => absurd z n3
              have g5 : G5 D0 = none := s5.offG (.inl l3) g3
              have n5 : D0 ∉ io5 := s5.offIo l3 n3
              refine ⟨vs, l5, by omega, G5, io5, m5, ys ++ [dy], vs ++ [vy], ?_, ?_, upd_same, g5, n5, by rw [List.length_append]; simp; omega, (ry3.step s5).append ⟨vy, [], rfl, rdy, rfl⟩, ?_⟩
              · have s05 := s03.trans s5
                exact ⟨fun a o e hc => by
                    have ha : a ≠ D0 := fun z => by subst z; rw [hD] at e; cases e
                    rw [upd_ne ha]; exact s05.ext a o e hc,
                  fun a e => by
                    by_cases ha : a = D0
                    · subst ha; exact hD
                    · rw [upd_ne ha] at e; exact s05.alive a e,
                  s05.g, s05.gnew, s05.pre, s05.new⟩
              · exact ⟨fun a u e => by
                    have ha : a ≠ D0 := fun z => by subst z; rw [g5] at e; cases e
                    have q := w5.sub a u e
                    cases u <;> first
                      | (rw [upd_ne ha]; exact q)
                      | (rcases q with q | ⟨o, q⟩
                         · exact .inl (by rw [upd_ne ha]; exact q)
                         · exact .inr ⟨o, by rw [upd_ne ha]; exact q⟩),
                  w5.nofrz, w5.len, w5.nd, w5.off, fun n a l d h1 h2 => by
                    have ha : a ≠ D0 := fun z => n5 (z ▸ List.mem_of_getElem? h1)
                    obtain ⟨u, ob, hr, hi, hf, ht⟩ := w5.box n a l d h1 h2
                    refine ⟨u, ob, ?_, fun A dx fs z => by rw [upd_ne ha]; exact hi A dx fs z, fun z => by rw [upd_ne ha]; exact hf z, fun z => by rw [upd_ne ha]; exact ht z⟩
                    rcases hr with r | ⟨o, r⟩
                    · exact .inl (by rw [upd_ne ha]; exact r)
                    · exact .inr ⟨o, by rw [upd_ne ha]; exact r⟩⟩
              · cases e4 : loopC (turnC F el cond t (wipeE r (tgIx t))) (items.drop (i + 1)) m5 with
                | bad => rw [e4] at hp'; exact hp'.elim
                | exc k m4 => rw [e4] at hp'; exact hp'.elim
                | ok zs m4 =>
                  rw [e4] at hp'
                  intro Hf Gf iof vf h1 h2 h3 h4 h5 h6 h7
                  rw [List.append_assoc] at h7
                  exact hp' Hf Gf iof vf h1 h2 h3 h4 h5 h6 h7
  · rintro H ⟨G, io, m, ys, vs, s, w, hl, hg, hn, hz, ry, hp⟩
    rw [List.drop_length] at hp
    exact hp H G io vs s w hl hg hn (by omega) (by rw [List.append_nil]; exact ry)
end
end Wh
/-! Comprehensions as expressions, as a name's value. -/
namespace Wh
open PySem L2 PySem.Spec PyProof.Rows
section
variable {C : Wd} {F : Fn} {X : Cx} {c : Cc}
theorem Lkd.srel {H1 H2 G : Hp} {io : List Addr} {lk : Option Nat} {dk : Bool} {σ : L2.St} {r : Env} (L : Lkd X H1 H2 io lk dk) (h : SRel C σ H1 G io r) : SRel C σ H2 G io r := by
  rcases L with ⟨rfl, rfl⟩ | ⟨d, od, u, hd, ld, rfl, nf, hl, _⟩
  · exact h
  · refine ⟨h.len, fun i => ?_⟩
    have q := h.at_ i
    cases e : slot r i with
    | no => trivial
    | val d => rw [e] at q; exact q
    | own x =>
      rw [e] at q
      obtain ⟨a, v, e1, hr, ob, hi, hg, hn⟩ := q
      by_cases ha : a = d
      · subst ha
        have ev : v = u := by
          rcases hr with r | ⟨o, r⟩
          · rw [hd] at r; cases r; rfl
          · rw [hd] at r; cases r; exact ld.elim
        subst ev
        exact ⟨a, v, e1, .inr ⟨od, upd_same⟩, ob, fun A dx fs z => absurd z (ld.noins A dx fs), hg, hn⟩
      · refine ⟨a, v, e1, ?_, ob, fun A dx fs z => by rw [upd_ne ha]; exact hi A dx fs z, hg, hn⟩
        rcases hr with r | ⟨o, r⟩
        · exact .inl (by rw [upd_ne ha]; exact r)
        · exact .inr ⟨o, by rw [upd_ne ha]; exact r⟩
theorem Lkd.free {H1 H2 : Hp} {io : List Addr} {lk : Option Nat} {dk : Bool} (L : Lkd X H1 H2 io lk dk) {b : Addr} (h : H2 b = none) : H1 b = none := by
  rcases L with ⟨rfl, rfl⟩ | ⟨d, od, u, hd, ld, rfl, nf, hl, _⟩
  · exact h
  · by_cases hb : b = d
    · subst hb; rw [upd_same] at h; cases h
    · rw [upd_ne hb] at h; exact h
def ttC (C : Wd) (F : Fn) (cs : List E) : TT := fun σ H Q => ∃ r', tRun C noW r' (fun _ => rB) (evc F cs r') σ H Q
def teC (C : Wd) (F : Fn) (el : E) : TE := fun σ H Q => ∃ r', tRun C noW r' (fun _ => rRep C) (ev F el r') σ H Q
def orUnl (X : Cx) (Q : VK) : VK := fun v H1 => Q v H1 ∨ ∃ d od u, H1 d = some (.frz od u) ∧ NoF X d ∧ Q v (upd H1 d u)
theorem calm_ne {α : Type} (q : Res α) (x : String) (m : Mu) : q.calm ≠ .exc x m := by
  cases q <;> intro z <;> cases z
theorem turn_ne {el : E} {cs : List E} {t : Tg} {r : Env} {y : D} {m0 m' : Mu} {x : String} : turnC F el cs t r y m0 ≠ .exc x m' := by
  unfold turnC
  cases bindTg t y r with
  | none => intro z; cases z
  | some r' => exact calm_ne _ _ _
theorem loop_ne {el : E} {cs : List E} {t : Tg} {r : Env} : ∀ (l : List D) (m0 : Mu) (x : String) (mf : Mu), loopC (turnC F el cs t r) l m0 ≠ .exc x mf
  | [], m0, x, mf, z => by cases z
  | y :: l, m0, x, mf, z => by
    rw [loopC] at z
    cases et : turnC F el cs t r y m0 with
    | bad => rw [et] at z; cases z
    | exc x' m' => exact turn_ne et
    | ok o m' =>
      rw [et] at z
      simp only [Res.bind] at z
      cases e2 : loopC (turnC F el cs t r) l m' with
      | bad => rw [e2] at z; cases z
      | exc x' m'' => exact loop_ne l m' x' m'' e2
      | ok ys m'' => rw [e2] at z; cases z
theorem lc_read {W : WX} {r : Env} {el : E} {t : Tg} {k : Sk} {es cs : List E} {σ : L2.St} {H : Hp} {Q : VK} (h : tRun C W r (RepN C) (ev F (.comp el t k es cs (tgIx t)) r) σ H Q) :
    tLc (tSrc C F X W r k es) (tBind C t) (ttC C F cs) (teC C F el) (tgIx t) σ H (orUnl X Q) := by
  obtain ⟨G, io, m, w, sr, p⟩ := h
  rw [ev] at p
  refine ⟨G, io, m, w, sr, (p.seq Mo.repN sr).mono ?_⟩
  rintro vs H1 ⟨G1, io1, m1, ds, s1, w1, sr1, rds, e1, p1⟩
  cases es : srcM k ds m1 with
  | none => rw [es] at p1; exact p1.elim
  | some items =>
    rw [es] at p1
    refine ⟨G1, io1, m1, ds, items, e1, s1, w1, rds, es, fun J H2 L so D0 hD => ?_⟩
    refine lc_run so (L.wrel w1) (L.srel sr1) hD (fun r' σ H Q q => ⟨r', q⟩) (fun r' σ H Q q => ⟨r', q⟩) ?_
    have p2 : Post C W σ H1 G1 io1 (RepN C H1) (((loopC (turnC F el cs t (wipeE r (tgIx t))) items (lockO (lkOf ds m1) m1)).mapMu (unlockO (lkOf ds m1))).bind fun xs m => .ok (.lst xs) m) Q := p1
    cases el : loopC (turnC F el cs t (wipeE r (tgIx t))) items (lockO (lkOf ds m1) m1) with
    | bad => rw [el] at p2; exact p2.elim
    | exc x mf => exact absurd el (loop_ne _ _ _ _)
    | ok ys mf =>
      rw [el] at p2
      intro Hf Gf iof us sf wf hl hg hn hz ry
      obtain ⟨Hu, hu, su, wu, hb⟩ := L.back sf wf
      have q : Q (.ref D0) Hu := p2 (.ref D0) Hu Gf iof su wu (by
        unfold RepN
        rw [if_pos (show isObj (D.lst ys) = true from rfl)]
        exact ⟨D0, .lst us, rfl, L.free hD, by rw [hb D0 hD]; exact hl, ⟨hz, ry⟩, hg, hn⟩)
      rcases hu with rfl | ⟨d, od, u, h1, h2, rfl⟩
      · exact .inl q
      · exact .inr ⟨d, od, u, h1, h2, q⟩
theorem tg_valid {c : Cc} {tg : Expr} {t : Tg} (h : tgOf c tg = some t) : ∀ i ∈ tgIx t, ∃ x, c.N[i]? = some x := by
  have one : ∀ {x : Str} {i : Nat}, slotTo c x = some i → ∃ x, c.N[i]? = some x := fun {x i} e => by
    have find : ∀ {i}, c.N.findIdx? (· == x) = some i → ∃ x, c.N[i]? = some x := fun {i} e => by
      obtain ⟨hl, _⟩ := List.findIdx?_eq_some_iff_getElem.mp e
      exact ⟨_, List.getElem?_eq_getElem hl⟩
    unfold slotTo at e
    split at e
    · exact find e
    · split at e
      · exact find e
      · cases e
    · cases e
  cases tg <;> simp only [tgOf, reduceCtorEq] at h
  · obtain ⟨i, e, rfl⟩ := Option.map_eq_some_iff.mp h
    intro j hj
    obtain rfl : j = i := by simpa [tgIx] using hj
    exact one e
  · rename_i es k pos
    obtain ⟨is, e, rfl⟩ := Option.map_eq_some_iff.mp h
    have go : ∀ (es : List Expr) (is : List Nat), (es.mapM fun e => (nameOf e).bind (slotTo c)) = some is → ∀ i ∈ is, ∃ x, c.N[i]? = some x := by
      intro es
      induction es with
      | nil =>
        intro is e
        have e : some [] = some is := by simpa using e
        cases e
        intro i hi; cases hi
      | cons e0 es ih =>
        intro is e
        rw [List.mapM_cons] at e
        obtain ⟨i, e1, e⟩ := Option.bind_eq_some_iff.mp e
        obtain ⟨is', e2, e⟩ := Option.bind_eq_some_iff.mp e
        cases e
        obtain ⟨x, _, e4⟩ := Option.bind_eq_some_iff.mp e1
        intro j hj
        rcases List.mem_cons.mp hj with rfl | hj
        · exact one e4
        · exact ih is' e2 j hj
    exact go es is e
def ownOf (N : List Str) (is : List Nat) : List (Str × Nat) := is.filterMap fun i => (N[i]?).map fun x => (x, i)
theorem ownOf_ix {N : List Str} : ∀ {is : List Nat}, (∀ i ∈ is, ∃ x, N[i]? = some x) → (ownOf N is).map (·.2) = is
  | [], _ => rfl
  | i :: is, h => by
    obtain ⟨x, e⟩ := h i List.mem_cons_self
    have ih := ownOf_ix (is := is) fun j hj => h j (List.mem_cons_of_mem _ hj)
    unfold ownOf at ih ⊢
    rw [List.filterMap_cons, e]
    simp only [Option.map_some, List.map_cons]
    rw [ih]
/-- what a comprehension's parts give -/
structure LcOk (c : Cc) (C : Wd) (F : Fn) (X : Cx) (elt tg iter : Expr) (ifs : List Expr) (scope : Scope) (el : E) (t : Tg) (k : Sk) (es cs : List E) : Prop where
  calm : X.calm = true
  nd : X.N.Nodup
  hi : HI C F X tg iter k es
  ok : BlkOk X.N X.env.scope scope (ownOf c.N (tgIx t))
  ix : (ownOf c.N (tgIx t)).map (·.2) = tgIx t
  hg : ∀ (s : Shared) (H : Hp) (A : Addr) (cl : List (Str × Addr)) (fp : List Addr), PG (X.blk s H scope (compEnvC scope cl A X.env) fp) tg (tBind C t)
  ht : ∀ (s : Shared) (H : Hp) (A : Addr) (cl : List (Str × Addr)) (fp : List Addr), PTs (X.blk s H scope (compEnvC scope cl A X.env) fp) ifs (ttC C F cs)
  he : ∀ (s : Shared) (H : Hp) (A : Addr) (cl : List (Str × Addr)) (fp : List Addr), PE (X.blk s H scope (compEnvC scope cl A X.env) fp) elt (teC C F el)
  fs : ∀ x, foldedSetIterable iter X.env x = pure x
theorem lc_ok (h : CcX c C F X) (hot : c.hot = false) {elt tg iter : Expr} {ifs : List Expr} {scope : Scope} {el : E} {t : Tg} {k : Sk} {es cs : List E} (ht : tgOf { c with sc := relS scope c.sc, oc := cellsOf scope } tg = some t)
    (hb : blkC c.N c.sc scope (ownOf c.N (tgIx t)) = true) (hi : HI C F X tg iter k es)
    (hc : ∀ X', CcX { c with sc := relS scope c.sc, oc := cellsOf scope } C F X' → HTs C F X' ifs cs) (he : ∀ X', CcX { c with sc := relS scope c.sc, oc := cellsOf scope } C F X' → HE C F X' elt el)
    (fs : ∀ x, foldedSetIterable iter X.env x = pure x) : LcOk c C F X elt tg iter ifs scope el t k es cs := by
  have ok : BlkOk X.N X.env.scope scope (ownOf c.N (tgIx t)) := by rw [h.N, h.sc]; exact blkOk_by hb
  refine ⟨h.glb.calm hot, by rw [h.N]; exact h.nd, hi, ok, ownOf_ix (N := c.N) (tg_valid (c := { c with sc := relS scope c.sc, oc := cellsOf scope }) ht), fun s H A cl fp => hg_of (h.blk hot ok s H A cl fp) hot ht, fun s H A cl fp => ⟨fun pins s' σ H' Q I ⟨r', q⟩ => (hc _ (h.blk hot ok s H A cl fp) r' noW (takes_no s H scope (compEnvC scope cl A X.env) fp)).run pins s' σ H' Q I q⟩,
    fun s H A cl fp => ⟨fun pins s' σ H' Q I ⟨r', q⟩ => (he _ (h.blk hot ok s H A cl fp) r' noW (takes_no s H scope (compEnvC scope cl A X.env) fp)).run pins s' σ H' Q I q⟩, fs⟩
theorem hn_comp {elt tg iter : Expr} {ifs : List Expr} {scope : Scope} {pos : Pos} {el : E} {t : Tg} {k : Sk} {es cs : List E} (L : LcOk c C F X elt tg iter ifs scope el t k es cs) :
    HN C F X (.ListComp elt [⟨tg, iter, ifs, 0⟩] scope pos) (.comp el t k es cs (tgIx t)) := fun r W tk => by
  have q := pe_lc (pos := pos) L.calm L.nd (L.hi r W tk) L.ok L.hg L.ht L.he L.fs
  rw [L.ix] at q
  exact pe_mono (pe_unl q) fun σ H Q h => lc_read h
end
end Wh
/-! Every expression that is compiled runs as the engine runs it. -/
namespace Wh
open PySem L2 PySem.Spec PyProof.Rows
section
variable {C : Wd} {F : Fn} {X : Cx} {c : Cc}
/-! ### side conditions -/
theorem cE_zero {c : Cc} {e : Expr} {x : E} (h : cE c 0 e = some x) : False := by
  rw [cE] at h; cases h
theorem star_of {c : Cc} {n : Nat} {e : Expr} {x : E} (h : cE c n e = some x) (es : List Expr) (env : PySem.Env) : starEach (e :: es) env = (false, eval e env) :: starEach es env := by
  cases n with
  | zero => exact (cE_zero h).elim
  | succ n => cases e <;> first | rfl | (simp only [cE, reduceCtorEq] at h)
theorem plainIx_of {c : Cc} {n : Nat} {e : Expr} {x : E} (h : cE c n e = some x) : PlainIx e := by
  cases n with
  | zero => exact (cE_zero h).elim
  | succ n => cases e <;> first | (intro o i; rfl) | (simp only [cE, reduceCtorEq] at h)
theorem behind_of {c : Cc} {n : Nat} {e : Expr} {x : E} (h : cE c n e = some x) (op : CmpOp) : behindInMarks op e = false := by
  cases n with
  | zero => exact (cE_zero h).elim
  | succ n => cases e <;> first | rfl | (simp only [cE, reduceCtorEq] at h)
theorem fold_of {c : Cc} {n : Nat} {e : Expr} {x : E} (h : cE c n e = some x) (env : PySem.Env) : ∀ v, foldedSetIterable e env v = pure v := by
  cases n with
  | zero => exact (cE_zero h).elim
  | succ n => cases e <;> first | (intro v; rfl) | (simp only [cE, reduceCtorEq] at h)
theorem nameIn_ok {l : List String} {x : Str} {s : String} (h : nameIn l x = some s) : s ∈ l ∧ S s = x := by
  unfold nameIn at h
  exact ⟨List.mem_of_find?_eq_some h, by simpa using List.find?_some h⟩
/-- super() is not called -/
theorem base_of (h : CcX c C F X) {n : Nat} {e : Expr} {x : E} (hx : cE c n e = some x) (f : Str) (whole : Sem Value) : attributeBase e f X.env whole = whole := by
  cases n with
  | zero => exact (cE_zero hx).elim
  | succ n =>
    cases e <;> first | rfl | skip
    rename_i fn as ks pos
    cases fn <;> first | rfl | skip
    rename_i y p
    cases as with
    | cons _ _ => rfl
    | nil =>
      cases ks with
      | cons _ _ => rfl
      | nil =>
        have hy : y ≠ S "super" := fun z => by
          subst z
          simp only [cE] at hx
          split at hx
          · have b0 : biOf (S "super") ([] : List Expr).length = none := by decide +kernel
            have b1 : ¬ (S "super" = S "isinstance") := by decide +kernel
            have b2 : rlOf c (S "super") [] = none := if_neg (by decide +kernel)
            obtain ⟨s1, s2, s3⟩ := h.glb.sup
            split at hx
            · cases hn : nameIn c.T.hfns (S "super") with
              | none => rw [hn] at hx; cases hx
              | some g =>
                obtain ⟨m, e⟩ := nameIn_ok hn
                exact s3 (S_inj e ▸ m)
            · rw [b2, b0] at hx
              simp only [if_neg b1] at hx
              cases hn : nameIn c.T.fns (S "super") with
              | some g =>
                obtain ⟨m, e⟩ := nameIn_ok hn
                exact s1 (S_inj e ▸ m)
              | none =>
                rw [hn] at hx
                simp only at hx
                cases hn2 : nameIn c.T.cls (S "super") with
                | none => rw [hn2] at hx; cases hx
                | some g =>
                  obtain ⟨m, e⟩ := nameIn_ok hn2
                  exact s2 (S_inj e ▸ m)
          · cases hx
        unfold attributeBase
        have hb : (y != "super") = true := bne_iff_ne.mpr hy
        simp only [hb, Bool.true_or, if_true]
        try exact bind_pure whole
theorem pt_ifExp {t a b : Expr} {tc ta tb : TT} {pos : Pos} (hc : PT X t tc) (ha : PT X a ta) (hb : PT X b tb) : PT X (.IfExp t a b pos) (fun σ H Q => tc σ H fun k H1 => if k = true then ta σ H1 Q else tb σ H1 Q) := by
  refine ⟨fun pins s σ H Q I h => ?_⟩
  show wpAny _ _ (isTrue t X.env (eval t X.env) >>= fun k => if k = true then isTrue a X.env (eval a X.env) else isTrue b X.env (eval b X.env)) _ _ _
  refine wpAny_bind (thn (hc.run pins s σ H _ I h) fun k s1 ⟨H1, I1, q1⟩ => ?_)
  cases k with
  | true => exact ha.run pins s1 σ H1 Q I1 q1
  | false => exact hb.run pins s1 σ H1 Q I1 q1
theorem ht_ife {t a b : Expr} {z x y : E} {pos : Pos} (ht : HT C F X t z) (ha : HT C F X a x) (hb : HT C F X b y) : HT C F X (.IfExp t a b pos) (.ife z x y) := fun r W tk =>
  pt_mono (pt_ifExp (ht r W tk) (ha r W tk) (hb r W tk)) fun σ H Q ⟨G, io, m, w, sr, p⟩ => by
    have p' : Post C W σ H G io rB (((ev F z r m).bind fun d m => tstD d m).bind fun b m => (if b = true then ev F x r m else ev F y r m).bind fun d m => tstD d m) Q := by
      change Post C W σ H G io rB ((ev F (.ife z x y) r m).bind fun d m => tstD d m) Q at p
      rw [ev] at p
      cases e : ev F z r m with
      | bad => rw [e] at p; exact p
      | exc c m1 => rw [e] at p; exact p
      | ok d m1 =>
        rw [e] at p
        cases d <;> exact p
    refine ⟨G, io, m, w, sr, (p'.seq (R' := fun _ => rB) Mo.const sr).mono ?_⟩
    rintro v1 H1 ⟨G1, io1, m1, d, s1, w1, sr1, rd, e1, p1⟩
    obtain rfl : d = v1 := rd
    cases d with
    | true => exact ⟨G1, io1, m1, w1, sr1, p1⟩
    | false => exact ⟨G1, io1, m1, w1, sr1, p1⟩
/-! ### boxes -/
theorem he_box {e : Expr} {x : E} (h : HN C F X e x) : HE C F X e (.box x) := fun r W tk =>
  pe_mono (h r W tk) fun σ H Q ⟨G, io, m, w, sr, p⟩ => by
    rw [ev] at p
    refine ⟨G, io, m, w, sr, ?_⟩
    cases e1 : ev F x r m with
    | bad => rw [e1] at p; exact p
    | exc k m1 => rw [e1] at p; exact p
    | ok d m1 =>
      rw [e1] at p
      intro v H1 G1 io1 s1 w1 rn
      have p2 : Post C W σ H G io (rRep C) (if isObj d = true then .ok (.box m1.length) (m1 ++ [(false, d)]) else .bad) Q := p
      by_cases hd : isObj d = true
      · rw [if_pos hd] at p2
        unfold RepN at rn
        rw [if_pos hd] at rn
        obtain ⟨a, u, rfl, h0, ha, ob, hg, hi⟩ := rn
        have pre : io1 <+: io1 ++ [a] := List.prefix_append _ _
        refine p2 (.ref a) H1 G1 (io1 ++ [a]) ⟨s1.ext, s1.alive, s1.g, s1.gnew, s1.pre.trans pre, fun b hb => ?_⟩ ⟨w1.sub, w1.nofrz, by rw [List.length_append, List.length_append, w1.len] <;> rfl, ?_, fun b hb => ?_, fun n b l d' h1 h2 => ?_⟩ ?_
        · rcases List.mem_append.mp hb with z | z
          · exact s1.new b z
          · obtain rfl := List.mem_singleton.mp z; exact .inr h0
        · rw [List.nodup_append]
          refine ⟨w1.nd, by simp, fun b hb b' hb' e => ?_⟩
          obtain rfl := List.mem_singleton.mp hb'
          subst e
          exact hi hb
        · rcases List.mem_append.mp hb with z | z
          · exact w1.off b z
          · obtain rfl := List.mem_singleton.mp z; exact hg
        · by_cases hn : n < io1.length
          · rw [List.getElem?_append_left hn] at h1
            rw [List.getElem?_append_left (by rw [← w1.len]; exact hn)] at h2
            obtain ⟨u', ob', r⟩ := w1.box n b l d' h1 h2
            exact ⟨u', ob'.mono (fun _ _ z => z) pre, r⟩
          · have hl : n = io1.length := by
              have := (List.getElem?_eq_some_iff.mp h1).1
              rw [List.length_append] at this
              simp at this; omega
            subst hl
            rw [List.getElem?_append_right (Nat.le_refl _)] at h1
            rw [List.getElem?_append_right (by rw [w1.len]; exact Nat.le_refl _), w1.len] at h2
            simp at h1 h2
            obtain rfl := h1
            obtain ⟨rfl, rfl⟩ := h2
            exact ⟨u, ob.mono (fun _ _ z => z) pre, .inl ha, fun _ _ _ _ => ha, fun _ => ha, fun z => (by cases z)⟩
        · refine ⟨a, rfl, ?_⟩
          rw [← w1.len, List.getElem?_append_right (Nat.le_refl _)]
          simp
      · rw [if_neg hd] at p2; exact p2.elim
/-! ### all of them -/
def isVB : E → Bool
  | .v _ => true
  | .b _ => true
  | _ => false
/-- a place that is read: for a slot that is owned, its very value -/
def Rpl (C : Wd) (σ : L2.St) (r : Env) : E → Hp → Hp → List Addr → D → V → Prop
  | .b i, _, G, io, d, v => (slot r i = .val d ∧ Rep C G io d v) ∨ (slot r i = .own d ∧ σ[i]? = some (some v))
  | _, _, G, io, d, v => Rep C G io d v
def HPl (C : Wd) (F : Fn) (X : Cx) (e : Expr) (x : E) : Prop := ∀ (r : Env) (W : WX), Takes X W → PE X e (fun σ H Q => ∃ G io m, WRel C H G io m ∧ SRel C σ H G io r ∧ Post C W σ H G io (Rpl C σ r x) (ev F x r m) Q)
theorem HE.hl {e : Expr} {x : E} (h : HE C F X e x) (hv : isVB x = false) : HPl C F X e x := fun r W tk => pe_mono (h r W tk) fun σ H Q ⟨G, io, m, w, sr, p⟩ => ⟨G, io, m, w, sr, p.imp fun H' G' io' d v q => by
  cases x <;> first | exact q | cases hv⟩
theorem hl_name (h : CcX c C F X) {x : Str} {pos : Pos} {e : E} (hc : cName c x = some e) : HPl C F X (.Name x pos) (bor c e) := by
  obtain ⟨h1, _⟩ := he_name (pos := pos) h hc
  unfold cName at hc
  cases hs : slotOf c x with
  | some i =>
    rw [hs] at hc
    simp only at hc
    split at hc
    · rename_i ok
      simp only [Option.some.injEq] at hc
      subst hc
      by_cases hmu : c.mu.contains i = true
      · have eb : bor c (.v i) = .b i := if_pos hmu
        rw [eb]
        obtain ⟨hN, hv⟩ := h.vis hs
        unfold okName at ok
        simp only [Bool.and_eq_true, Bool.not_eq_true'] at ok
        exact fun r W tk => pe_mono (pe_var (pos := pos) hN hv ok.1.1 ok.1.2) fun σ H Q ⟨G, io, m, w, sr, p⟩ => by
          rw [ev] at p
          have q := sr.at_ i
          cases e : slot r i with
          | no => rw [e] at p; exact p.elim
          | own d =>
            rw [e] at p q
            obtain ⟨a, u, e1, _⟩ := q
            exact ⟨.ref a, e1, p.here w (.inr ⟨e, e1⟩)⟩
          | val d =>
            rw [e] at p q
            obtain ⟨v, e1, e2⟩ := q
            exact ⟨v, e1, p.here w (.inl ⟨e, e2⟩)⟩
      · have eb : bor c (.v i) = .v i := if_neg hmu
        rw [eb]
        exact fun r W tk => pe_mono (h1 r W tk) fun σ H Q ⟨G, io, m, w, sr, p⟩ => ⟨G, io, m, w, sr, p⟩
    · cases hc
  | none =>
    rw [hs] at hc
    simp only at hc
    split at hc
    · split at hc
      · cases hc
        exact h1.hl rfl
      · cases hc
    · cases hc
structure EOk (c : Cc) (C : Wd) (F : Fn) (X : Cx) (e : Expr) (x : E) : Prop where
  he : HE C F X e x
  ho : HO_ C F X e (bor c x)
  hl : HPl C F X e (bor c x)
  ht : HT C F X e x
  hn : isFresh x = true → HN C F X e x
structure BOk (c : Cc) (C : Wd) (F : Fn) (X : Cx) (o : BoolOp) (es : List Expr) (pos : Pos) (x : E) : Prop where
  he : HE C F X (.BoolOp o es pos) x
  ho : HO_ C F X (.BoolOp o es pos) (bor c x)
  hl : HPl C F X (.BoolOp o es pos) (bor c x)
  hw : HW C F X (.BoolOp o es pos) x
  hn : isFresh x = true → HN C F X (.BoolOp o es pos) x
structure AOk (C : Wd) (F : Fn) (X : Cx) (es : List Expr) (xs : List E) (P : Prop) (P1 : Expr → E → Prop) : Prop where
  ha : P
  one : ∀ e, es = [e] → ∃ x, xs = [x] ∧ P1 e x
  len : xs.length = es.length
  star : ∀ es', ∀ e ∈ es, starEach (e :: es') X.env = (false, eval e X.env) :: starEach es' X.env
theorem bor_ne {c : Cc} {x : E} (h : isVB x = false) : bor c x = x := by
  cases x <;> first | rfl | cases h
/-- what makes a new thing -/
theorem EOk.new {e : Expr} {x : E} (h : HN C F X e x) (hv : isVB x = false) (he : ∀ whole, isTrue e X.env whole = (do let v ← whole; standAt e.pos; holding [v] (truthy v))) : EOk c C F X e x :=
  ⟨h.he, by rw [bor_ne hv]; exact h.he.ho, by rw [bor_ne hv]; exact h.he.hl hv, h.he.ht he, fun _ => h⟩
theorem EOk.old {e : Expr} {x : E} (h : HE C F X e x) (hv : isVB x = false) (hf : isFresh x = false) (ht : HT C F X e x) : EOk c C F X e x :=
  ⟨h, by rw [bor_ne hv]; exact h.ho, by rw [bor_ne hv]; exact h.hl hv, ht, fun z => by rw [hf] at z; cases z⟩
theorem EOk.boxIf {e : Expr} {x : E} {p : Pos} (h : HN C F X e x) (hv : isVB x = false) (he : ∀ whole, isTrue e X.env whole = (do let v ← whole; standAt e.pos; holding [v] (truthy v))) : EOk c C F X e (Wh.boxIf c p x) := by
  unfold Wh.boxIf
  split
  · exact .old (he_box h) rfl rfl ((he_box h).ht he)
  · exact .new h hv he
theorem PW.ht {e : Expr} {x : E} (h : HW C F X e x) : HT C F X e x := fun r W tk => (h r W tk).pt
theorem bor_bor {c : Cc} {x : E} : True := trivial
/-- what is walked -/
theorem hi_of (h : CcX c C F X) {tg it : Expr} {t : Tg} {n : Nat} {s : List E} (ht : ∃ c', tgOf c' tg = some t) (hst : srcTg (srcOf c it).1 t = true) (w : AOk C F X (srcOf c it).2 s (HAo C F X (srcOf c it).2 s) (fun e x => HO_ C F X e x ∧ ∀ v, foldedSetIterable e X.env v = pure v)) :
    HI C F X tg it (srcOf c it).1 s ∧ ∀ v, foldedSetIterable it X.env v = pure v := by
  have plain : (srcOf c it) = (.it, [it]) → HI C F X tg it (srcOf c it).1 s ∧ ∀ v, foldedSetIterable it X.env v = pure v := fun e => by
    rw [e] at w ⊢
    obtain ⟨x, rfl, q1, q2⟩ := w.one it rfl
    exact ⟨hi_it h q1, q2⟩
  cases it <;> first | exact plain rfl | skip
  rename_i f as ks pos
  cases f <;> first | exact plain rfl | skip
  rename_i y p
  cases ks with
  | cons _ _ => exact plain rfl
  | nil =>
    by_cases h1 : isGlN c "range" y = true ∧ (as.length = 1 ∨ as.length = 2)
    · have e : srcOf c (.Call (.Name y p) as [] pos) = (.rng, as) := by
        show (if _ then _ else _) = _
        rw [if_pos h1]
      rw [e] at w ⊢
      obtain ⟨h1, hl⟩ := h1
      unfold isGlN at h1
      rw [Bool.and_eq_true, decide_eq_true_eq] at h1
      obtain ⟨rfl, hg⟩ := h1
      refine ⟨?_, fun _ => rfl⟩
      rcases as with _ | ⟨a, _ | ⟨b, _ | ⟨_, _⟩⟩⟩
      · simp at hl
      · exact hi_rng1 h hg w.len w.ha fun es' => w.star es' a List.mem_cons_self
      · exact hi_rng2 h hg w.len w.ha (fun es' => w.star es' a List.mem_cons_self) fun es' => w.star es' b (List.mem_cons_of_mem _ List.mem_cons_self)
      · simp at hl
    by_cases h2 : isGlN c "enumerate" y = true ∧ as.length = 1
    · have e : srcOf c (.Call (.Name y p) as [] pos) = (.enum, as) := by
        show (if _ then _ else if _ then _ else _) = _
        rw [if_neg h1, if_pos h2]
      rw [e] at w hst ⊢
      obtain ⟨h2, hl⟩ := h2
      unfold isGlN at h2
      rw [Bool.and_eq_true, decide_eq_true_eq] at h2
      obtain ⟨rfl, hg⟩ := h2
      refine ⟨?_, fun _ => rfl⟩
      rcases as with _ | ⟨a, _ | ⟨_, _⟩⟩
      · simp at hl
      · obtain ⟨c', ht⟩ := ht
        cases tg <;> simp only [tgOf, reduceCtorEq] at ht
        · obtain ⟨i, _, rfl⟩ := Option.map_eq_some_iff.mp ht
          cases hst
        · exact hi_enum h hg w.len w.ha fun es' => w.star es' a List.mem_cons_self
      · simp at hl
    by_cases h3 : isGlN c "zip" y = true ∧ as.length = 2
    · have e : srcOf c (.Call (.Name y p) as [] pos) = (.zip, as) := by
        show (if _ then _ else if _ then _ else if _ then _ else _) = _
        rw [if_neg h1, if_neg h2, if_pos h3]
      rw [e] at w hst ⊢
      obtain ⟨h3, hl⟩ := h3
      unfold isGlN at h3
      rw [Bool.and_eq_true, decide_eq_true_eq] at h3
      obtain ⟨rfl, hg⟩ := h3
      refine ⟨?_, fun _ => rfl⟩
      rcases as with _ | ⟨a, _ | ⟨b, _ | ⟨_, _⟩⟩⟩
      · simp at hl
      · simp at hl
      · obtain ⟨c', ht⟩ := ht
        cases tg <;> simp only [tgOf, reduceCtorEq] at ht
        · obtain ⟨i, _, rfl⟩ := Option.map_eq_some_iff.mp ht
          cases hst
        · exact hi_zip h hg w.len w.ha (fun es' => w.star es' a List.mem_cons_self) fun es' => w.star es' b (List.mem_cons_of_mem _ List.mem_cons_self)
      · simp at hl
    · refine plain ?_
      show (if _ then _ else if _ then _ else if _ then _ else _) = _
      rw [if_neg h1, if_neg h2, if_neg h3]
theorem main_E : ∀ n,
    (∀ c X, CcX c C F X → ∀ e x, cE c n e = some x → EOk c C F X e x) ∧
    (∀ c X, CcX c C F X → ∀ o es pos x, cB c n o es = some x → BOk c C F X o es pos x) ∧
    (∀ c X, CcX c C F X → ∀ es xs, cEs c n es = some xs → AOk C F X es xs (HA C F X es xs) (fun e x => HE C F X e x ∧ HT C F X e x ∧ ∀ v, foldedSetIterable e X.env v = pure v)) ∧
    (∀ c X, CcX c C F X → ∀ es xs, cEb c n es = some xs → AOk C F X es xs (HAo C F X es xs) (fun e x => HO_ C F X e x ∧ ∀ v, foldedSetIterable e X.env v = pure v)) ∧
    (∀ c X, CcX c C F X → ∀ o x, cO c n o = some x → HP C F X o x)
  | 0 => ⟨fun c X h e x hx => (cE_zero hx).elim, fun c X h o es pos x hx => (by rw [cB] at hx; cases hx), fun c X h es xs hx => (by rw [cEs] at hx; cases hx), fun c X h es xs hx => (by rw [cEb] at hx; cases hx), fun c X h o x hx => by rw [cO] at hx; cases hx⟩
  | n + 1 => by
    obtain ⟨IE, IB, IA, IAo, IO⟩ := main_E n
    refine ⟨fun c X h e x hx => ?_, fun c X h o es pos x hx => ?_, fun c X h es xs hx => ?_, fun c X h es xs hx => ?_, fun c X h o x hx => ?_⟩
    · have hK := h.glb.K
      have hu := h.glb.units
      cases e <;> simp only [cE, reduceCtorEq] at hx
      case Constant k j pos =>
        obtain ⟨d, e1, rfl⟩ := Option.map_eq_some_iff.mp hx
        exact .old (he_const e1) rfl rfl ((he_const e1).ht fun _ => rfl)
      case Name y pos =>
        obtain ⟨h1, h2⟩ := he_name (pos := pos) h hx
        refine ⟨h1, h2, hl_name h hx, h1.ht fun _ => rfl, fun z => ?_⟩
        unfold cName at hx
        split at hx
        · split at hx
          · cases hx; cases z
          · cases hx
        · split at hx
          · split at hx
            · cases hx; cases z
            · cases hx
          · cases hx
      case BinOp a o b p =>
        obtain ⟨o', e1, hx⟩ := Option.bind_eq_some_iff.mp hx
        obtain ⟨x1, e2, hx⟩ := Option.bind_eq_some_iff.mp hx
        obtain ⟨x2, e3, rfl⟩ := Option.map_eq_some_iff.mp hx
        exact .boxIf (hn_bin hK e1 (IE c X h _ _ e2).ho (IE c X h _ _ e3).ho) rfl fun _ => rfl
      case UnaryOp o a p =>
        cases o <;> simp only [reduceCtorEq] at hx
        · obtain ⟨x1, e2, rfl⟩ := Option.map_eq_some_iff.mp hx
          exact .old (he_not (IE c X h _ _ e2).he) rfl rfl (ht_not (IE c X h _ _ e2).ht)
        · obtain ⟨x1, e2, rfl⟩ := Option.map_eq_some_iff.mp hx
          exact .old (he_neg (IE c X h _ _ e2).he) rfl rfl ((he_neg (IE c X h _ _ e2).he).ht fun _ => rfl)
      case BoolOp o es p =>
        have q := IB c X h o es p x hx
        exact ⟨q.he, q.ho, q.hl, PW.ht q.hw, q.hn⟩
      case IfExp t a b p =>
        obtain ⟨x1, e1, hx⟩ := Option.bind_eq_some_iff.mp hx
        obtain ⟨x2, e2, hx⟩ := Option.bind_eq_some_iff.mp hx
        obtain ⟨x3, e3, rfl⟩ := Option.map_eq_some_iff.mp hx
        exact .old (he_ife (IE c X h _ _ e1).ht (IE c X h _ _ e2).he (IE c X h _ _ e3).he) rfl rfl (ht_ife (IE c X h _ _ e1).ht (IE c X h _ _ e2).ht (IE c X h _ _ e3).ht)
      case Compare a ops bs p =>
        rcases ops with _ | ⟨o, _ | ⟨o2, _ | ⟨o3, _ | ⟨_, _⟩⟩⟩⟩
        · cases bs <;> cases hx
        · rcases bs with _ | ⟨b, _ | ⟨_, _⟩⟩
          · cases hx
          · obtain ⟨o', e1, hx⟩ := Option.bind_eq_some_iff.mp hx
            obtain ⟨x1, e2, hx⟩ := Option.bind_eq_some_iff.mp hx
            obtain ⟨x2, e3, rfl⟩ := Option.map_eq_some_iff.mp hx
            obtain ⟨q1, q2⟩ := hn_cmp (pos := p) hK hu e1 (behind_of e3 o) (IE c X h _ _ e2).ho (IE c X h _ _ e3).ho
            exact .old q1.he rfl rfl q2
          · cases hx
        · rcases bs with _ | ⟨b, _ | ⟨d, _ | ⟨_, _⟩⟩⟩
          · cases hx
          · cases hx
          · obtain ⟨o', e1, hx⟩ := Option.bind_eq_some_iff.mp hx
            obtain ⟨p', e1', hx⟩ := Option.bind_eq_some_iff.mp hx
            obtain ⟨x1, e2, hx⟩ := Option.bind_eq_some_iff.mp hx
            obtain ⟨x2, e3, hx⟩ := Option.bind_eq_some_iff.mp hx
            obtain ⟨x3, e4, rfl⟩ := Option.map_eq_some_iff.mp hx
            obtain ⟨q1, q2⟩ := he_ch2 (pos := p) hK hu e1 e1' (show lastMarks [o, o2] [b, d] = false from behind_of e4 o2) (IE c X h _ _ e2).he (IE c X h _ _ e3).he (IE c X h _ _ e4).he
            exact .old q1.he rfl rfl q2
          · cases hx
        · rcases bs with _ | ⟨b, _ | ⟨d, _ | ⟨f, _ | ⟨_, _⟩⟩⟩⟩
          · cases hx
          · cases hx
          · cases hx
          · obtain ⟨o', e1, hx⟩ := Option.bind_eq_some_iff.mp hx
            obtain ⟨p', e1', hx⟩ := Option.bind_eq_some_iff.mp hx
            obtain ⟨q', e1'', hx⟩ := Option.bind_eq_some_iff.mp hx
            obtain ⟨x1, e2, hx⟩ := Option.bind_eq_some_iff.mp hx
            obtain ⟨x2, e3, hx⟩ := Option.bind_eq_some_iff.mp hx
            obtain ⟨x3, e4, hx⟩ := Option.bind_eq_some_iff.mp hx
            cases x3 <;> first | (cases hx; done) | skip
            rename_i i
            obtain ⟨x4, e5, rfl⟩ := Option.map_eq_some_iff.mp hx
            obtain ⟨q1, q2⟩ := he_ch3 (pos := p) hK hu e1 e1' e1'' (show lastMarks [o, o2, o3] [b, d, f] = false from behind_of e5 o3) (IE c X h _ _ e2).he (IE c X h _ _ e3).he (IE c X h _ _ e4).he (IE c X h _ _ e5).he
            exact .old q1.he rfl rfl q2
          · cases hx
        · rcases bs with _ | ⟨_, _ | ⟨_, _ | ⟨_, _ | ⟨_, _⟩⟩⟩⟩ <;> cases hx
      case Tuple es k p =>
        split at hx
        · rename_i hl
          obtain ⟨xs, e1, rfl⟩ := Option.map_eq_some_iff.mp hx
          have q := IA c X h _ _ e1
          have w := hn_tup (k := k) (pos := p) q.ha (by rw [q.len]; exact hl)
          exact .old w.he rfl rfl (w.he.ht fun _ => rfl)
        · cases hx
      case List es p =>
        split at hx
        · rename_i hl
          obtain ⟨xs, e1, rfl⟩ := Option.map_eq_some_iff.mp hx
          have q := IA c X h _ _ e1
          exact .boxIf (hn_lst q.ha (by rw [q.len]; exact hl)) rfl fun _ => rfl
        · cases hx
      case Dict ks es p =>
        cases ks <;> cases es <;> simp only [reduceCtorEq, Option.some.injEq] at hx
        subst hx
        exact .boxIf hn_dict0 rfl fun _ => rfl
      case Subscript a i p =>
        have plain : ∀ {i : Expr}, (cE c n a).bind (fun x => (cE c n i).map fun y => E.idx (bor c x) y) = some x → EOk c C F X (.Subscript a i p) x := fun {i} hx => by
          obtain ⟨x1, e1, hx⟩ := Option.bind_eq_some_iff.mp hx
          obtain ⟨x2, e2, rfl⟩ := Option.map_eq_some_iff.mp hx
          have w := he_idx (pos := p) hK hu (plainIx_of e2) (IE c X h _ _ e1).ho (IE c X h _ _ e2).he
          exact .old w rfl rfl (w.ht fun _ => rfl)
        cases i <;> first | exact plain hx | skip
        rename_i lo hi st p2
        cases st with
        | none =>
          obtain ⟨x1, e1, hx⟩ := Option.bind_eq_some_iff.mp hx
          obtain ⟨x2, e2, hx⟩ := Option.bind_eq_some_iff.mp hx
          obtain ⟨x3, e3, rfl⟩ := Option.map_eq_some_iff.mp hx
          exact .boxIf (hn_sl hK (IE c X h _ _ e1).ho (IO c X h _ _ e2) (IO c X h _ _ e3)) rfl fun _ => rfl
        | some st =>
          simp only at hx
          split at hx
          · obtain ⟨x1, e1, rfl⟩ := Option.map_eq_some_iff.mp hx
            exact .old (hn_rev hK (IE c X h _ _ e1).ho).he rfl rfl ((hn_rev hK (IE c X h _ _ e1).ho).he.ht fun _ => rfl)
          · cases hx
      case Attribute a f p =>
        obtain ⟨x1, e1, hx⟩ := Option.bind_eq_some_iff.mp hx
        obtain ⟨g, e2, rfl⟩ := Option.map_eq_some_iff.mp hx
        obtain ⟨m1, rfl⟩ := nameIn_ok e2
        have w := he_fld (pos := p) h m1 (base_of h e1 _ _) (IE c X h _ _ e1).ho
        exact .old w rfl rfl (w.ht fun _ => rfl)
      case ListComp el gs scope p =>
        rcases gs with _ | ⟨⟨tg, it, ifs, as⟩, _ | ⟨_, _⟩⟩
        · cases hx
        · simp only at hx
          split at hx
          · rename_i h0
            obtain ⟨⟨has, hif⟩, hot⟩ := h0
            subst has
            obtain ⟨t, e1, hx⟩ := Option.bind_eq_some_iff.mp hx
            split at hx
            · rename_i hb
              obtain ⟨hb, hst⟩ := hb
              obtain ⟨s, e2, hx⟩ := Option.bind_eq_some_iff.mp hx
              obtain ⟨cs, e3, hx⟩ := Option.bind_eq_some_iff.mp hx
              obtain ⟨y, e4, rfl⟩ := Option.map_eq_some_iff.mp hx
              obtain ⟨hi, fs⟩ := hi_of (n := n) h ⟨_, e1⟩ hst (IAo c X h _ _ e2)
              have L : LcOk c C F X el tg it ifs scope y t (srcOf c it).1 s cs := lc_ok h hot e1 hb hi (fun X' h' => by
                have w := IA _ X' h' _ _ e3
                rcases ifs with _ | ⟨i, _ | ⟨_, _⟩⟩
                · obtain rfl : cs = [] := List.eq_nil_of_length_eq_zero w.len
                  exact hts_nil
                · obtain ⟨z, rfl, _, q, _⟩ := w.one i rfl
                  exact hts_one q
                · simp at hif) (fun X' h' => (IE _ X' h' _ _ e4).he) fs
              exact .boxIf (hn_comp L) rfl fun _ => rfl
            · cases hx
          · cases hx
        · cases hx
      case Call f as ks p =>
        cases f <;> simp only [reduceCtorEq] at hx
        case Attribute o m pa =>
          cases ks with
          | cons _ _ => cases hx
          | nil =>
            simp only at hx
            split at hx
            · rename_i hl
              cases hf : c.T.mets.find? fun q => decide (S q.1 = m) with
              | some g =>
                rw [hf] at hx
                simp only at hx
                have gm := List.mem_of_find?_eq_some hf
                have ge : S g.1 = m := by simpa using List.find?_some hf
                subst ge
                split at hx
                · cases hx
                · rename_i hno
                  have hot : c.hot = false := by
                    cases e : c.hot with
                    | false => rfl
                    | true => exact absurd (Or.inl e) hno
                  obtain ⟨x1, e1, hx⟩ := Option.bind_eq_some_iff.mp hx
                  obtain ⟨xs, e2, rfl⟩ := Option.map_eq_some_iff.mp hx
                  have w := IA c X h _ _ e2
                  have u := he_meth (apos := pa) (pos := p) h hot gm (IE c X h _ _ e1).he w.len w.ha (base_of h e1 _ _) hl (by omega) w.star
                  exact .old u rfl rfl (u.ht fun _ => rfl)
              | none =>
                rw [hf] at hx
                simp only at hx
                cases hb : bmOf m as.length with
                | none => rw [hb] at hx; cases hx
                | some b =>
                  rw [hb] at hx
                  obtain ⟨x1, e1, hx⟩ := Option.bind_eq_some_iff.mp hx
                  obtain ⟨ys, e2, rfl⟩ := Option.map_eq_some_iff.mp hx
                  have w := IAo c X h _ _ e2
                  have hone : as.length = 1 ∧ ∃ s, S s = m := by
                    unfold bmOf at hb
                    obtain ⟨q, hq, _⟩ := Option.map_eq_some_iff.mp hb
                    have hm := List.mem_of_find?_eq_some hq
                    have hp := List.find?_some hq
                    simp only [Bool.and_eq_true, decide_eq_true_eq, beq_iff_eq] at hp
                    simp only [bmNames, List.mem_cons, List.not_mem_nil, or_false] at hm
                    rcases hm with rfl | rfl
                    · exact ⟨hp.2.symm, _, hp.1⟩
                    · exact ⟨hp.2.symm, _, hp.1⟩
                  obtain ⟨h1, sm, rfl⟩ := hone
                  rcases as with _ | ⟨a, _ | ⟨_, _⟩⟩
                  · simp at h1
                  · have u := he_bm (apos := pa) (cpos := p) hK hu hb (IE c X h _ _ e1).ho w.ha (base_of h e1 _ _) hl fun es => w.star es a List.mem_cons_self
                    exact .old u rfl rfl (u.ht fun _ => rfl)
                  · simp at h1
            · cases hx
        rename_i y q
        cases ks with
        | cons _ _ => cases hx
        | nil =>
          simp only at hx
          split at hx
          · rename_i hg
            split at hx
            · rename_i hot
              split at hx
              · rename_i hy
                subst hy
                rcases as with _ | ⟨a, _ | ⟨b, _ | ⟨_, _⟩⟩⟩
                · cases hx
                · cases hx
                · cases b <;> simp only [reduceCtorEq] at hx
                  rename_i t pt
                  split at hx
                  · rename_i hgt
                    obtain ⟨x1, e1, hx⟩ := Option.bind_eq_some_iff.mp hx
                    obtain ⟨t', e2, rfl⟩ := Option.map_eq_some_iff.mp hx
                    obtain ⟨m1, rfl⟩ := nameIn_ok e2
                    have u := he_isx (p := q) (pos := p) (pt := pt) h hot hg m1 hgt (IE c X h _ _ e1).he fun es' => star_of e1 es' X.env
                    exact .old u rfl rfl (u.ht fun _ => rfl)
                  · cases hx
                · cases b <;> cases hx
              · cases hn : nameIn c.T.hfns y with
                | none => rw [hn] at hx; cases hx
                | some g =>
                  rw [hn] at hx
                  obtain ⟨xs, e1, rfl⟩ := Option.map_eq_some_iff.mp hx
                  obtain ⟨m1, rfl⟩ := nameIn_ok hn
                  have w := IA c X h _ _ e1
                  have u := he_callX (p := q) (pos := p) h hot m1 hg w.len w.ha w.star
                  exact .old u rfl rfl (u.ht fun _ => rfl)
            rename_i hot
            have hot : c.hot = false := Bool.eq_false_iff.mpr hot
            cases hr : rlOf c y as with
            | some as' =>
              rw [hr] at hx
              obtain ⟨xs, e1, rfl⟩ := Option.map_eq_some_iff.mp hx
              have w := IAo c X h _ _ e1
              unfold rlOf at hr
              split at hr
              · rename_i hy
                subst hy
                split at hr
                · rename_i y2 q2 a b d pos2
                  split at hr
                  · rename_i hgr
                    cases hr
                    unfold isGlN at hgr
                    rw [Bool.and_eq_true, decide_eq_true_eq] at hgr
                    obtain ⟨rfl, hgr⟩ := hgr
                    have u := he_rlen (p := q) (q := q2) (pos := p) (pos2 := pos2) h hg hgr w.ha w.star
                    exact .old u rfl rfl (u.ht fun _ => rfl)
                  · cases hr
                · cases hr
              · cases hr
            | none =>
            rw [hr] at hx
            simp only at hx
            cases hb : biOf y as.length with
            | some b =>
              rw [hb] at hx
              obtain ⟨xs, e1, rfl⟩ := Option.map_eq_some_iff.mp hx
              have w := IAo c X h _ _ e1
              exact .boxIf (hn_bi h hot hb hg w.ha w.star) rfl fun _ => rfl
            | none =>
              rw [hb] at hx
              simp only at hx
              split at hx
              · rename_i hy
                subst hy
                rcases as with _ | ⟨a, _ | ⟨b, _ | ⟨_, _⟩⟩⟩
                · cases hx
                · cases hx
                · cases b <;> simp only [reduceCtorEq] at hx
                  rename_i t pt
                  split at hx
                  · rename_i hgt
                    obtain ⟨x1, e1, hx⟩ := Option.bind_eq_some_iff.mp hx
                    cases e2 : nameIn bltTys t with
                    | none =>
                      rw [e2] at hx
                      obtain ⟨t', e3, rfl⟩ := Option.map_eq_some_iff.mp hx
                      obtain ⟨m1, rfl⟩ := nameIn_ok e3
                      have u := he_isx0 (p := q) (pos := p) (pt := pt) h hot hg m1 hgt (IE c X h _ _ e1).he fun es' => star_of e1 es' X.env
                      exact .old u rfl rfl (u.ht fun _ => rfl)
                    | some t' =>
                    rw [e2] at hx
                    cases hx
                    obtain ⟨m1, rfl⟩ := nameIn_ok e2
                    have hm : X.mg (S t') = none := h.glb.blt t' (by
                      have : ∀ t ∈ bltTys, t ∈ bltNames := by decide
                      exact this t' m1)
                    have u := he_isi (p := q) (pos := p) (pt := pt) h hg m1 hgt hm (IE c X h _ _ e1).ho fun es' => star_of e1 es' X.env
                    exact .old u rfl rfl (u.ht fun _ => rfl)
                  · cases hx
                · cases b <;> cases hx
              · cases hn : nameIn c.T.fns y with
                | none =>
                  rw [hn] at hx
                  simp only at hx
                  cases hn2 : nameIn c.T.cls y with
                  | none => rw [hn2] at hx; cases hx
                  | some g =>
                    rw [hn2] at hx
                    obtain ⟨xs, e1, rfl⟩ := Option.map_eq_some_iff.mp hx
                    obtain ⟨m1, rfl⟩ := nameIn_ok hn2
                    have w := IA c X h _ _ e1
                    exact .boxIf (hn_new (p := q) (pos := p) h hot m1 hg w.len w.ha w.star) rfl fun _ => rfl
                | some g =>
                  rw [hn] at hx
                  obtain ⟨xs, e1, rfl⟩ := Option.map_eq_some_iff.mp hx
                  obtain ⟨m1, rfl⟩ := nameIn_ok hn
                  have w := IA c X h _ _ e1
                  have u := he_call (p := q) (pos := p) h hot m1 hg w.len w.ha w.star
                  exact .old u rfl rfl (u.ht fun _ => rfl)
          · cases hx
    · rcases es with _ | ⟨a, _ | ⟨b, r⟩⟩ <;> simp only [cB] at hx
      · cases hx
      · have q := IE c X h a x hx
        exact ⟨fun r W tk => pe_one (q.he r W tk), fun r W tk => pe_one (q.ho r W tk), fun r W tk => pe_one (q.hl r W tk), by
          cases o
          · exact fun r W tk => pw_and1 (q.ht r W tk)
          · exact fun r W tk => pw_or1 (q.ht r W tk), fun z r W tk => pe_one (q.hn z r W tk)⟩
      · obtain ⟨x1, e1, hx⟩ := Option.bind_eq_some_iff.mp hx
        obtain ⟨x2, e2, hx⟩ := Option.map_eq_some_iff.mp hx
        have q1 := IE c X h _ _ e1
        have q2 := IB c X h o (b :: r) pos _ e2
        cases o with
        | And =>
          obtain rfl : E.and x1 x2 = x := hx
          exact ⟨he_and q1.he q2.he, (he_and q1.he q2.he).ho, (he_and q1.he q2.he).hl rfl, hw_and q1.ht q2.hw, fun z => by cases z⟩
        | Or =>
          obtain rfl : E.or x1 x2 = x := hx
          exact ⟨he_or q1.he q2.he, (he_or q1.he q2.he).ho, (he_or q1.he q2.he).hl rfl, hw_or q1.ht q2.hw, fun z => by cases z⟩
    · cases es with
      | nil =>
        simp only [cEs] at hx
        cases hx
        exact ⟨ha_nil, fun e z => (by cases z), rfl, fun es' e z => (by cases z)⟩
      | cons e es =>
        simp only [cEs] at hx
        obtain ⟨x1, e1, hx⟩ := Option.bind_eq_some_iff.mp hx
        obtain ⟨xs1, e2, rfl⟩ := Option.map_eq_some_iff.mp hx
        have q1 := IE c X h _ _ e1
        have q2 := IA c X h _ _ e2
        refine ⟨ha_cons q1.he q2.ha (star_of e1 es X.env), fun e' z => ?_, by rw [List.length_cons, List.length_cons, q2.len], fun es' e' z => ?_⟩
        · cases z
          obtain rfl : xs1 = [] := List.eq_nil_of_length_eq_zero q2.len
          exact ⟨x1, rfl, q1.he, q1.ht, fold_of e1 X.env⟩
        · rcases List.mem_cons.mp z with rfl | z
          · exact star_of e1 es' X.env
          · exact q2.star es' e' z
    · cases es with
      | nil =>
        simp only [cEb] at hx
        cases hx
        exact ⟨hao_nil, fun e z => (by cases z), rfl, fun es' e z => (by cases z)⟩
      | cons e es =>
        simp only [cEb] at hx
        obtain ⟨x1, e1, hx⟩ := Option.bind_eq_some_iff.mp hx
        obtain ⟨xs1, e2, rfl⟩ := Option.map_eq_some_iff.mp hx
        have q1 := IE c X h _ _ e1
        have q2 := IAo c X h _ _ e2
        refine ⟨hao_cons q1.ho q2.ha (star_of e1 es X.env), fun e' z => ?_, by rw [List.length_cons, List.length_cons, q2.len], fun es' e' z => ?_⟩
        · cases z
          obtain rfl : xs1 = [] := List.eq_nil_of_length_eq_zero q2.len
          exact ⟨_, rfl, q1.ho, fold_of e1 X.env⟩
        · rcases List.mem_cons.mp z with rfl | z
          · exact star_of e1 es' X.env
          · exact q2.star es' e' z
    · cases o with
      | none => simp only [cO] at hx; cases hx; exact hp_none
      | some e => simp only [cO] at hx; exact hp_some (IE c X h _ _ hx).he
end
end Wh
/-! Statements: the state between them; simple ones. -/
namespace Wh
open PySem L2 PySem.Spec PyProof.Rows
/-- between statements: H0 G0 io0 at the def's entry -/
structure TRel (C : Wd) (H0 G0 : Hp) (io0 : List Addr) (σ : L2.St) (H G : Hp) (io : List Addr) (r : Env) (m : Mu) : Prop where
  w : WRel C H G io m
  s : Step H0 G0 io0 H G io
  sr : SRel C σ H G io r
  own : ∀ i d, slot r i = .own d → ∃ a u, σ[i]? = some (some (.ref a)) ∧ H a = some u ∧ IsOb C G io u d ∧ G a = none ∧ a ∉ io ∧ H0 a = none
  dist : ∀ i j di dj a, slot r i = .own di → slot r j = .own dj → σ[i]? = some (some (.ref a)) → σ[j]? = some (some (.ref a)) → i = j
def PostS (C : Wd) (W : WX) (H0 G0 : Hp) (io0 : List Addr) (rs : Rs) (D : Ends) : Prop := match rs with
  | .nx r m => ∀ σ H G io, TRel C H0 G0 io0 σ H G io r m → D.nx σ H
  | .rt d r m => ∀ v H G io, Step H0 G0 io0 H G io → WRel C H G io m → Rep C G io d v → D.rt v H
  | .exc c r m => ∀ σ H G io A, TRel C H0 G0 io0 σ H G io r m → C.mg (S c) = some (.ref A) → W (.ref A) none σ H
  | .bad => False
def tX (C : Wd) (W : WX) (H0 G0 : Hp) (io0 : List Addr) (r : Env) (f : Mu → Rs) : TS := fun D σ H => ∃ G io m, TRel C H0 G0 io0 σ H G io r m ∧ PostS C W H0 G0 io0 (f m) D
def HS (C : Wd) (F : Fn) (X : Cx) (st : Stmt) (s : Wh.St) : Prop := ∀ (H0 G0 : Hp) (io0 : List Addr) (r : Env) (W : WX), Takes X W → PS X st (tX C W H0 G0 io0 r (ex F s r))
def HSs (C : Wd) (F : Fn) (X : Cx) (sts : List Stmt) (ss : List Wh.St) : Prop := ∀ (H0 G0 : Hp) (io0 : List Addr) (r : Env) (W : WX), Takes X W → PSs X sts (tX C W H0 G0 io0 r (exs F ss r))
section
variable {C : Wd} {F : Fn} {X : Cx} {c : Cc} {H0 G0 H G H1 G1 : Hp} {io0 io io1 : List Addr} {σ : L2.St} {r : Env} {m m1 : Mu} {W : WX} {De : Ends}
theorem TRel.step (t : TRel C H0 G0 io0 σ H G io r m) (s : Step H G io H1 G1 io1) (w : WRel C H1 G1 io1 m1) : TRel C H0 G0 io0 σ H1 G1 io1 r m1 where
  w := w
  s := t.s.trans s
  sr := t.sr.step s
  own := fun i d e => by
    obtain ⟨a, u, e1, ha, ob, hg, hn, h0⟩ := t.own i d e
    exact ⟨a, u, e1, s.ext _ _ ha fun z => absurd z hn, ob.step s, s.offG (.inl ha) hg, s.offIo ha hn, h0⟩
  dist := t.dist
theorem ps_mono {st : Stmt} {t t' : TS} (h : PS X st t) (hm : ∀ D σ H, t' D σ H → t D σ H) : PS X st t' := ⟨fun pins s σ H D I q => h.run pins s σ H D I (hm D σ H q)⟩
theorem pss_mono {st : List Stmt} {t t' : TS} (h : PSs X st t) (hm : ∀ D σ H, t' D σ H → t D σ H) : PSs X st t' := ⟨fun pins s σ H D I q => h.run pins s σ H D I (hm D σ H q)⟩
/-- an expression within a statement -/
theorem PostS.on {α β : Type} {R' : Hp → Hp → Hp → List Addr → α → β → Prop} {f : Res α} {k : α → Mu → Rs} (t : TRel C H0 G0 io0 σ H G io r m) (p : PostS C W H0 G0 io0 (f.on r k) De) :
    Post C W σ H G io (R' H) f (fun v H1 => ∃ G1 io1 m1 d, Step H G io H1 G1 io1 ∧ TRel C H0 G0 io0 σ H1 G1 io1 r m1 ∧ R' H H1 G1 io1 d v ∧ f = .ok d m1 ∧ PostS C W H0 G0 io0 (k d m1) De) := by
  cases f with
  | bad => exact p
  | exc c m1 => exact fun H1 G1 io1 A s w e => p σ H1 G1 io1 A (t.step s w) e
  | ok d m1 => exact fun v H1 G1 io1 s w q => ⟨G1, io1, m1, d, s, t.step s w, q, rfl, p⟩
/-! ### slots -/
theorem TRel.setVal (t : TRel C H0 G0 io0 σ H G io r m) (i : Nat) {d : D} {v : V} (q : Rep C G io d v) : TRel C H0 G0 io0 (σ.set i (some v)) H G io (r.set i (.val d)) m where
  w := t.w
  s := t.s
  sr := t.sr.set i q
  own := fun j x e => by
    rw [slot_set] at e
    split at e
    · cases e
    · rename_i hn
      obtain ⟨a, u, e1, rest⟩ := t.own j x e
      refine ⟨a, u, ?_, rest⟩
      have hl := t.sr.len
      by_cases hij : i = j
      · subst hij
        have : ¬ i < r.length := fun z => hn ⟨rfl, z⟩
        rw [List.set_eq_of_length_le (by omega)]; exact e1
      · rw [List.getElem?_set_ne hij]; exact e1
  dist := fun j k dj dk a e1 e2 e3 e4 => by
    rw [slot_set] at e1 e2
    split at e1
    · cases e1
    split at e2
    · cases e2
    rename_i h1 h2
    have hl := t.sr.len
    have back : ∀ x, ¬ (i = x ∧ i < r.length) → (σ.set i (some v))[x]? = some (some (.ref a)) → σ[x]? = some (some (.ref a)) := fun x hx e => by
      by_cases hix : i = x
      · subst hix
        have : ¬ i < r.length := fun z => hx ⟨rfl, z⟩
        rw [List.set_eq_of_length_le (by omega)] at e; exact e
      · rw [List.getElem?_set_ne hix] at e; exact e
    exact t.dist j k dj dk a e1 e2 (back j h1 e3) (back k h2 e4)
/-- a new thing, owned; Hb ahead of it -/
theorem TRel.setOwn {Hb : Hp} (t : TRel C H0 G0 io0 σ H G io r m) (i : Nat) {d : D} {a : Addr} {u : HO} (ha : H a = some u) (ob : IsOb C G io u d) (hg : G a = none) (hn : a ∉ io) (h0 : H0 a = none)
    (hb : ∀ j dj b, slot r j = .own dj → σ[j]? = some (some (.ref b)) → b ≠ a) : TRel C H0 G0 io0 (σ.set i (some (.ref a))) H G io (r.set i (.own d)) m := by
  have hl := t.sr.len
  have at_ : ∀ j, slot (r.set i (.own d)) j = (if i = j ∧ i < r.length then .own d else slot r j) := fun j => slot_set
  have back : ∀ x, ¬ (i = x ∧ i < r.length) → (σ.set i (some (.ref a)))[x]? = σ[x]? := fun x hx => by
    by_cases hix : i = x
    · subst hix
      have : ¬ i < r.length := fun z => hx ⟨rfl, z⟩
      rw [List.set_eq_of_length_le (by omega)]
    · rw [List.getElem?_set_ne hix]
  refine ⟨t.w, t.s, ⟨by rw [List.length_set, List.length_set]; exact hl, fun j => ?_⟩, fun j x e => ?_, fun j k dj dk b e1 e2 e3 e4 => ?_⟩
  · by_cases e : i = j ∧ i < r.length
    · rw [at_ j, if_pos e]
      obtain ⟨rfl, hi⟩ := e
      exact ⟨a, u, by rw [List.getElem?_set_self (by omega)], .inl ha, ob, fun _ _ _ _ => ha, hg, hn⟩
    · rw [at_ j, if_neg e, back j e]
      exact t.sr.at_ j
  · rw [at_ j] at e
    by_cases h : i = j ∧ i < r.length
    · rw [if_pos h] at e
      obtain ⟨rfl, hi⟩ := h
      cases e
      exact ⟨a, u, by rw [List.getElem?_set_self (by omega)], ha, ob, hg, hn, h0⟩
    · rw [if_neg h] at e
      rw [back j h]
      exact t.own j x e
  · rw [at_ j] at e1
    rw [at_ k] at e2
    by_cases hj : i = j ∧ i < r.length <;> by_cases hk : i = k ∧ i < r.length
    · rw [← hj.1, ← hk.1]
    · rw [if_neg hk] at e2
      rw [back k hk] at e4
      obtain ⟨rfl, hi⟩ := hj
      rw [List.getElem?_set_self (by omega)] at e3
      cases e3
      exact absurd rfl (hb k dk _ e2 e4)
    · rw [if_neg hj] at e1
      rw [back j hj] at e3
      obtain ⟨rfl, hi⟩ := hk
      rw [List.getElem?_set_self (by omega)] at e4
      cases e4
      exact absurd rfl (hb j dj _ e1 e3)
    · rw [if_neg hj] at e1
      rw [if_neg hk] at e2
      rw [back j hj] at e3
      rw [back k hk] at e4
      exact t.dist j k dj dk b e1 e2 e3 e4
/-- an owned thing is changed -/
theorem TRel.write (t : TRel C H0 G0 io0 σ H G io r m) {i : Nat} {d d' : D} {a : Addr} {u u' : HO} (e : slot r i = .own d) (ei : σ[i]? = some (some (.ref a))) (ha : H a = some u) (ob : IsOb C G io u' d') : TRel C H0 G0 io0 σ (upd H a u') G io (r.set i (.own d')) m := by
  obtain ⟨a', u2, e1, ha', _, hg, hn, h0⟩ := t.own i d e
  rw [ei] at e1
  cases e1
  have hl := t.sr.len
  have hi : i < r.length := by
    by_cases z : i < r.length
    · exact z
    · unfold slot at e
      rw [List.getElem?_eq_none (by omega)] at e
      cases e
  have at_ : ∀ j, slot (r.set i (.own d')) j = (if i = j then .own d' else slot r j) := fun j => by
    rw [slot_set]
    by_cases z : i = j
    · rw [if_pos ⟨z, hi⟩, if_pos z]
    · rw [if_neg fun q => z q.1, if_neg z]
  have ne : ∀ j dj b, slot r j = .own dj → σ[j]? = some (some (.ref b)) → i ≠ j → b ≠ a := fun j dj b e2 e3 hij z => by
    subst z
    exact hij (t.dist i j d dj b e e2 ei e3)
  have hnf : ∀ o x, u' ≠ .frz o x := ob.noFrz
  refine ⟨⟨fun b x eb => ?_, t.w.nofrz, t.w.len, t.w.nd, t.w.off, fun n b l x h1 h2 => ?_⟩, ⟨fun b o eb hc => ?_, fun b eb => ?_, t.s.g, t.s.gnew, t.s.pre, t.s.new⟩, ⟨by rw [List.length_set]; exact hl, fun j => ?_⟩, fun j x ej => ?_, fun j k dj dk b e1 e2 e3 e4 => ?_⟩
  · have hb : b ≠ a := fun z => by subst z; rw [hg] at eb; cases eb
    have q := t.w.sub b x eb
    cases x <;> first
      | (rw [upd_ne hb]; exact q)
      | (rcases q with q | ⟨o, q⟩
         · exact .inl (by rw [upd_ne hb]; exact q)
         · exact .inr ⟨o, by rw [upd_ne hb]; exact q⟩)
  · have hb : b ≠ a := fun z => hn (z ▸ List.mem_of_getElem? h1)
    obtain ⟨v, ob2, hr, hx, hf, ht⟩ := t.w.box n b l x h1 h2
    refine ⟨v, ob2, ?_, fun A dx fs z => by rw [upd_ne hb]; exact hx A dx fs z, fun z => by rw [upd_ne hb]; exact hf z, fun z => by rw [upd_ne hb]; exact ht z⟩
    rcases hr with q | ⟨o, q⟩
    · exact .inl (by rw [upd_ne hb]; exact q)
    · exact .inr ⟨o, by rw [upd_ne hb]; exact q⟩
  · have hb : b ≠ a := fun z => by subst z; rw [h0] at eb; cases eb
    rw [upd_ne hb]; exact t.s.ext b o eb hc
  · by_cases hb : b = a
    · subst hb; exact h0
    · rw [upd_ne hb] at eb; exact t.s.alive b eb
  · rw [at_ j]
    by_cases hij : i = j
    · subst hij
      rw [if_pos rfl]
      exact ⟨a, u', ei, .inl upd_same, ob, fun _ _ _ _ => upd_same, hg, hn⟩
    · rw [if_neg hij]
      have q := t.sr.at_ j
      cases ej : slot r j with
      | no => trivial
      | val x => rw [ej] at q; exact q
      | own x =>
        obtain ⟨b, v, e1, hbv, ob2, hg2, hn2, h02⟩ := t.own j x ej
        have hb := ne j x b ej e1 hij
        exact ⟨b, v, e1, .inl (by rw [upd_ne hb]; exact hbv), ob2, fun _ _ _ _ => by rw [upd_ne hb]; exact hbv, hg2, hn2⟩
  · rw [at_ j] at ej
    by_cases hij : i = j
    · subst hij
      rw [if_pos rfl] at ej
      cases ej
      exact ⟨a, u', ei, upd_same, ob, hg, hn, h0⟩
    · rw [if_neg hij] at ej
      obtain ⟨b, v, e1, hbv, rest⟩ := t.own j x ej
      exact ⟨b, v, e1, by rw [upd_ne (ne j x b ej e1 hij)]; exact hbv, rest⟩
  · rw [at_ j] at e1
    rw [at_ k] at e2
    have f1 : ∃ dj, slot r j = .own dj := by
      by_cases hij : i = j
      · exact ⟨d, hij ▸ e⟩
      · rw [if_neg hij] at e1; exact ⟨_, e1⟩
    have f2 : ∃ dk, slot r k = .own dk := by
      by_cases hik : i = k
      · exact ⟨d, hik ▸ e⟩
      · rw [if_neg hik] at e2; exact ⟨_, e2⟩
    obtain ⟨_, f1⟩ := f1
    obtain ⟨_, f2⟩ := f2
    exact t.dist j k _ _ b f1 f2 e3 e4
/-- a box is changed -/
theorem TRel.writeBox (t : TRel C H0 G0 io0 σ H G io r m) {n : Nat} {d d' : D} {a : Addr} {u' : HO} (en : io[n]? = some a) (em : m[n]? = some (false, d)) (ob : IsOb C G io u' d') : TRel C H0 G0 io0 σ (upd H a u') G io r (m.set n (false, d')) := by
  have hmem := List.mem_of_getElem? en
  have hg := t.w.off a hmem
  obtain ⟨u0, ob0, hr0, hx0, hf0, _⟩ := t.w.box n a false d en em
  have ha := hf0 rfl
  have nl : n < m.length := (List.getElem?_eq_some_iff.mp em).1
  have nofr : ∀ od x, H a ≠ some (.frz od x) := fun od x z => by
    rw [ha] at z; cases z
    exact ob0.noFrz _ _ rfl
  have uniq : ∀ k b, io[k]? = some b → k ≠ n → b ≠ a := fun k b hk hkn z => by
    subst z
    have l1 := (List.getElem?_eq_some_iff.mp hk).1
    have l2 := (List.getElem?_eq_some_iff.mp en).1
    exact hkn ((List.getElem_inj (i := k) (j := n) t.w.nd).mp (by
      have a1 := (List.getElem?_eq_some_iff.mp hk).2
      have a2 := (List.getElem?_eq_some_iff.mp en).2
      rw [a1, a2]))
  refine ⟨⟨fun b x eb => ?_, t.w.nofrz, by rw [List.length_set]; exact t.w.len, t.w.nd, t.w.off, fun k b l x h1 h2 => ?_⟩, ⟨fun b o eb hc => ?_, fun b eb => ?_, t.s.g, t.s.gnew, t.s.pre, t.s.new⟩, ⟨t.sr.len, fun j => ?_⟩, fun j x ej => ?_, t.dist⟩
  · have hb : b ≠ a := fun z => by subst z; rw [hg] at eb; cases eb
    have q := t.w.sub b x eb
    cases x <;> first
      | (rw [upd_ne hb]; exact q)
      | (rcases q with q | ⟨o, q⟩
         · exact .inl (by rw [upd_ne hb]; exact q)
         · exact .inr ⟨o, by rw [upd_ne hb]; exact q⟩)
  · by_cases hk : k = n
    · subst hk
      rw [en] at h1
      cases h1
      rw [List.getElem?_set_self nl] at h2
      cases h2
      exact ⟨u', ob, .inl upd_same, fun _ _ _ _ => upd_same, fun _ => upd_same, fun z => by cases z⟩
    · rw [List.getElem?_set_ne (Ne.symm hk)] at h2
      have hb := uniq k b h1 hk
      obtain ⟨v, ob2, hr, hx, hf, ht⟩ := t.w.box k b l x h1 h2
      refine ⟨v, ob2, ?_, fun A dx fs z => by rw [upd_ne hb]; exact hx A dx fs z, fun z => by rw [upd_ne hb]; exact hf z, fun z => by rw [upd_ne hb]; exact ht z⟩
      rcases hr with q | ⟨o, q⟩
      · exact .inl (by rw [upd_ne hb]; exact q)
      · exact .inr ⟨o, by rw [upd_ne hb]; exact q⟩
  · have q := t.s.ext b o eb hc
    by_cases hb : b = a
    · subst hb
      rcases t.s.new b hmem with z | z
      · obtain ⟨od, x, rfl⟩ := hc z
        exact absurd q (nofr od x)
      · rw [z] at eb; cases eb
    · rw [upd_ne hb]; exact q
  · by_cases hb : b = a
    · subst hb; rw [upd_same] at eb; cases eb
    · rw [upd_ne hb] at eb; exact t.s.alive b eb
  · have q := t.sr.at_ j
    cases ej : slot r j with
    | no => trivial
    | val x => rw [ej] at q; exact q
    | own x =>
      obtain ⟨b, v, e1, hbv, ob2, hg2, hn2, h02⟩ := t.own j x ej
      have hb : b ≠ a := fun z => hn2 (z ▸ hmem)
      exact ⟨b, v, e1, .inl (by rw [upd_ne hb]; exact hbv), ob2, fun _ _ _ _ => by rw [upd_ne hb]; exact hbv, hg2, hn2⟩
  · obtain ⟨b, v, e1, hbv, ob2, hg2, hn2, h02⟩ := t.own j x ej
    have hb : b ≠ a := fun z => hn2 (z ▸ hmem)
    exact ⟨b, v, e1, by rw [upd_ne hb]; exact hbv, ob2, hg2, hn2, h02⟩
/-- an owned slot is frozen -/
theorem TRel.frz1 (t : TRel C H0 G0 io0 σ H G io r m) {i : Nat} {d : D} (e : slot r i = .own d) : ∃ G', TRel C H0 G0 io0 σ H G' io (r.set i (.val d)) m := by
  obtain ⟨a, u, ei, ha, ob, hg, hn, h0⟩ := t.own i d e
  have hl := t.sr.len
  have hi : i < r.length := by
    by_cases z : i < r.length
    · exact z
    · unfold slot at e
      rw [List.getElem?_eq_none (by omega)] at e
      cases e
  have at_ : ∀ j, slot (r.set i (.val d)) j = (if i = j then .val d else slot r j) := fun j => by
    rw [slot_set]
    by_cases z : i = j
    · rw [if_pos ⟨z, hi⟩, if_pos z]
    · rw [if_neg fun q => z q.1, if_neg z]
  have up : ∀ b x, G b = some x → upd G a u b = some x := fun b x e => by rw [upd_ne (ne_of_none e hg)]; exact e
  refine ⟨upd G a u, t.w.freeze ha ob.noFrz hg hn, ⟨t.s.ext, t.s.alive, fun b x eb => up b x (t.s.g b x eb), fun b x eb => ?_, t.s.pre, t.s.new⟩, ⟨by rw [List.length_set]; exact hl, fun j => ?_⟩, fun j x ej => ?_, fun j k dj dk b e1 e2 e3 e4 => ?_⟩
  · by_cases hb : b = a
    · subst hb; exact .inr h0
    · rw [upd_ne hb] at eb; exact t.s.gnew b x eb
  · rw [at_ j]
    by_cases hij : i = j
    · subst hij
      rw [if_pos rfl]
      exact ⟨.ref a, ei, (ob.mono up List.prefix_rfl).rep upd_same⟩
    · rw [if_neg hij]
      have q := t.sr.at_ j
      cases ej : slot r j with
      | no => trivial
      | val x =>
        rw [ej] at q
        obtain ⟨v, e1, e2⟩ := q
        exact ⟨v, e1, Rep.mono up List.prefix_rfl _ _ e2⟩
      | own x =>
        obtain ⟨b, v, e1, hbv, ob2, hg2, hn2, h02⟩ := t.own j x ej
        have hb : b ≠ a := fun z => by subst z; exact hij (t.dist i j d x b e ej ei e1)
        exact ⟨b, v, e1, .inl hbv, ob2.mono up List.prefix_rfl, fun _ _ _ _ => hbv, by rw [upd_ne hb]; exact hg2, hn2⟩
  · rw [at_ j] at ej
    by_cases hij : i = j
    · rw [if_pos hij] at ej; cases ej
    · rw [if_neg hij] at ej
      obtain ⟨b, v, e1, hbv, ob2, hg2, hn2, h02⟩ := t.own j x ej
      have hb : b ≠ a := fun z => by subst z; exact hij (t.dist i j d x b e ej ei e1)
      exact ⟨b, v, e1, hbv, ob2.mono up List.prefix_rfl, by rw [upd_ne hb]; exact hg2, hn2, h02⟩
  · rw [at_ j] at e1
    rw [at_ k] at e2
    by_cases hij : i = j
    · rw [if_pos hij] at e1; cases e1
    by_cases hik : i = k
    · rw [if_pos hik] at e2; cases e2
    rw [if_neg hij] at e1
    rw [if_neg hik] at e2
    exact t.dist j k dj dk b e1 e2 e3 e4
theorem TRel.frz : ∀ (is : List Nat) {G : Hp} {r : Env}, TRel C H0 G0 io0 σ H G io r m → ∃ G', TRel C H0 G0 io0 σ H G' io (freeze r is) m
  | [], G, r, t => ⟨G, t⟩
  | i :: is, G, r, t => by
    show ∃ G', TRel C H0 G0 io0 σ H G' io (freeze (match slot r i with
      | .own d => r.set i (.val d)
      | _ => r) is) m
    cases e : slot r i with
    | own d =>
      obtain ⟨G', t'⟩ := t.frz1 e
      exact TRel.frz is t'
    | no => exact TRel.frz is t
    | val d => exact TRel.frz is t
theorem hs_fz {st : Stmt} {s : Wh.St} {is : List Nat} (h : HS C F X st s) : HS C F X st (.fz is s) := fun H0 G0 io0 r W tk =>
  ps_mono (h H0 G0 io0 (freeze r is) W tk) fun D σ H ⟨G, io, m, t, p⟩ => by
    rw [ex] at p
    obtain ⟨G', t'⟩ := t.frz is
    exact ⟨G', io, m, t', p⟩
theorem hs_fzIf {st : Stmt} {s : Wh.St} {is : List Nat} (h : HS C F X st s) : HS C F X st (fzIf is s) := by
  unfold fzIf
  split
  · exact h
  · exact hs_fz h
/-! ### simple statements -/
theorem hs_pass {pos : Pos} : HS C F X (.Pass pos) .pass := fun H0 G0 io0 r W tk => ps_mono ps_pass fun D σ H ⟨G, io, m, t, p⟩ => by
  rw [ex] at p
  exact p σ H G io t
theorem hs_expr {e : Expr} {x : E} {pos : Pos} (h : HE C F X e x) (hs : swapsWith e none pos.line X.env = pure false) : HS C F X (.Expr e pos) (.expr x) := fun H0 G0 io0 r W tk =>
  ps_mono (ps_expr (h r W tk) hs) fun D σ H ⟨G, io, m, t, p⟩ => by
    rw [ex] at p
    refine ⟨G, io, m, t.w, t.sr, (p.on (R' := fun _ => rRep C) t).mono ?_⟩
    rintro v H1 ⟨G1, io1, m1, d, s1, t1, rd, e1, p1⟩
    exact p1 σ H1 G1 io1 t1
theorem hs_ret {e : Expr} {x : E} {pos : Pos} (h : HE C F X e x) : HS C F X (.Return (some e) pos) (.ret x) := fun H0 G0 io0 r W tk =>
  ps_mono (ps_ret (h r W tk)) fun D σ H ⟨G, io, m, t, p⟩ => by
    rw [ex] at p
    refine ⟨G, io, m, t.w, t.sr, (p.on (R' := fun _ => rRep C) t).mono ?_⟩
    rintro v H1 ⟨G1, io1, m1, d, s1, t1, rd, e1, p1⟩
    exact p1 v H1 G1 io1 t1.s t1.w rd
theorem hs_retN {pos : Pos} : HS C F X (.Return none pos) (.ret (.c .non)) := fun H0 G0 io0 r W tk =>
  ps_mono ps_retN fun D σ H ⟨G, io, m, t, p⟩ => by
    rw [ex, ev] at p
    exact p .non H G io t.s t.w rfl
theorem hss_nil : HSs C F X [] [] := fun H0 G0 io0 r W tk => pss_mono pss_nil fun D σ H ⟨G, io, m, t, p⟩ => by
  rw [exs] at p
  exact p σ H G io t
theorem hss_cons {st : Stmt} {sts : List Stmt} {s : Wh.St} {ss : List Wh.St} (h1 : HS C F X st s) (h2 : HSs C F X sts ss) : HSs C F X (st :: sts) (s :: ss) := fun H0 G0 io0 r W tk => by
  -- the rest is read at whatever slots the first leaves
  have h2' : PSs X sts (fun D σ H => ∃ r', tX C W H0 G0 io0 r' (exs F ss r') D σ H) := ⟨fun pins s σ H D I ⟨r', q⟩ => (h2 H0 G0 io0 r' W tk).run pins s σ H D I q⟩
  refine pss_mono (pss_cons (h1 H0 G0 io0 r W tk) h2') fun D σ H ⟨G, io, m, t, p⟩ => ⟨G, io, m, t, ?_⟩
  rw [exs] at p
  cases e : ex F s r m with
  | bad => rw [e] at p; exact p
  | exc k r' m' => rw [e] at p; exact p
  | rt d r' m' => rw [e] at p; exact p
  | nx r' m' =>
    rw [e] at p
    exact fun σ' H' G' io' t' => ⟨r', G', io', m', t', p⟩
theorem hs_ife {t : Expr} {a b : List Stmt} {x : E} {as bs : List Wh.St} {pos : Pos} (ht : HT C F X t x) (ha : HSs C F X a as) (hb : HSs C F X b bs) : HS C F X (.If t a b pos) (.ife x as bs) := fun H0 G0 io0 r W tk =>
  ps_mono (ps_if (ht r W tk) (ha H0 G0 io0 r W tk) (hb H0 G0 io0 r W tk)) fun D σ H ⟨G, io, m, t, p⟩ => by
    have p' : PostS C W H0 G0 io0 (((ev F x r m).bind fun d m => tstD d m).on r fun c m => if c = true then exs F as r m else exs F bs r m) D := by
      rw [ex] at p
      cases e : ev F x r m with
      | bad => rw [e] at p; exact p
      | exc k m1 => rw [e] at p; exact p
      | ok d m1 =>
        rw [e] at p
        cases d <;> exact p
    refine ⟨G, io, m, t.w, t.sr, (p'.on (R' := fun _ => rB) t).mono ?_⟩
    rintro v H1 ⟨G1, io1, m1, d, s1, t1, rd, e1, p1⟩
    obtain rfl : d = v := rd
    cases d with
    | true => exact ⟨G1, io1, m1, t1, p1⟩
    | false => exact ⟨G1, io1, m1, t1, p1⟩
end
end Wh
/-! Statements: stores, changes. -/
namespace Wh
open PySem L2 PySem.Spec PyProof.Rows
section
variable {C : Wd} {F : Fn} {X : Cx} {c : Cc} {H0 G0 H G H1 G1 : Hp} {io0 io io1 : List Addr} {σ : L2.St} {r : Env} {m m1 : Mu} {W : WX} {De : Ends}
/-! ### name = value -/
def tUnlS (X : Cx) (t : TS) : TS := fun D σ H => t { D with nx := fun σ' H1 => D.nx σ' H1 ∨ ∃ d od u, H1 d = some (.frz od u) ∧ NoF X d ∧ D.nx σ' (upd H1 d u) } σ H
theorem ps_unl {st : Stmt} {t : TS} (h : PS X st t) : PS X st (tUnlS X t) := ⟨fun pins s σ H D I hw =>
  thn (h.run pins s σ H _ I hw) fun f s1 q => by
    cases f with
    | next =>
      obtain ⟨σ', H', I', q⟩ := q
      rcases q with q | ⟨d, od, u, e, nf, q⟩
      · exact ⟨σ', H', I', q⟩
      · exact ⟨σ', _, I'.unlock e nf, q⟩
    | ret v => exact q
    | brk => exact q
    | cont => exact q⟩
/-- a name is given a new thing -/
def PNw (C : Wd) (F : Fn) (X : Cx) (st : Stmt) (i : Nat) (x : E) : Prop := ∀ (r : Env) (W : WX), Takes X W → PS X st (tAsg (tRun C W r (RepN C) (ev F x r)) (gName i))
def PVw (C : Wd) (F : Fn) (X : Cx) (st : Stmt) (i : Nat) (x : E) : Prop := ∀ (r : Env) (W : WX), Takes X W → PS X st (tAsg (tRun C W r (fun _ => rRep C) (ev F x r)) (gName i))
theorem PNw.pv {st : Stmt} {i : Nat} {x : E} (h : PNw C F X st i x) : PVw C F X st i x := fun r W tk => ps_mono (h r W tk) fun D σ H ⟨G, io, m, w, sr, p⟩ => ⟨G, io, m, w, sr, p.freeze⟩
theorem pn_set (h : CcX c C F X) {y : Str} {i : Nat} {e : Expr} {x : E} {p' pos : Pos} (hi : slotTo c y = some i) (he : HN C F X e x) (hs : swapsWith e (some (.Name y p')) pos.line X.env = pure false) : PNw C F X (.Assign [.Name y p'] e pos) i x := fun r W tk => by
  obtain ⟨k1, k2, k3⟩ := h.loc hi
  exact ps_set (by rw [h.N]; exact h.nd) k1 k2 (he r W tk) hs k3
theorem pv_set (h : CcX c C F X) {y : Str} {i : Nat} {e : Expr} {x : E} {p' pos : Pos} (hi : slotTo c y = some i) (he : HE C F X e x) (hs : swapsWith e (some (.Name y p')) pos.line X.env = pure false) : PVw C F X (.Assign [.Name y p'] e pos) i x := fun r W tk => by
  obtain ⟨k1, k2, k3⟩ := h.loc hi
  exact ps_set (by rw [h.N]; exact h.nd) k1 k2 (he r W tk) hs k3
theorem pn_setLc (h : CcX c C F X) {y : Str} {i : Nat} {elt tg iter : Expr} {ifs : List Expr} {scope : Scope} {p' pos spos : Pos} {el : E} {t : Tg} {k : Sk} {es cs : List E} (hi : slotTo c y = some i) (hl : X.env.scope.names.lookup y = some .local)
    (L : LcOk c C F X elt tg iter ifs scope el t k es cs) (hs : swapsWith (.ListComp elt [⟨tg, iter, ifs, 0⟩] scope pos) (some (.Name y p')) spos.line X.env = pure true) :
    PNw C F X (.Assign [.Name y p'] (.ListComp elt [⟨tg, iter, ifs, 0⟩] scope pos) spos) i (.comp el t k es cs (tgIx t)) := fun r W tk => by
  obtain ⟨k1, k2, k3⟩ := h.loc hi
  have q := ps_setLc (i := i) (y := y) (py := p') (pos := pos) (spos := spos) L.calm L.nd k1 hl hs (L.hi r W tk) L.ok L.hg L.ht L.he L.fs
  rw [L.ix] at q
  exact ps_mono (ps_unl q) fun D σ H hh => lc_read (X := X) (Q := fun v H1 => gName i v σ H1 D.nx) hh
theorem hs_asg {st : Stmt} {i : Nat} {x : E} {ow : Bool} (hv : PVw C F X st i x) (hn : ow = true → PNw C F X st i x) : HS C F X st (.asg i ow x) := fun H0 G0 io0 r W tk => by
  cases ow with
  | false =>
    refine ps_mono (hv r W tk) fun D σ H ⟨G, io, m, t, p⟩ => ?_
    rw [ex] at p
    refine ⟨G, io, m, t.w, t.sr, (p.on (R' := fun _ => rRep C) t).mono ?_⟩
    rintro v H1 ⟨G1, io1, m1, d, s1, t1, rd, e1, p1⟩
    exact p1 _ H1 G1 io1 (t1.setVal i rd)
  | true =>
    refine ps_mono (hn rfl r W tk) fun D σ H ⟨G, io, m, t, p⟩ => ?_
    rw [ex] at p
    refine ⟨G, io, m, t.w, t.sr, (p.on (R' := RepN C) t).mono ?_⟩
    rintro v H1 ⟨G1, io1, m1, d, s1, t1, rd, e1, p1⟩
    have p2 : PostS C W H0 G0 io0 (.nx (r.set i (ownIf d)) m1) D := p1
    unfold RepN at rd
    by_cases hd : isObj d = true
    · rw [if_pos hd] at rd
      obtain ⟨a, u, rfl, h0, ha, ob, hg, hno⟩ := rd
      have eo : ownIf d = .own d := if_pos hd
      rw [eo] at p2
      refine p2 _ H1 G1 io1 (t1.setOwn (Hb := H) i ha ob hg hno (t.s.alive a h0) fun j dj b ej e2 z => ?_)
      subst z
      obtain ⟨b', u', e3, hb, _⟩ := t.own j dj ej
      rw [e2] at e3
      cases e3
      rw [h0] at hb; cases hb
    · rw [if_neg hd] at rd
      have eo : ownIf d = .val d := if_neg hd
      rw [eo] at p2
      exact p2 _ H1 G1 io1 (t1.setVal i rd)
/-! ### a, b = value -/
theorem TRel.fold : ∀ {is : List Nat} {σ : L2.St} {r : Env} {ds : List D} {vs : List V}, TRel C H0 G0 io0 σ H G io r m → RepL C G io ds vs →
    TRel C H0 G0 io0 ((is.zip vs).foldl (fun σ p => σ.set p.1 (some p.2)) σ) H G io ((is.zip ds).foldl (fun r p => r.set p.1 (.val p.2)) r) m
  | [], σ, r, ds, vs, h, q => by simpa using h
  | i :: is, σ, r, [], vs, h, q => by
    obtain rfl : vs = [] := q
    simpa using h
  | i :: is, σ, r, d :: ds, vs, h, q => by
    obtain ⟨v, us, rfl, q1, q2⟩ := q
    simp only [List.zip_cons_cons, List.foldl_cons]
    exact TRel.fold (h.setVal i q1) q2
/-- a target's store, between statements -/
def tBindT (C : Wd) (H0 G0 : Hp) (io0 : List Addr) (t : Tg) : TG := fun v σ H Q => ∃ G io m r d r', TRel C H0 G0 io0 σ H G io r m ∧ Rep C G io d v ∧ bindTg t d r = some r' ∧ ∀ σ', TRel C H0 G0 io0 σ' H G io r' m → Q σ' H
theorem hgT_of (h : CcX c C F X) (hot : c.hot = false) {tg : Expr} {t : Tg} (ht : tgOf c tg = some t) (H0 G0 : Hp) (io0 : List Addr) : PG X tg (tBindT C H0 G0 io0 t) := by
  have hN : X.N.Nodup := by rw [h.N]; exact h.nd
  cases tg <;> simp only [tgOf, reduceCtorEq] at ht
  · rename_i x pos
    obtain ⟨i, e, rfl⟩ := Option.map_eq_some_iff.mp ht
    obtain ⟨k1, k2, k3⟩ := h.loc e
    refine pg_mono (pg_name hN k1 k2 k3) fun v σ H Q ⟨G, io, m, r, d, r', t, rd, eb, q⟩ => ?_
    simp only [bindTg, Option.some.injEq] at eb
    subst eb
    exact q _ (t.setVal i rd)
  · rename_i es k pos
    obtain ⟨is, e, rfl⟩ := Option.map_eq_some_iff.mp ht
    obtain ⟨h1, h2, h3⟩ := pgs_names h e
    refine pg_mono (pg_tup (n := is.length) (h.glb.calm hot) h1 h2 h3) fun v σ H Q ⟨G, io, m, r, d, r', t, rd, eb, q⟩ => ?_
    cases d <;> simp only [bindTg, reduceCtorEq] at eb
    rename_i xs
    split at eb
    · rename_i hl
      simp only [Option.some.injEq] at eb
      subst eb
      obtain ⟨a, vs, rfl, qa, za, la⟩ := rd
      exact ⟨a, vs, rfl, by rw [h.glb.K]; exact t.w.sqT qa, by rw [la.length]; exact hl, gNames_of (by rw [la.length]; exact hl) (q _ (t.fold la))⟩
    · cases eb
theorem bindTg_obj {is : List Nat} {d : D} {r r' : Env} (h : bindTg (.many is) d r = some r') : ∃ xs, d = .tup xs := by
  cases d <;> simp only [bindTg, reduceCtorEq] at h
  exact ⟨_, rfl⟩
theorem hs_unp (h : CcX c C F X) (hot : c.hot = false) {es : List Expr} {k : Nat} {pt pos : Pos} {is : List Nat} {e : Expr} {x : E} (hm : (es.mapM fun e => (nameOf e).bind (slotTo c)) = some is) (he : HO_ C F X e x)
    (hs : swapsWithSole [.Tuple es k pt] e pos.line X.env = pure false) (hw : swappedStores [.Tuple es k pt] e X.env = pure none) : HS C F X (.Assign [.Tuple es k pt] e pos) (.unp is x) := fun H0 G0 io0 r W tk => by
  have ht : tgOf c (.Tuple es k pt) = some (.many is) := by
    show ((es.mapM fun e => (nameOf e).bind (slotTo c)).map Tg.many) = _
    rw [hm] <;> rfl
  refine ps_mono (ps_asg (he r W tk) (hgT_of h hot ht H0 G0 io0) hs hw rfl) fun D σ H ⟨G, io, m, t, p⟩ => ?_
  rw [ex] at p
  refine ⟨G, io, m, t.w, t.sr, (p.on (R' := fun _ => rRepO C) t).mono ?_⟩
  rintro v H1 ⟨G1, io1, m1, d, s1, t1, rd, e1, p1⟩
  cases eb : bindTg (.many is) d r with
  | none => rw [eb] at p1; exact p1.elim
  | some r' =>
    rw [eb] at p1
    obtain ⟨xs, rfl⟩ := bindTg_obj eb
    exact ⟨G1, io1, m1, r, _, r', t1, repO_tup rd, eb, fun σ' t' => p1 σ' H1 G1 io1 t'⟩
theorem hs_par (h : CcX c C F X) (hot : c.hot = false) {x y : Str} {i j : Nat} {a b : Expr} {xa xb : E} {px py pt pt2 pos : Pos} {kt k2 : Nat} (hi : slotTo c x = some i) (hj : slotTo c y = some j) (hij : i ≠ j)
    (hx : c.sc.names.lookup x = some .local) (hy : c.sc.names.lookup y = some .local) (ha : HE C F X a xa) (hb : HE C F X b xb) (hs : ∀ es, starEach (a :: es) X.env = (false, eval a X.env) :: starEach es X.env) (hs2 : ∀ es, starEach (b :: es) X.env = (false, eval b X.env) :: starEach es X.env)
    (hw : swappedStores [.Tuple [.Name x px, .Name y py] kt pt] (.Tuple [a, b] k2 pt2) X.env = pure (some [x, y])) : HS C F X (.Assign [.Tuple [.Name x px, .Name y py] kt pt] (.Tuple [a, b] k2 pt2) pos) (.par i j xa xb) := fun H0 G0 io0 r W tk => by
  obtain ⟨k1, _, _⟩ := h.loc hi
  obtain ⟨l1, _, _⟩ := h.loc hj
  have pa := ha_cons ha (ha_cons hb ha_nil (hs2 [])) (hs [b])
  refine ps_mono (ps_par (h.glb.calm hot) (by rw [h.N]; exact h.nd) k1 l1 hij (by rw [h.sc]; exact hx) (by rw [h.sc]; exact hy) (pa r W tk) hw rfl) fun D σ H ⟨G, io, m, t, p⟩ => ?_
  have p' : PostS C W H0 G0 io0 ((evs F [xa, xb] r m).on r fun ds m => match ds with
    | [x, y] => .nx ((r.set i (.val x)).set j (.val y)) m
    | _ => .bad) D := by
    rw [ex] at p
    rw [evs]
    cases e1 : ev F xa r m with
    | bad => rw [e1] at p; exact p
    | exc k m1 => rw [e1] at p; exact p
    | ok d m1 =>
      rw [e1] at p
      have p : PostS C W H0 G0 io0 ((ev F xb r m1).on r fun y m => .nx ((r.set i (.val d)).set j (.val y)) m) D := p
      simp only [Res.bind, evs]
      cases e2 : ev F xb r m1 with
      | bad => rw [e2] at p; exact p
      | exc k m2 => rw [e2] at p; exact p
      | ok d2 m2 => rw [e2] at p; exact p
  refine ⟨G, io, m, t.w, t.sr, (p'.on (R' := fun _ => rRepL C) t).mono ?_⟩
  rintro vs H1 ⟨G1, io1, m1, ds, s1, t1, rds, e1, p1⟩
  have hl := evs_length e1
  rcases ds with _ | ⟨d1, _ | ⟨d2, _ | ⟨_, _⟩⟩⟩
  · simp at hl
  · simp at hl
  · obtain ⟨v1, r1, rfl, q1, v2, r2, rfl, q2, rfl⟩ := rds
    exact ⟨v1, v2, rfl, p1 _ H1 G1 io1 ((t1.setVal i q1).setVal j q2)⟩
  · simp at hl
/-! ### places -/
theorem chgB_ok (t : TRel C H0 G0 io0 σ H G io r m) {d : D} {v : V} {f : D → Option D} (rd : Rep C G io d v) (p : PostS C W H0 G0 io0 (chgB d r m f) De) :
    ∃ a u x x', v = .ref a ∧ H a = some u ∧ IsOb C G io u x ∧ f x = some x' ∧ look m d = x ∧ ∀ u', IsOb C G io u' x' → De.nx σ (upd H a u') := by
  cases d <;> first | exact p.elim | skip
  rename_i n
  obtain ⟨a, rfl, en⟩ := rd
  cases em : m[n]? with
  | none => simp only [chgB, em] at p; exact p.elim
  | some q =>
    obtain ⟨l, x⟩ := q
    cases l with
    | true => simp only [chgB, em] at p; exact p.elim
    | false =>
      simp only [chgB, em] at p
      cases ef : f x with
      | none => rw [ef] at p; exact p.elim
      | some x' =>
        rw [ef] at p
        obtain ⟨u, ob, _, _, hf, _⟩ := t.w.box n a false x en em
        exact ⟨a, u, x, x', rfl, hf rfl, ob, ef, by simp only [look, em], fun u' ob' => p σ _ G io (t.writeBox en em ob')⟩
/-- a place as it was read: v -/
theorem chg_ok (t : TRel C H0 G0 io0 σ H G io r m) {o : E} {d : D} {v : V} {f : D → Option D} (hv : Rpl C σ r o H G io d v) (p : PostS C W H0 G0 io0 (chg F (plc o d) r m f) De) :
    ∃ a u x x', v = .ref a ∧ H a = some u ∧ IsOb C G io u x ∧ f x = some x' ∧ look m d = x ∧ ∀ u', IsOb C G io u' x' → De.nx σ (upd H a u') := by
  cases o <;> first | exact chgB_ok t hv p | skip
  rename_i i
  rcases hv with ⟨e, rd⟩ | ⟨e, ei⟩
  · simp only [plc, chg, e] at p
    exact chgB_ok t rd p
  · simp only [plc, chg, e] at p
    cases ef : f d with
    | none => rw [ef] at p; exact p.elim
    | some x' =>
      rw [ef] at p
      obtain ⟨a, u, e1, ha, ob, hg, hn, h0⟩ := t.own i d e
      rw [ei] at e1
      cases e1
      have hl : look m d = d := by cases u <;> cases d <;> first | rfl | exact ob.elim
      exact ⟨a, u, d, x', rfl, ha, ob, ef, hl, fun u' ob' => p σ _ G io (t.write e ei ha ob')⟩
end
end Wh
/-! Statements: changes of lists, dicts, fields. -/
namespace Wh
open PySem L2 PySem.Spec PyProof.Rows
section
variable {C : Wd} {F : Fn} {X : Cx} {c : Cc} {H0 G0 H G H1 G1 : Hp} {io0 io io1 : List Addr} {σ : L2.St} {r : Env} {m m1 : Mu} {W : WX} {De : Ends}
theorem Rpl.step {x : E} {d : D} {v : V} (s : Step H G io H1 G1 io1) (h : Rpl C σ r x H G io d v) : Rpl C σ r x H1 G1 io1 d v := by
  cases x <;> first | exact Rep.step s h | skip
  rcases h with ⟨e, q⟩ | q
  · exact .inl ⟨e, q.step s⟩
  · exact .inr q
/-- what stands at a place that is read -/
theorem rpl_ob (t : TRel C H0 G0 io0 σ H G io r m) {x : E} {d : D} {v : V} (h : Rpl C σ r x H G io d v) (ho : isObj (look m d) = true) : ∃ a u, v = .ref a ∧ Rd H a u ∧ IsOb C G io u (look m d) := by
  have rep : Rep C G io d v → ∃ a u, v = .ref a ∧ Rd H a u ∧ IsOb C G io u (look m d) := fun q => by
    obtain ⟨a, u, e, hr, ob, _⟩ := obj_lock t.w (.inl q : RepO C H G io d v) ho
    exact ⟨a, u, e, hr, ob⟩
  cases x <;> first | exact rep h | skip
  rcases h with ⟨e, q⟩ | ⟨e, ei⟩
  · exact rep q
  · obtain ⟨a, u, e1, ha, ob, _⟩ := t.own _ d e
    rw [ei] at e1
    cases e1
    have hl : look m d = d := by cases u <;> cases d <;> first | rfl | exact ob.elim
    rw [hl]
    exact ⟨a, u, rfl, .inl ha, ob⟩
theorem few_one {a : Expr} {cpos : Pos} {env : PySem.Env} (hs : ∀ es, starEach (a :: es) env = (false, eval a env) :: starEach es env) :
    ((backTo cpos (starEach [a] env)).all (fun x => !x.1) && (backToKw cpos (keywordEach [] env)).all (fun x => x.1.isSome)
      && decide (([a] : List Expr).length + ([] : List Keyword).length + (if ([] : List Keyword).isEmpty then 0 else 1) < 30)) = true := by
  rw [hs []]
  rfl
theorem isL_some {d : D} (h : isL d = true) : ∃ xs, d = .lst xs := by
  cases d <;> first | exact ⟨_, rfl⟩ | cases h
theorem hs_app {o a : Expr} {x y : E} {apos cpos pos : Pos} (hK : X.K = C.K) (ho : HPl C F X o x) (ha : HE C F X a y) (hb : attributeBase o (S "append") X.env (eval o X.env) = eval o X.env) (hl : (apos.endLine == cpos.line) = true)
    (hs : ∀ es, starEach (a :: es) X.env = (false, eval a X.env) :: starEach es X.env) : HS C F X (.Expr (.Call (.Attribute o (S "append") apos) [a] [] cpos) pos) (.app x y) := fun H0 G0 io0 r W tk => by
  have q := pe_bm (T := "list") (apos := apos) (cpos := cpos) PySem.F.plainAttrs_list PySem.F.slot_list_append PySem.F.type_list_append (r := rAppend) mt_append (ho r W tk) (pa_cons (ha r W tk) pa_nil (hs [])) hb (few_one hs) hl (hs []) rfl
  refine ps_mono (ps_expr q rfl) fun D σ H ⟨G, io, m, t, p⟩ => ?_
  rw [ex] at p
  refine ⟨G, io, m, t.w, t.sr, (p.on (R' := fun _ => Rpl C σ r x) t).mono ?_⟩
  rintro v1 H1 ⟨G1, io1, m1, d, s1, t1, rd, e1, p1⟩
  by_cases hL : isL (look m1 d) = true
  · rw [if_pos hL] at p1
    obtain ⟨xs, el⟩ := isL_some hL
    obtain ⟨a1, u, rfl, hr, ob⟩ := rpl_ob t1 rd (by rw [el]; rfl)
    rw [el] at ob
    cases u <;> first | exact ob.elim | skip
    rename_i vs
    refine ⟨.inl ⟨rfl, vs, .inl hr⟩, G1, io1, m1, t1.w, t1.sr, (p1.on (R' := fun _ => rRep C) t1).mono ?_⟩
    rintro v2 H2 ⟨G2, io2, m2, d2, s2, t2, rd2, e2, p2⟩
    obtain ⟨a2, u2, z, z', e3, ha2, ob2, ef, _, fin⟩ := chg_ok t2 (rd.step s2) p2
    cases e3
    cases z <;> simp only [appD, reduceCtorEq] at ef
    rename_i zs
    split at ef
    · rename_i hz
      cases ef
      cases u2 <;> first | exact ob2.elim | skip
      rename_i us
      obtain ⟨l1, l2⟩ := ob2
      have ll := l2.length
      refine ⟨a1, us, v2, rfl, rfl, ha2, by rw [sizeLine_eq]; omega, fin (.lst (us ++ [v2])) ⟨by rw [List.length_append, sizeLine_eq]; simp; omega, l2.append ⟨v2, [], rfl, rd2, rfl⟩⟩⟩
    · cases ef
  · rw [if_neg hL] at p1; exact p1.elim
/-- xs.extend(ys) -/
def rExtR : V → List V → Hp → VK → Prop := fun x vs H Q => ∃ l b xs zs, x = .ref l ∧ vs = [.ref b] ∧ H l = some (.lst xs) ∧ Rd H b (.lst zs) ∧ xs.length + zs.length ≤ sizeLine ∧ Q .non (upd H l (.lst (xs ++ zs)))
theorem mt_extR : MtM X "list.extend" rExtR := by
  intro pins s σ H x vs v us Q I rx rv h
  obtain ⟨l, b, xs, zs, rfl, rfl, hH, hB, hz, q⟩ := h
  cases rx
  obtain ⟨u, rfl, ru⟩ := rv.one
  cases ru
  obtain ⟨z, its, n, r, hl, e⟩ := I.lstM hH
  obtain ⟨z2, its2, n2, r2, hl2, e2⟩ := rd_lst I hB
  have hsz : its.toArray.size + its2.toArray.size ≤ sizeLine := by rw [List.size_toArray, List.size_toArray]; omega
  have hlong : ¬ (!its.toArray.isEmpty && Builtin.List.listTooLong (its.toArray.size + its2.toArray.size)) = true := by
    rw [notLongL hsz, Bool.and_false]
    exact Bool.false_ne_true
  refine call_meets F.slot_list_extend ⟨_, e, rfl⟩ F.entry_list_extend (F.args_list_extend_2 _ _)
    (AutoSeq1.list_extend_list_list_0 l its.toArray n b its2.toArray n2 hlong (by rw [List.size_toArray]; omega) (by omega)) ⟨e, e2, ?_⟩
  refine ⟨.non, _, I.lset (its' := its ++ its2) hH e (by simp) (r.append r2) ?_, rfl, q⟩
  rw [List.length_append]
  omega
theorem hs_ext {o a : Expr} {x y : E} {apos cpos pos : Pos} (hK : X.K = C.K) (ho : HPl C F X o x) (ha : HO_ C F X a y) (hb : attributeBase o (S "extend") X.env (eval o X.env) = eval o X.env) (hl : (apos.endLine == cpos.line) = true)
    (hs : ∀ es, starEach (a :: es) X.env = (false, eval a X.env) :: starEach es X.env) : HS C F X (.Expr (.Call (.Attribute o (S "extend") apos) [a] [] cpos) pos) (.ext x y) := fun H0 G0 io0 r W tk => by
  have q := pe_bm (T := "list") (apos := apos) (cpos := cpos) PySem.F.plainAttrs_list PySem.F.slot_list_extend PySem.F.type_list_extend (r := rExtR) mt_extR (ho r W tk) (pa_cons (ha r W tk) pa_nil (hs [])) hb (few_one hs) hl (hs []) rfl
  refine ps_mono (ps_expr q rfl) fun D σ H ⟨G, io, m, t, p⟩ => ?_
  rw [ex] at p
  refine ⟨G, io, m, t.w, t.sr, (p.on (R' := fun _ => Rpl C σ r x) t).mono ?_⟩
  rintro v1 H1 ⟨G1, io1, m1, d, s1, t1, rd, e1, p1⟩
  by_cases hL : isL (look m1 d) = true
  · rw [if_pos hL] at p1
    obtain ⟨xs, el⟩ := isL_some hL
    obtain ⟨a1, u, rfl, hr, ob⟩ := rpl_ob t1 rd (by rw [el]; rfl)
    rw [el] at ob
    cases u <;> first | exact ob.elim | skip
    rename_i vs
    refine ⟨.inl ⟨rfl, vs, .inl hr⟩, G1, io1, m1, t1.w, t1.sr, (p1.on (R' := fun _ => rRepO C) t1).mono ?_⟩
    rintro v2 H2 ⟨G2, io2, m2, d2, s2, t2, rd2, e2, p2⟩
    obtain ⟨a2, u2, z, z', e3, ha2, ob2, ef, _, fin⟩ := chg_ok t2 (rd.step s2) p2
    cases e3
    have rb := rd2.look t2.w
    cases z <;> simp only [extD, reduceCtorEq] at ef
    rename_i zs
    cases ey : look m2 d2 <;> rw [ey] at ef rb <;> simp only [reduceCtorEq] at ef
    rename_i ws
    obtain ⟨b, us3, rfl, hb3, _, l3⟩ := rb
    split at ef
    · rename_i hz
      cases ef
      cases u2 <;> first | exact ob2.elim | skip
      rename_i us
      obtain ⟨l1, l2⟩ := ob2
      have ll := l2.length
      have lm := l3.length
      have hz' : us.length + us3.length ≤ sizeLine := by rw [sizeLine_eq]; omega
      exact ⟨a1, b, us, us3, rfl, rfl, ha2, hb3, hz', fin (.lst (us ++ us3)) ⟨by rw [List.length_append]; exact hz', l2.append l3⟩⟩
    · cases ef
  · rw [if_neg hL] at p1; exact p1.elim
/-! ### o[k] = v -/
def rSetLD : TSet := fun o i v H Q => rSetL o i v H Q ∨ rSetD o i v H Q
theorem set_LD (hu : X.A.units + 65 < cLine) : PSet X rSetLD := by
  intro pins s σ H o i v ov iv u Q I ro ri rv h
  rcases h with h | h
  · exact set_list pins s σ H o i v ov iv u Q I ro ri rv h
  · exact set_dict (by omega) pins s σ H o i v ov iv u Q I ro ri rv h
theorem hs_seti (hu : X.A.units + 65 < cLine) {o k e : Expr} {x y z : E} {p2 pos : Pos} (ho : HPl C F X o x) (hk : HE C F X k y) (he : HE C F X e z) (hs : swapsWithSole [.Subscript o k p2] e pos.line X.env = pure false) (hw : swappedStores [.Subscript o k p2] e X.env = pure none)
    (hq : ∀ v, assign (.Subscript o k p2) X.env v = (do
      let ov ← holding [v] (eval o X.env)
      let iv ← holding [v, ov] (eval k X.env)
      standAt p2
      holding [v, ov, iv] (setItem ov iv v)
      release [v, ov, iv] [])) :
    HS C F X (.Assign [.Subscript o k p2] e pos) (.seti x y z) := fun H0 G0 io0 r W tk => by
  refine ps_mono (ps_asg (he r W tk) (pg_sub (ho r W tk) (hk r W tk) (set_LD hu) hq) hs hw rfl) fun D σ H ⟨G, io, m, t, p⟩ => ?_
  rw [ex] at p
  refine ⟨G, io, m, t.w, t.sr, (p.on (R' := fun _ => rRep C) t).mono ?_⟩
  rintro v1 H1 ⟨G1, io1, m1, d, s1, t1, rd, e1, p1⟩
  refine ⟨G1, io1, m1, t1.w, t1.sr, (p1.on (R' := fun _ => Rpl C σ r x) t1).mono ?_⟩
  rintro v2 H2 ⟨G2, io2, m2, d2, s2, t2, rd2, e2, p2⟩
  refine ⟨G2, io2, m2, t2.w, t2.sr, (p2.on (R' := fun _ => rRep C) t2).mono ?_⟩
  rintro v3 H3 ⟨G3, io3, m3, d3, s3, t3, rd3, e3, p3⟩
  obtain ⟨a2, u2, w1, w2, rfl, ha2, ob2, ef, _, fin⟩ := chg_ok t3 (rd2.step s3) p3
  have rdv := (rd.step s2).step s3
  cases w1 <;> simp only [setiD, reduceCtorEq] at ef
  · rename_i zs
    cases d3 <;> simp only [reduceCtorEq] at ef
    rename_i i
    obtain ⟨j, ej, rfl⟩ := Option.map_eq_some_iff.mp ef
    obtain rfl := rd3
    cases u2 <;> first | exact ob2.elim | skip
    rename_i us
    obtain ⟨l1, l2⟩ := ob2
    exact .inl ⟨a2, us, i, j, rfl, rfl, ha2, by rw [l2.length]; exact ej, fin (.lst (us.set j v1)) ⟨by rw [List.length_set]; exact l1, l2.set j rdv⟩⟩
  · rename_i ks
    obtain ⟨k', ek, ef⟩ := Option.bind_eq_some_iff.mp ef
    split at ef
    · rename_i hz
      cases ef
      obtain rfl := keyOf_ok ek (rd3.toB t3.w)
      cases u2 <;> first | exact ob2.elim | skip
      rename_i kvs
      obtain ⟨l1, l2⟩ := ob2
      have ll := l2.length
      have hp : (putK kvs k' v1).length ≤ kvs.length + 1 := by
        unfold putK
        split
        · rw [List.length_map]; omega
        · rw [List.length_append]; simp
      exact .inr ⟨a2, _, rfl, .inl ⟨kvs, k', ha2, rfl, by rw [sizeLine_eq]; omega, rfl⟩, fin (.dK (putK kvs k' v1)) ⟨by rw [sizeLine_eq]; omega, RepK.put k' rdv l2⟩⟩
    · cases ef
/-! ### o.f = v -/
theorem hs_setf (h : CcX c C F X) {o e : Expr} {f : String} {x z : E} {p2 pos : Pos} (hf : f ∈ c.T.flds) (ho : HPl C F X o x) (he : HE C F X e z) (hs : swapsWith e (some (.Attribute o (S f) p2)) pos.line X.env = pure false) :
    HS C F X (.Assign [.Attribute o (S f) p2] e pos) (.setf x f z) := fun H0 G0 io0 r W tk => by
  refine ps_mono (ps_fld (ho r W tk) (he r W tk) hs) fun D σ H ⟨G, io, m, t, p⟩ => ?_
  rw [ex] at p
  refine ⟨G, io, m, t.w, t.sr, (p.on (R' := fun _ => rRep C) t).mono ?_⟩
  rintro v1 H1 ⟨G1, io1, m1, d, s1, t1, rd, e1, p1⟩
  refine ⟨G1, io1, m1, t1.w, t1.sr, (p1.on (R' := fun _ => Rpl C σ r x) t1).mono ?_⟩
  rintro v2 H2 ⟨G2, io2, m2, d2, s2, t2, rd2, e2, p2⟩
  obtain ⟨a2, u2, w1, w2, rfl, ha2, ob2, ef, _, fin⟩ := chg_ok t2 rd2 p2
  have rdv := rd.step s2
  cases w1 <;> simp only [setfD, reduceCtorEq] at ef
  split at ef
  · rename_i hz
    cases ef
    cases u2 <;> first | exact ob2.elim | skip
    rename_i A dx fvs
    obtain ⟨l1, l2⟩ := ob2
    obtain ⟨c1, c2⟩ := h.glb.cls _ A l1
    have ll := RepF.length l2
    exact ⟨a2, A, dx, fvs, rfl, ha2, c1, c2 f hf, by omega, fin (.ins A dx (putF (S f) v1 fvs)) ⟨l1, RepF.put f rdv l2⟩⟩
  · cases ef
end
end Wh
/-! Loops. -/
namespace Wh
open PySem L2 PySem.Spec PyProof.Rows
section
variable {C : Wd} {F : Fn} {X : Cx} {c : Cc} {H0 G0 H G H1 G1 : Hp} {io0 io io1 : List Addr} {σ : L2.St} {r : Env} {m m1 : Mu} {W : WX} {De : Ends}
/-! ### another base -/
theorem Step.rebase (s : Step H0 G0 io0 H1 G1 io1) (t : Step H0 G0 io0 H G io) (hg : ∀ a u, G1 a = some u → G a = some u) (hp : io1 <+: io) : Step H0 G1 io1 H G io where
  ext := fun a o e hc => t.ext a o e fun z => hc (s.pre.subset z)
  alive := t.alive
  g := hg
  gnew := fun a u e => (t.gnew a u e).elim (fun z => .inl (s.g a u z)) .inr
  pre := hp
  new := fun a e => (t.new a e).elim (fun z => .inl (s.pre.subset z)) .inr
theorem Step.unbase (s : Step H0 G0 io0 H1 G1 io1) (t : Step H0 G1 io1 H G io) : Step H0 G0 io0 H G io where
  ext := fun a o e hc => t.ext a o e fun z => by
    rcases s.new a z with q | q
    · exact hc q
    · rw [q] at e; cases e
  alive := t.alive
  g := fun a u e => t.g a u (s.g a u e)
  gnew := fun a u e => (t.gnew a u e).elim (fun z => s.gnew a u z) .inr
  pre := s.pre.trans t.pre
  new := fun a e => (t.new a e).elim (fun z => s.new a z) .inr
theorem TRel.rebase (t : TRel C H0 G0 io0 σ H G io r m) : TRel C H0 G io σ H G io r m := ⟨t.w, Step.rebase t.s t.s (fun _ _ e => e) List.prefix_rfl, t.sr, t.own, t.dist⟩
theorem TRel.unbase (s : Step H0 G0 io0 H1 G1 io1) (t : TRel C H0 G1 io1 σ H G io r m) : TRel C H0 G0 io0 σ H G io r m := ⟨t.w, s.unbase t.s, t.sr, t.own, t.dist⟩
theorem PostS.rebase {rs : Rs} (s : Step H0 G0 io0 H1 G1 io1) (p : PostS C W H0 G0 io0 rs De) : PostS C W H0 G1 io1 rs De := by
  cases rs with
  | bad => exact p
  | nx r m => exact fun σ H G io t => p σ H G io (t.unbase s)
  | rt d r m => exact fun v H G io st w q => p v H G io (s.unbase st) w q
  | exc k r m => exact fun σ H G io A t e => p σ H G io A (t.unbase s) e
/-! ### what a for walks: frozen -/
structure SrcG (C : Wd) (J : It) (items : List D) (G1 : Hp) (io1 : List Addr) : Prop where
  walk : ∃ (Gd : Hp → Prop) (Y : Nat → Hp → V → Hp → Prop), Walk J items.length Gd Y ∧ (∀ H G io m, (∀ a u, G1 a = some u → G a = some u) → WRel C H G io m → Gd H) ∧
    ∀ i H x H' G io m d, (∀ a u, G1 a = some u → G a = some u) → io1 <+: io → WRel C H G io m → Y i H x H' → items[i]? = some d → ∃ G', Step H G io H' G' io ∧ WRel C H' G' io m ∧ Rep C G' io d x
theorem srcG_list {a : Addr} {vs : List V} {xs : List D} (hr : G a = some (.lst vs)) (l : RepL C G io xs vs) : SrcG C (Itl C.K a) xs G io := by
  refine ⟨fun H => SqL C.K H a vs, YAt vs, by rw [← l.length]; exact walk_list, fun H' G' io' m' s w => .inl (w.sub.rd (s _ _ hr)), fun i H' x H'' G' io' m' d s hp w y e => ?_⟩
  obtain ⟨rfl, ex⟩ := y
  obtain ⟨d', e1, e2⟩ := l.get' ex
  rw [e] at e1
  cases e1
  exact ⟨G', Step.refl _ _ _, w, Rep.mono s hp _ _ e2⟩
theorem srcG_tup {a : Addr} {vs : List V} {xs : List D} (q : SqT C.K G a vs) (l : RepL C G io xs vs) : SrcG C (Itt C.K a) xs G io := by
  refine ⟨fun H => SqT C.K H a vs, YAt vs, by rw [← l.length]; exact walk_tup, fun H' G' io' m' s w => w.sqT (SqT.mono s q), fun i H' x H'' G' io' m' d s hp w y e => ?_⟩
  obtain ⟨rfl, ex⟩ := y
  obtain ⟨d', e1, e2⟩ := l.get' ex
  rw [e] at e1
  cases e1
  exact ⟨G', Step.refl _ _ _, w, Rep.mono s hp _ _ e2⟩
theorem srcG_str {z : Str} : SrcG C (Its z) (strD z) G io := by
  have hl : (strD z).length = z.cps.size := by unfold strD; rw [List.length_map, Array.length_toList]
  refine ⟨fun _ => True, _, by rw [hl]; exact walk_str, fun _ _ _ _ _ _ => trivial, fun i H' x H'' G' io' m' d s hp w y e => ?_⟩
  obtain ⟨rfl, k, ek, rfl⟩ := y
  unfold strD at e
  rw [List.getElem?_map, Array.getElem?_toList, ek] at e
  cases e
  exact ⟨G', Step.refl _ _ _, w, rfl⟩
theorem srcG_rng {lo : Int} {n : Nat} : SrcG C (Itr lo n) (rngL lo 1 n) G io := by
  refine ⟨fun _ => True, _, by rw [rngL_len]; exact walk_range, fun _ _ _ _ _ _ => trivial, fun i H' x H'' G' io' m' d s hp w y e => ?_⟩
  obtain ⟨rfl, rfl⟩ := y
  rw [rngL_get e, Int.mul_one]
  exact ⟨G', Step.refl _ _ _, w, rfl⟩
theorem srcG_enum {a : Addr} {vs : List V} {xs : List D} (hr : G a = some (.lst vs)) (l : RepL C G io xs vs) : SrcG C (Ite C.K a) (xs.mapIdx fun i x => .tup [.int i, x]) G io := by
  have hl : (xs.mapIdx fun i x => D.tup [.int i, x]).length = vs.length := by rw [List.length_mapIdx, l.length]
  refine ⟨fun H => SqL C.K H a vs, _, by rw [hl]; exact walk_enum, fun H' G' io' m' s w => .inl (w.sub.rd (s _ _ hr)), fun i H' x H'' G' io' m' d s hp w y e => ?_⟩
  obtain ⟨T, x', y', rfl, hT, rfl, e1, e2⟩ := y
  cases e1
  obtain ⟨d', e3, e4⟩ := l.get' e2
  rw [List.getElem?_mapIdx, e3] at e
  cases e
  exact pair_step w hT rfl (Rep.mono s hp _ _ e4)
theorem srcG_enT {a : Addr} {vs : List V} {xs : List D} (q : SqT C.K G a vs) (l : RepL C G io xs vs) : SrcG C (IteT C.K a vs) (xs.mapIdx fun i x => .tup [.int i, x]) G io := by
  have hl : (xs.mapIdx fun i x => D.tup [.int i, x]).length = vs.length := by rw [List.length_mapIdx, l.length]
  refine ⟨fun H => SqT C.K H a vs, _, by rw [hl]; exact walk_enT, fun H' G' io' m' s w => w.sqT (SqT.mono s q), fun i H' x H'' G' io' m' d s hp w y e => ?_⟩
  obtain ⟨T, x', y', rfl, hT, rfl, e1, e2⟩ := y
  cases e1
  obtain ⟨d', e3, e4⟩ := l.get' e2
  rw [List.getElem?_mapIdx, e3] at e
  cases e
  exact pair_step w hT rfl (Rep.mono s hp _ _ e4)
theorem srcG_zip {a b : Addr} {vs us : List V} {xs ys : List D} (hr : G a = some (.lst vs)) (hr2 : G b = some (.lst us)) (l : RepL C G io xs vs) (l2 : RepL C G io ys us) : SrcG C (Itz C.K a b) ((xs.zip ys).map fun p => .tup [p.1, p.2]) G io := by
  have e1 := l.length
  have e2 := l2.length
  have hl : ((xs.zip ys).map fun p => D.tup [p.1, p.2]).length = min vs.length us.length := by rw [List.length_map, List.length_zip, e1, e2]
  refine ⟨fun H => SqL C.K H a vs ∧ SqL C.K H b us, _, by rw [hl]; exact walk_zip rfl, fun H' G' io' m' s w => ⟨.inl (w.sub.rd (s _ _ hr)), .inl (w.sub.rd (s _ _ hr2))⟩, fun i H' x H'' G' io' m' d s hp w y e => ?_⟩
  obtain ⟨T, x', y', rfl, hT, rfl, f1, f2⟩ := y
  obtain ⟨d1, f3, f4⟩ := l.get' f1
  obtain ⟨d2, f5, f6⟩ := l2.get' f2
  rw [zip_get f3 f5 e]
  exact pair_step w hT (Rep.mono s hp _ _ f4) (Rep.mono s hp _ _ f6)
theorem srcG_zipT {a b : Addr} {vs us : List V} {xs ys : List D} (q : SqT C.K G a vs) (q2 : SqT C.K G b us) (l : RepL C G io xs vs) (l2 : RepL C G io ys us) : SrcG C (RZ.ItzT C.K a b) ((xs.zip ys).map fun p => .tup [p.1, p.2]) G io := by
  have e1 := l.length
  have e2 := l2.length
  have hl : ((xs.zip ys).map fun p => D.tup [p.1, p.2]).length = min vs.length us.length := by rw [List.length_map, List.length_zip, e1, e2]
  refine ⟨fun H => SqT C.K H a vs ∧ SqT C.K H b us, _, by rw [hl]; exact walk_zipT, fun H' G' io' m' s w => ⟨w.sqT (SqT.mono s q), w.sqT (SqT.mono s q2)⟩, fun i H' x H'' G' io' m' d s hp w y e => ?_⟩
  obtain ⟨T, x', y', rfl, hT, rfl, f1, f2⟩ := y
  obtain ⟨d1, f3, f4⟩ := l.get' f1
  obtain ⟨d2, f5, f6⟩ := l2.get' f2
  rw [zip_get f3 f5 e]
  exact pair_step w hT (Rep.mono s hp _ _ f4) (Rep.mono s hp _ _ f6)
def tSrcF (C : Wd) (F : Fn) (W : WX) (r : Env) (k : Sk) (es : List E) : TI := fun σ H R => ∃ G io m, WRel C H G io m ∧ SRel C σ H G io r ∧
  Post C W σ H G io (rRepL C) (evs F es r m) (fun vs H1 => ∃ G1 io1 m1 ds items, evs F es r m = .ok ds m1 ∧ WRel C H1 G1 io1 m1 ∧ RepL C G1 io1 ds vs ∧ srcF k ds m1 = some items ∧ ∀ J, SrcG C J items G1 io1 → R J H1)
def HIF (C : Wd) (F : Fn) (X : Cx) (tg iter : Expr) (k : Sk) (es : List E) : Prop := ∀ (r : Env) (W : WX), Takes X W → PI X tg iter (tSrcF C F W r k es)
theorem srcF_M {k : Sk} {ds items : List D} {m : Mu} (h : srcF k ds m = some items) : srcM k ds m = some items ∧ (∀ kvs, ds ≠ [.dic kvs]) ∧ ∀ n, ds ≠ [.box n] := by
  unfold srcF at h
  split at h
  · cases h
  · cases h
  · rename_i h1 h2
    exact ⟨h, fun kvs z => h1 kvs z, fun n z => h2 n z⟩
theorem hf_rng1 (h : CcX c C F X) {tg a : Expr} {p pos : Pos} {xs : List E} (hg : isGl c (S "range") = true) (hl : xs.length = 1) (ha : HA C F X [a] xs) (hs : ∀ es', starEach (a :: es') X.env = (false, eval a X.env) :: starEach es' X.env) : HIF C F X tg (.Call (.Name (S "range") p) [a] [] pos) .rng xs := fun r W tk => by
  obtain ⟨g1, g2, g3⟩ := h.gl hg
  refine pi_mono (pi_range1 g1 (h.glb.blt "range" (by decide)) (ha r W tk) (hs [])) fun σ H R ⟨G, io, m, w, sr, p⟩ => ⟨G, io, m, w, sr, p.mono ?_⟩
  rintro vs H1 ⟨G1, io1, m1, ds, items, e, w1, rds, es, q⟩
  have hd := evs_length e
  rw [hl] at hd
  obtain ⟨e1, hz⟩ := srcC_rng (show srcC .rng ds = some items from (srcF_M es).1)
  rcases ds with _ | ⟨d, _ | ⟨_, _⟩⟩
  · simp at hd
  · cases d <;> simp only [srcD, reduceCtorEq] at e1
    rename_i n
    split at e1
    · rename_i hn
      cases e1
      obtain ⟨v, _, rfl, rfl, rfl⟩ := rds
      exact ⟨n, rfl, (lim62_ok hn).1, (lim62_ok hn).2, q _ srcG_rng⟩
    · cases e1
  · simp at hd
theorem hf_rng2 (h : CcX c C F X) {tg a b : Expr} {p pos : Pos} {xs : List E} (hg : isGl c (S "range") = true) (hl : xs.length = 2) (ha : HA C F X [a, b] xs) (hs : ∀ es', starEach (a :: es') X.env = (false, eval a X.env) :: starEach es' X.env) (hs2 : ∀ es', starEach (b :: es') X.env = (false, eval b X.env) :: starEach es' X.env) :
    HIF C F X tg (.Call (.Name (S "range") p) [a, b] [] pos) .rng xs := fun r W tk => by
  obtain ⟨g1, g2, g3⟩ := h.gl hg
  refine pi_mono (pi_range2 g1 (h.glb.blt "range" (by decide)) (ha r W tk) (by rw [hs, hs2] <;> rfl) (hs2 [])) fun σ H R ⟨G, io, m, w, sr, p⟩ => ⟨G, io, m, w, sr, p.mono ?_⟩
  rintro vs H1 ⟨G1, io1, m1, ds, items, e, w1, rds, es, q⟩
  have hd := evs_length e
  rw [hl] at hd
  obtain ⟨e1, hz⟩ := srcC_rng (show srcC .rng ds = some items from (srcF_M es).1)
  rcases ds with _ | ⟨d, _ | ⟨d2, _ | ⟨_, _⟩⟩⟩
  · simp at hd
  · simp at hd
  · cases d <;> cases d2 <;> simp only [srcD, reduceCtorEq] at e1
    rename_i n k
    split at e1
    · rename_i hn
      cases e1
      rw [Bool.and_eq_true] at hn
      obtain ⟨v, _, rfl, rfl, u, _, rfl, rfl, rfl⟩ := rds
      exact ⟨n, k, rfl, ⟨(lim62_ok hn.1).1, (lim62_ok hn.1).2, (lim62_ok hn.2).1, (lim62_ok hn.2).2⟩, q _ srcG_rng⟩
    · cases e1
  · simp at hd
theorem hf_enum (h : CcX c C F X) {a : Expr} {p pos tpos : Pos} {elts : List Expr} {kk : Nat} {xs : List E} (hg : isGl c (S "enumerate") = true) (hl : xs.length = 1) (ha : HA C F X [a] xs) (hs : ∀ es', starEach (a :: es') X.env = (false, eval a X.env) :: starEach es' X.env) :
    HIF C F X (.Tuple elts kk tpos) (.Call (.Name (S "enumerate") p) [a] [] pos) .enum xs := fun r W tk => by
  obtain ⟨g1, g2, g3⟩ := h.gl hg
  refine pi_mono (pi_enA g1 (h.glb.blt "enumerate" (by decide)) (ha r W tk) (hs [])) fun σ H R ⟨G, io, m, w, sr, p⟩ => ⟨G, io, m, w, sr, p.mono ?_⟩
  rintro vs H1 ⟨G1, io1, m1, ds, items, e, w1, rds, es, q⟩
  have hd := evs_length e
  rw [hl] at hd
  have e1 := srcC_ne (by decide) (show srcC .enum ds = some items from (srcF_M es).1)
  rcases ds with _ | ⟨d, _ | ⟨_, _⟩⟩
  · simp at hd
  · cases d <;> simp only [srcD, reduceCtorEq] at e1
    · cases e1
      obtain ⟨v, _, rfl, rv, rfl⟩ := rds
      obtain ⟨b, us, rfl, qa, hz, l⟩ := rv
      rw [h.glb.K]
      exact ⟨b, us, rfl, .inr ⟨w1.sqT qa, q _ (srcG_enT qa l)⟩⟩
    · cases e1
      obtain ⟨v, _, rfl, rv, rfl⟩ := rds
      obtain ⟨b, us, rfl, hr, hz, l⟩ := rv
      rw [h.glb.K]
      exact ⟨b, us, rfl, .inl ⟨.inl (w1.sub.rd hr), q _ (srcG_enum hr l)⟩⟩
  · simp at hd
theorem hf_zip (h : CcX c C F X) {a b : Expr} {p pos tpos : Pos} {elts : List Expr} {kk : Nat} {xs : List E} (hg : isGl c (S "zip") = true) (hl : xs.length = 2) (ha : HA C F X [a, b] xs) (hs : ∀ es', starEach (a :: es') X.env = (false, eval a X.env) :: starEach es' X.env) (hs2 : ∀ es', starEach (b :: es') X.env = (false, eval b X.env) :: starEach es' X.env) :
    HIF C F X (.Tuple elts kk tpos) (.Call (.Name (S "zip") p) [a, b] [] pos) .zip xs := fun r W tk => by
  obtain ⟨g1, g2, g3⟩ := h.gl hg
  refine pi_mono (RZ.pi_zipA g1 (h.glb.blt "zip" (by decide)) (ha r W tk) (hs _) (by rw [hs2] <;> rfl)) fun σ H R ⟨G, io, m, w, sr, p⟩ => ⟨G, io, m, w, sr, p.mono ?_⟩
  rintro vs H1 ⟨G1, io1, m1, ds, items, e, w1, rds, es, q⟩
  have hd := evs_length e
  rw [hl] at hd
  have e1 := srcC_ne (by decide) (show srcC .zip ds = some items from (srcF_M es).1)
  rcases ds with _ | ⟨d, _ | ⟨d2, _ | ⟨_, _⟩⟩⟩
  · simp at hd
  · simp at hd
  · obtain ⟨v, _, rfl, rv, u, _, rfl, ru, rfl⟩ := rds
    rw [h.glb.K]
    cases d <;> cases d2 <;> simp only [srcD, reduceCtorEq] at e1
    · cases e1
      obtain ⟨a1, us, rfl, qa, za, la⟩ := rv
      obtain ⟨a2, us2, rfl, qa2, za2, la2⟩ := ru
      exact ⟨a1, a2, us, us2, rfl, .inr ⟨w1.sqT qa, w1.sqT qa2, q _ (srcG_zipT qa qa2 la la2)⟩⟩
    · cases e1
      obtain ⟨a1, us, rfl, hr, hz, l⟩ := rv
      obtain ⟨a2, us2, rfl, hr2, hz2, l2⟩ := ru
      exact ⟨a1, a2, us, us2, rfl, .inl ⟨.inl (w1.sub.rd hr), .inl (w1.sub.rd hr2), q _ (srcG_zip hr hr2 l l2)⟩⟩
  · simp at hd
theorem hf_it (h : CcX c C F X) {tg e : Expr} {x : E} (hx : HE C F X e x) : HIF C F X tg e .it [x] := fun r W tk => by
  refine pi_mono (pi_or (pi_list (hx r W tk)) (pi_or (pi_tup (hx r W tk)) (pi_str (hx r W tk)))) ?_
  rintro σ H R ⟨G, io, m, w, sr, p⟩
  rw [evs_one] at p
  cases e1 : ev F x r m with
  | bad => rw [e1] at p; exact p.elim
  | exc k m1 =>
    rw [e1] at p
    exact .inl ⟨G, io, m, w, sr, by rw [e1]; exact p⟩
  | ok d m1 =>
    rw [e1] at p
    have p' : ∀ v H1 G1 io1, Step H G io H1 G1 io1 → WRel C H1 G1 io1 m1 → Rep C G1 io1 d v → ∃ G1 io1 items, WRel C H1 G1 io1 m1 ∧ Rep C G1 io1 d v ∧ srcF .it [d] m1 = some items ∧ ∀ J, SrcG C J items G1 io1 → R J H1 := fun v H1 G1 io1 s1 w1 rv => by
      obtain ⟨G2, io2, m2, ds, items, ee, w2, rds, es, q⟩ := p [v] H1 G1 io1 s1 w1 ⟨v, [], rfl, rv, rfl⟩
      cases ee
      obtain ⟨v', _, e2, rv', _⟩ := rds
      cases e2
      exact ⟨G2, io2, items, w2, rv', es, q⟩
    cases d with
    | lst xs =>
      refine .inl ⟨G, io, m, w, sr, ?_⟩
      rw [e1]
      intro v H1 G1 io1 s1 w1 rv
      obtain ⟨G2, io2, items, w2, rv2, es, q⟩ := p' v H1 G1 io1 s1 w1 rv
      have es := srcC_ne (by decide) (show srcC .it [.lst xs] = some items from es)
      cases es
      obtain ⟨a, vs, rfl, hr, hz, l⟩ := rv2
      rw [h.glb.K]
      exact ⟨a, rfl, ⟨vs, .inl (w2.sub.rd hr)⟩, q _ (srcG_list hr l)⟩
    | tup xs =>
      refine .inr (.inl ⟨G, io, m, w, sr, ?_⟩)
      rw [e1]
      intro v H1 G1 io1 s1 w1 rv
      obtain ⟨G2, io2, items, w2, rv2, es, q⟩ := p' v H1 G1 io1 s1 w1 rv
      have es := srcC_ne (by decide) (show srcC .it [.tup xs] = some items from es)
      cases es
      obtain ⟨a, vs, rfl, hr, hz, l⟩ := rv2
      rw [h.glb.K]
      exact ⟨a, rfl, ⟨vs, w2.sqT hr⟩, q _ (srcG_tup hr l)⟩
    | str z =>
      refine .inr (.inr ⟨G, io, m, w, sr, ?_⟩)
      rw [e1]
      intro v H1 G1 io1 s1 w1 rv
      obtain ⟨G2, io2, items, w2, rv2, es, q⟩ := p' v H1 G1 io1 s1 w1 rv
      have es := srcC_ne (by decide) (show srcC .it [.str z] = some items from es)
      simp only [srcD] at es
      by_cases hz : z.length ≤ big
      · rw [if_pos hz] at es
        cases es
        obtain rfl := rv2
        exact ⟨z, rfl, q _ srcG_str⟩
      · rw [if_neg hz] at es; cases es
    | dic _ =>
      refine .inl ⟨G, io, m, w, sr, ?_⟩
      rw [e1]
      intro v H1 G1 io1 s1 w1 rv
      obtain ⟨G2, io2, items, w2, rv2, es, q⟩ := p' v H1 G1 io1 s1 w1 rv
      cases es
    | box _ =>
      refine .inl ⟨G, io, m, w, sr, ?_⟩
      rw [e1]
      intro v H1 G1 io1 s1 w1 rv
      obtain ⟨G2, io2, items, w2, rv2, es, q⟩ := p' v H1 G1 io1 s1 w1 rv
      cases es
    | _ =>
      refine .inl ⟨G, io, m, w, sr, ?_⟩
      rw [e1]
      intro v H1 G1 io1 s1 w1 rv
      obtain ⟨G2, io2, items, w2, rv2, es, q⟩ := p' v H1 G1 io1 s1 w1 rv
      simp [srcF, srcM, srcC, srcD, look] at es
/-! ### for -/
def stepF (F : Fn) (t : Tg) (bd : List Wh.St) : D → Env → Mu → Rs := fun x r m => match bindTg t x r with
  | some r => exs F bd r m
  | none => .bad
theorem hs_for (h : CcX c C F X) (hot : c.hot = false) (hp : PassesOwn (model X.prog X.w) X.A X.env X.xe) {tg iter : Expr} {t : Tg} {k : Sk} {es : List E} {body : List Stmt} {bd : List Wh.St} {pos : Pos} (ht : tgOf c tg = some t) (hi : HIF C F X tg iter k es) (hb : HSs C F X body bd)
    (hf : ∀ x, foldedSetIterable iter X.env x = pure x) : HS C F X (.For tg iter body [] pos) (.for_ t k es bd) := fun H0 G0 io0 r W tk => by
  have hb' : ∀ G1 io1, PSs X body (fun D σ H => ∃ r', tX C W H0 G1 io1 r' (exs F bd r') D σ H) := fun G1 io1 => ⟨fun pins s σ H D I ⟨r', q⟩ => (hb H0 G1 io1 r' W tk).run pins s σ H D I q⟩
  have hb2 : PSs X body (fun D σ H => ∃ G1 io1 r', tX C W H0 G1 io1 r' (exs F bd r') D σ H) := ⟨fun pins s σ H D I ⟨G1, io1, q⟩ => (hb' G1 io1).run pins s σ H D I q⟩
  have hg2 : PG X tg (fun v σ H Q => ∃ G1 io1, tBindT C H0 G1 io1 t v σ H Q) := ⟨fun pins s σ H v u Q I r ⟨G1, io1, q⟩ => (hgT_of h hot ht H0 G1 io1).run pins s σ H v u Q I r q⟩
  refine ps_mono (ps_for hp (h.glb.calm hot) (hi r W tk) hg2 hb2 hf) fun D σ H ⟨G, io, m, t0, p⟩ => ?_
  rw [ex] at p
  refine ⟨G, io, m, t0.w, t0.sr, (p.on (R' := fun _ => rRepL C) t0).mono ?_⟩
  rintro vs H1 ⟨G1, io1, m1, ds, s1, t1, rds, e1, p1⟩
  cases es' : srcF k ds m1 with
  | none => rw [es'] at p1; exact p1.elim
  | some items =>
    rw [es'] at p1
    refine ⟨G1, io1, m1, ds, items, e1, t1.w, rds, es', fun J so => ?_⟩
    obtain ⟨Gd, Y, wk, hG, hY⟩ := so
    have p2 : PostS C W H0 G1 io1 (loopF (stepF F t bd) items r m1) D := PostS.rebase t1.s p1
    refine for_it wk (g := fun v σ H Q => ∃ G1 io1, tBindT C H0 G1 io1 t v σ H Q) (tb := fun D σ H => ∃ G1 io1 r', tX C W H0 G1 io1 r' (exs F bd r') D σ H) (D := D) (σ := σ) (H := H1) (fun i σ H => ∃ G io m r', TRel C H0 G1 io1 σ H G io r' m ∧ PostS C W H0 G1 io1 (loopF (stepF F t bd) (items.drop i) r' m) D) ?_ ?_ ?_ ?_
    · exact ⟨G1, io1, m1, r, t1.rebase, by rw [List.drop_zero]; exact p2⟩
    · rintro i σ' H' hi ⟨G, io, m, r', t, _⟩
      exact hG H' G io m t.s.g t.w
    · rintro i x σ' H' H'' hi ⟨G, io, m, r', t', q⟩ y
      obtain ⟨d, ed⟩ : ∃ d, items[i]? = some d := ⟨items[i], by simp [hi]⟩
      obtain ⟨G', s', w', rd⟩ := hY i H' x H'' G io m d t'.s.g t'.s.pre t'.w y ed
      have edrop : items.drop i = d :: items.drop (i + 1) := by
        rw [List.drop_eq_getElem_cons hi]
        congr 1
        rw [List.getElem?_eq_getElem hi] at ed
        exact Option.some.inj ed
      rw [edrop, loopF] at q
      have t2 := t'.step s' w'
      cases eb : bindTg t d r' with
      | none =>
        have : stepF F t bd d r' m = .bad := by unfold stepF; rw [eb]
        rw [this] at q; exact q.elim
      | some r2 =>
        have es2 : stepF F t bd d r' m = exs F bd r2 m := by unfold stepF; rw [eb]
        rw [es2] at q
        refine ⟨G1, io1, G', io, m, r', d, r2, t2, rd, eb, fun σ2 t3 => ⟨G1, io1, r2, G', io, m, t3, ?_⟩⟩
        cases e3 : exs F bd r2 m with
        | bad => rw [e3] at q; exact q
        | exc k' r3 m3 => rw [e3] at q; exact q
        | rt d' r3 m3 => rw [e3] at q; exact q
        | nx r3 m3 =>
          rw [e3] at q
          exact fun σ3 H3 G3 io3 t4 => ⟨G3, io3, m3, r3, t4, q⟩
    · rintro σ' H' ⟨G, io, m, r', t', q⟩
      rw [List.drop_length] at q
      exact q σ' H' G io t'
/-! ### while -/
theorem hs_whl (hp : PassesOwn (model X.prog X.w) X.A X.env X.xe) {e : Expr} {x : E} {body : List Stmt} {bd : List Wh.St} {pos : Pos} (ht : HT C F X e x) (hb : HSs C F X body bd) : HS C F X (.While e body [] pos) (.whl x bd) := fun H0 G0 io0 r W tk => by
  have hb2 : PSs X body (fun D σ H => ∃ r', tX C W H0 G0 io0 r' (exs F bd r') D σ H) := ⟨fun pins s σ H D I ⟨r', q⟩ => (hb H0 G0 io0 r' W tk).run pins s σ H D I q⟩
  have ht2 : PT X e (fun σ H Q => ∃ r', tRun C W r' (fun _ => rB) (fun m => (ev F x r' m).bind fun d m => tstD d m) σ H Q) := ⟨fun pins s σ H Q I ⟨r', q⟩ => (ht r' W tk).run pins s σ H Q I q⟩
  refine ps_mono (ps_while hp ht2 hb2) fun D σ H ⟨G, io, m, t0, p⟩ => ?_
  rw [ex] at p
  refine ⟨fun n σ H => ∃ G io m r', TRel C H0 G0 io0 σ H G io r' m ∧ PostS C W H0 G0 io0 (loopW (fun r m => (ev F x r m).bind fun d m => tstD d m) (fun r m => exs F bd r m) n r' m) D, ⟨fuelW, G, io, m, r, t0, p⟩, ?_⟩
  rintro n σ' H' ⟨G', io', m', r', t', q⟩
  cases n with
  | zero => exact q.elim
  | succ n =>
    rw [loopW] at q
    refine ⟨r', G', io', m', t'.w, t'.sr, (q.on (R' := fun _ => rB) t').mono ?_⟩
    rintro b H1 ⟨G1, io1, m1, b', s1, t1, rb, e1, q1⟩
    obtain rfl : b' = b := rb
    cases b' with
    | false => exact q1 σ' H1 G1 io1 t1
    | true =>
      rw [if_pos rfl] at q1 ⊢
      refine ⟨fun σ H => ∃ G io m r', TRel C H0 G0 io0 σ H G io r' m ∧ PostS C W H0 G0 io0 (loopW (fun r m => (ev F x r m).bind fun d m => tstD d m) (fun r m => exs F bd r m) n r' m) D, fun σ2 H2 z => ⟨n, Nat.lt_succ_self n, z⟩, r', G1, io1, m1, t1, ?_⟩
      cases e3 : exs F bd r' m1 with
      | bad => simp only [e3, Rs.then] at q1; exact q1
      | exc k' r3 m3 => simp only [e3, Rs.then] at q1; exact q1
      | rt d' r3 m3 => simp only [e3, Rs.then] at q1; exact q1
      | nx r3 m3 =>
        simp only [e3, Rs.then] at q1
        exact fun σ3 H3 G3 io3 t4 => ⟨G3, io3, m3, r3, t4, q1⟩
end
end Wh
/-! raise; try with one clause; what a suite leaves. -/
namespace Wh
open PySem L2 PySem.Spec PyProof.Rows
/-! ### what leaves the boxes alone -/
section
variable {hf : List String} {F : Fn}
theorem bind_some' {α β : Type} {r : Res α} {k : α → Mu → Res β} {d : β} {m' : Mu} (h : r.bind k = .ok d m') : ∃ a m1, r = .ok a m1 ∧ k a m1 = .ok d m' := by
  cases r with
  | ok a m1 => exact ⟨a, m1, rfl, h⟩
  | exc c m1 => cases h
  | bad => cases h
theorem up_keep {α : Type} {o : Option α} {m m' : Mu} {d : α} (h : up o m = .ok d m') : m' = m := by
  cases o with
  | none => cases h
  | some a => cases h; rfl
theorem tst_keep {a : D} {m m' : Mu} {b : Bool} (h : tstD a m = .ok b m') : m' = m := by
  cases a <;> first | (cases h; rfl) | cases h
mutual
theorem still_E (hF : KeepF hf F) : ∀ (e : E) (r : Env) (m : Mu) (d : D) (m' : Mu), stillE hf e = true → ev F e r m = .ok d m' → m' = m
  | .v i, r, m, d, m', _, h => by
    rw [ev] at h
    split at h <;> cases h
    rfl
  | .b i, r, m, d, m', _, h => by
    rw [ev] at h
    split at h <;> cases h <;> rfl
  | .c x, r, m, d, m', _, h => by
    rw [ev] at h
    cases h
    rfl
  | .bin o x y, r, m, d, m', hs, h => by
    rw [stillE, Bool.and_eq_true] at hs
    rw [ev] at h
    obtain ⟨a, m1, h1, h⟩ := bind_some' h
    obtain ⟨b, m2, h2, h⟩ := bind_some' h
    rw [up_keep h, still_E hF y r m1 b m2 hs.2 h2, still_E hF x r m a m1 hs.1 h1]
  | .neg x, r, m, d, m', hs, h => by
    rw [stillE] at hs
    rw [ev] at h
    obtain ⟨a, m1, h1, h⟩ := bind_some' h
    have := still_E hF x r m a m1 hs h1
    cases a <;> first | (cases h; exact this) | cases h
  | .not x, r, m, d, m', hs, h => by
    rw [stillE] at hs
    rw [ev] at h
    obtain ⟨a, m1, h1, h⟩ := bind_some' h
    obtain ⟨b, m2, h2, h⟩ := bind_some' h
    cases h
    rw [tst_keep h2, still_E hF x r m a m1 hs h1]
  | .and x y, r, m, d, m', hs, h => by
    rw [stillE, Bool.and_eq_true] at hs
    rw [ev] at h
    obtain ⟨a, m1, h1, h⟩ := bind_some' h
    obtain ⟨b, m2, h2, h⟩ := bind_some' h
    have e1 := still_E hF x r m a m1 hs.1 h1
    have e2 := tst_keep h2
    split at h
    · rw [still_E hF y r m2 d m' hs.2 h, e2, e1]
    · cases h; rw [e2, e1]
  | .or x y, r, m, d, m', hs, h => by
    rw [stillE, Bool.and_eq_true] at hs
    rw [ev] at h
    obtain ⟨a, m1, h1, h⟩ := bind_some' h
    obtain ⟨b, m2, h2, h⟩ := bind_some' h
    have e1 := still_E hF x r m a m1 hs.1 h1
    have e2 := tst_keep h2
    split at h
    · cases h; rw [e2, e1]
    · rw [still_E hF y r m2 d m' hs.2 h, e2, e1]
  | .ife t x y, r, m, d, m', hs, h => by
    rw [stillE, Bool.and_eq_true, Bool.and_eq_true] at hs
    rw [ev] at h
    obtain ⟨a, m1, h1, h⟩ := bind_some' h
    obtain ⟨b, m2, h2, h⟩ := bind_some' h
    have e1 := still_E hF t r m a m1 hs.1.1 h1
    have e2 := tst_keep h2
    split at h
    · rw [still_E hF x r m2 d m' hs.1.2 h, e2, e1]
    · rw [still_E hF y r m2 d m' hs.2 h, e2, e1]
  | .cmp o x y, r, m, d, m', hs, h => by
    rw [stillE, Bool.and_eq_true] at hs
    rw [ev] at h
    obtain ⟨a, m1, h1, h⟩ := bind_some' h
    obtain ⟨b, m2, h2, h⟩ := bind_some' h
    rw [up_keep h, still_E hF y r m1 b m2 hs.2 h2, still_E hF x r m a m1 hs.1 h1]
  | .tup es, r, m, d, m', hs, h => by
    rw [stillE] at hs
    rw [ev] at h
    obtain ⟨a, m1, h1, h⟩ := bind_some' h
    cases h
    exact still_Es hF es r m a m' hs h1
  | .lst es, r, m, d, m', hs, h => by
    rw [stillE] at hs
    rw [ev] at h
    obtain ⟨a, m1, h1, h⟩ := bind_some' h
    cases h
    exact still_Es hF es r m a m' hs h1
  | .idx x y, r, m, d, m', hs, h => by
    rw [stillE, Bool.and_eq_true] at hs
    rw [ev] at h
    obtain ⟨a, m1, h1, h⟩ := bind_some' h
    obtain ⟨b, m2, h2, h⟩ := bind_some' h
    rw [up_keep h, still_E hF y r m1 b m2 hs.2 h2, still_E hF x r m a m1 hs.1 h1]
  | .isx x k, r, m, d, m', hs, h => by
    rw [stillE] at hs
    rw [ev] at h
    obtain ⟨a, m1, h1, h⟩ := bind_some' h
    have := still_E hF x r m a m1 hs h1
    cases a <;> first | (cases h; exact this) | cases h
  | .bm f x ys, r, m, d, m', hs, h => by
    rw [stillE, Bool.and_eq_true] at hs
    rw [ev] at h
    obtain ⟨a, m1, h1, h⟩ := bind_some' h
    have e1 := still_E hF x r m a m1 hs.1 h1
    split at h
    · obtain ⟨b, m2, h2, h⟩ := bind_some' h
      rw [up_keep h, still_Es hF ys r m1 b m2 hs.2 h2, e1]
    · cases h
  | .call f es, r, m, d, m', hs, h => by
    rw [stillE, Bool.and_eq_true] at hs
    rw [ev] at h
    obtain ⟨a, m1, h1, h⟩ := bind_some' h
    rw [hF f hs.1 a m1 d m' h, still_Es hF es r m a m1 hs.2 h1]
  | .ch2 _ _ _ _ _, _, _, _, _, hs, _ => absurd hs (by simp [stillE])
  | .dict _ _, _, _, _, _, hs, _ => absurd hs (by simp [stillE])
  | .sl _ _ _, _, _, _, _, hs, _ => absurd hs (by simp [stillE])
  | .rev _, _, _, _, _, hs, _ => absurd hs (by simp [stillE])
  | .fld _ _, _, _, _, _, hs, _ => absurd hs (by simp [stillE])
  | .meth _ _ _ _, _, _, _, _, hs, _ => absurd hs (by simp [stillE])
  | .new _ _, _, _, _, _, hs, _ => absurd hs (by simp [stillE])
  | .bi _ _, _, _, _, _, hs, _ => absurd hs (by simp [stillE])
  | .isi _ _, _, _, _, _, hs, _ => absurd hs (by simp [stillE])
  | .comp _ _ _ _ _ _, _, _, _, _, hs, _ => absurd hs (by simp [stillE])
  | .box _, _, _, _, _, hs, _ => absurd hs (by simp [stillE])
  | .pop _ _, _, _, _, _, hs, _ => absurd hs (by simp [stillE])
theorem still_Es (hF : KeepF hf F) : ∀ (es : List E) (r : Env) (m : Mu) (ds : List D) (m' : Mu), stillEs hf es = true → evs F es r m = .ok ds m' → m' = m
  | [], r, m, ds, m', _, h => by rw [evs] at h; cases h; rfl
  | e :: es, r, m, ds, m', hs, h => by
    rw [stillEs, Bool.and_eq_true] at hs
    rw [evs] at h
    obtain ⟨a, m1, h1, h⟩ := bind_some' h
    obtain ⟨b, m2, h2, h⟩ := bind_some' h
    cases h
    rw [still_Es hF es r m1 b m' hs.2 h2, still_E hF e r m a m1 hs.1 h1]
end
/-- a block's end: the boxes, and the slots where nothing is stored -/
def muOf : Rs → Mu → Prop
  | .nx _ m', m => m' = m
  | .rt _ _ m', m => m' = m
  | _, _ => True
theorem on_some {α : Type} {f : Res α} {r : Env} {k : α → Mu → Rs} {m : Mu} (h1 : ∀ a m1, f = .ok a m1 → muOf (k a m1) m) : muOf (f.on r k) m := by
  cases f with
  | ok a m1 => exact h1 a m1 rfl
  | exc c m1 => trivial
  | bad => trivial
mutual
theorem still_S (hF : KeepF hf F) : ∀ (s : Wh.St) (r : Env) (m : Mu), stillS hf s = true → muOf (ex F s r m) m
  | .asg i o e, r, m, hs => by
    rw [stillS] at hs
    rw [ex]
    exact on_some fun a m1 h1 => still_E hF e r m a m1 hs h1
  | .ret e, r, m, hs => by
    rw [stillS] at hs
    rw [ex]
    exact on_some fun a m1 h1 => still_E hF e r m a m1 hs h1
  | .ife t a b, r, m, hs => by
    rw [stillS, Bool.and_eq_true, Bool.and_eq_true] at hs
    rw [ex]
    refine on_some fun d m1 h1 => on_some fun k m2 h2 => ?_
    have e1 := still_E hF t r m d m1 hs.1.1 h1
    have e2 := tst_keep h2
    rw [e2, e1]
    split
    · exact still_Ss hF a r m hs.1.2
    · exact still_Ss hF b r m hs.2
  | .pass, r, m, _ => by rw [ex]; rfl
  | .unp _ _, _, _, hs => absurd hs (by simp [stillS])
  | .par _ _ _ _, _, _, hs => absurd hs (by simp [stillS])
  | .setf _ _ _, _, _, hs => absurd hs (by simp [stillS])
  | .seti _ _ _, _, _, hs => absurd hs (by simp [stillS])
  | .app _ _, _, _, hs => absurd hs (by simp [stillS])
  | .ext _ _, _, _, hs => absurd hs (by simp [stillS])
  | .spop _ _, _, _, hs => absurd hs (by simp [stillS])
  | .expr _, _, _, hs => absurd hs (by simp [stillS])
  | .for_ _ _ _ _, _, _, hs => absurd hs (by simp [stillS])
  | .whl _ _, _, _, hs => absurd hs (by simp [stillS])
  | .raise _, _, _, hs => absurd hs (by simp [stillS])
  | .try_ _ _ _ _ _, _, _, hs => absurd hs (by simp [stillS])
  | .fz _ _, _, _, hs => absurd hs (by simp [stillS])
  | .flds _, _, _, hs => absurd hs (by simp [stillS])
theorem still_Ss (hF : KeepF hf F) : ∀ (ss : List Wh.St) (r : Env) (m : Mu), stillSs hf ss = true → muOf (exs F ss r m) m
  | [], r, m, _ => by rw [exs]; rfl
  | s :: ss, r, m, hs => by
    rw [stillSs, Bool.and_eq_true] at hs
    rw [exs]
    have h1 := still_S hF s r m hs.1
    cases e : ex F s r m with
    | nx r1 m1 =>
      rw [e] at h1
      obtain rfl : m1 = m := h1
      exact still_Ss hF ss r1 m1 hs.2
    | rt d r1 m1 => rw [e] at h1; exact h1
    | exc k r1 m1 => trivial
    | bad => trivial
end
/-- nothing stored: the slots stay -/
def slOf : Rs → Env → Prop
  | .nx r' _, r => r' = r
  | _, _ => True
theorem on_slots {α : Type} {f : Res α} {r : Env} {k : α → Mu → Rs} (h1 : ∀ a m1, slOf (k a m1) r) : slOf (f.on r k) r := by
  cases f with
  | ok a m1 => exact h1 a m1
  | exc c m1 => trivial
  | bad => trivial
mutual
theorem keep_S : ∀ (s : Wh.St) (r : Env) (m : Mu), noAsg s = true → slOf (ex F s r m) r
  | .ret e, r, m, hs => by rw [ex]; exact on_slots fun _ _ => trivial
  | .ife t a b, r, m, hs => by
    rw [noAsg, Bool.and_eq_true] at hs
    rw [ex]
    refine on_slots fun d m1 => on_slots fun k m2 => ?_
    split
    · exact keep_Ss a r m2 hs.1
    · exact keep_Ss b r m2 hs.2
  | .pass, r, m, _ => by rw [ex]; rfl
  | .asg _ _ _, _, _, hs => absurd hs (by simp [noAsg])
  | .unp _ _, _, _, hs => absurd hs (by simp [noAsg])
  | .par _ _ _ _, _, _, hs => absurd hs (by simp [noAsg])
  | .setf _ _ _, _, _, hs => absurd hs (by simp [noAsg])
  | .seti _ _ _, _, _, hs => absurd hs (by simp [noAsg])
  | .app _ _, _, _, hs => absurd hs (by simp [noAsg])
  | .ext _ _, _, _, hs => absurd hs (by simp [noAsg])
  | .spop _ _, _, _, hs => absurd hs (by simp [noAsg])
  | .expr _, _, _, hs => absurd hs (by simp [noAsg])
  | .for_ _ _ _ _, _, _, hs => absurd hs (by simp [noAsg])
  | .whl _ _, _, _, hs => absurd hs (by simp [noAsg])
  | .raise _, _, _, hs => absurd hs (by simp [noAsg])
  | .try_ _ _ _ _ _, _, _, hs => absurd hs (by simp [noAsg])
  | .fz _ _, _, _, hs => absurd hs (by simp [noAsg])
  | .flds _, _, _, hs => absurd hs (by simp [noAsg])
theorem keep_Ss : ∀ (ss : List Wh.St) (r : Env) (m : Mu), noAsgs ss = true → slOf (exs F ss r m) r
  | [], r, m, _ => by rw [exs]; rfl
  | s :: ss, r, m, hs => by
    rw [noAsgs, Bool.and_eq_true] at hs
    rw [exs]
    have h1 := keep_S s r m hs.1
    cases e : ex F s r m with
    | nx r1 m1 =>
      rw [e] at h1
      obtain rfl : r1 = r := h1
      exact keep_Ss ss r1 m1 hs.2
    | rt d r1 m1 => trivial
    | exc k r1 m1 => trivial
    | bad => trivial
end
end

/-! ### worlds with and without a held error -/
section
variable {C : Wd} {G : Hp} {io : List Addr} {a0 : Addr} {k0 : String}
mutual
theorem Rep.hold (h0 : C.ex = none) : ∀ (d : D) (v : V), Rep C G io d v → noX d = true ∧ Rep (C.held a0 k0) G io d v
  | .non, v, h => ⟨rfl, h⟩
  | .bl b, v, h => ⟨rfl, h⟩
  | .int i, v, h => ⟨rfl, h⟩
  | .str s, v, h => ⟨rfl, h⟩
  | .tup xs, v, h => by
    obtain ⟨a, vs, e, q, z, r⟩ := h
    obtain ⟨n, r'⟩ := RepL.hold h0 xs vs r
    exact ⟨by rw [noX]; exact n, a, vs, e, q, z, r'⟩
  | .lst xs, v, h => by
    obtain ⟨a, vs, e, q, z, r⟩ := h
    obtain ⟨n, r'⟩ := RepL.hold h0 xs vs r
    exact ⟨by rw [noX]; exact n, a, vs, e, q, z, r'⟩
  | .dic ks, v, h => by
    obtain ⟨a, vs, e, q, z, r⟩ := h
    obtain ⟨n, r'⟩ := RepK.hold h0 ks vs r
    exact ⟨by rw [noX]; exact n, a, vs, e, q, z, r'⟩
  | .ins c fs, v, h => by
    obtain ⟨a, A, dx, vs, e, q, z, r⟩ := h
    obtain ⟨n, r'⟩ := RepF.hold h0 fs vs r
    exact ⟨by rw [noX]; exact n, a, A, dx, vs, e, q, z, r'⟩
  | .box n, v, h => ⟨rfl, h⟩
  | .exc c, v, h => by
    obtain ⟨a, _, e⟩ := h
    rw [h0] at e
    cases e
  | .fn f, v, h => h.elim
theorem RepL.hold (h0 : C.ex = none) : ∀ (ds : List D) (vs : List V), RepL C G io ds vs → noXs ds = true ∧ RepL (C.held a0 k0) G io ds vs
  | [], vs, h => ⟨rfl, h⟩
  | d :: ds, vs, h => by
    obtain ⟨v, r, e, q, t⟩ := h
    obtain ⟨n1, q'⟩ := Rep.hold h0 d v q
    obtain ⟨n2, t'⟩ := RepL.hold h0 ds r t
    exact ⟨by rw [noXs, n1, n2] <;> rfl, v, r, e, q', t'⟩
theorem RepK.hold (h0 : C.ex = none) : ∀ (ds : List (Key × D)) (vs : List (Key × V)), RepK C G io ds vs → noXk ds = true ∧ RepK (C.held a0 k0) G io ds vs
  | [], vs, h => ⟨rfl, h⟩
  | (k, d) :: ds, vs, h => by
    obtain ⟨v, r, e, q, t⟩ := h
    obtain ⟨n1, q'⟩ := Rep.hold h0 d v q
    obtain ⟨n2, t'⟩ := RepK.hold h0 ds r t
    exact ⟨by rw [noXk, n1, n2] <;> rfl, v, r, e, q', t'⟩
theorem RepF.hold (h0 : C.ex = none) : ∀ (ds : List (String × D)) (vs : List (Str × V)), RepF C G io ds vs → noXf ds = true ∧ RepF (C.held a0 k0) G io ds vs
  | [], vs, h => ⟨rfl, h⟩
  | (k, d) :: ds, vs, h => by
    obtain ⟨v, r, e, q, t⟩ := h
    obtain ⟨n1, q'⟩ := Rep.hold h0 d v q
    obtain ⟨n2, t'⟩ := RepF.hold h0 ds r t
    exact ⟨by rw [noXf, n1, n2] <;> rfl, v, r, e, q', t'⟩
end
mutual
theorem Rep.drop : ∀ (d : D) (v : V), noX d = true → Rep (C.held a0 k0) G io d v → Rep C G io d v
  | .non, v, _, h => h
  | .bl b, v, _, h => h
  | .int i, v, _, h => h
  | .str s, v, _, h => h
  | .tup xs, v, n, h => by
    rw [noX] at n
    obtain ⟨a, vs, e, q, z, r⟩ := h
    exact ⟨a, vs, e, q, z, RepL.drop' xs vs n r⟩
  | .lst xs, v, n, h => by
    rw [noX] at n
    obtain ⟨a, vs, e, q, z, r⟩ := h
    exact ⟨a, vs, e, q, z, RepL.drop' xs vs n r⟩
  | .dic ks, v, n, h => by
    rw [noX] at n
    obtain ⟨a, vs, e, q, z, r⟩ := h
    exact ⟨a, vs, e, q, z, RepK.drop' ks vs n r⟩
  | .ins c fs, v, n, h => by
    rw [noX] at n
    obtain ⟨a, A, dx, vs, e, q, z, r⟩ := h
    exact ⟨a, A, dx, vs, e, q, z, RepF.drop' fs vs n r⟩
  | .box n, v, _, h => h
  | .exc c, v, n, h => by rw [noX] at n; cases n
  | .fn f, v, n, h => h.elim
theorem RepL.drop' : ∀ (ds : List D) (vs : List V), noXs ds = true → RepL (C.held a0 k0) G io ds vs → RepL C G io ds vs
  | [], vs, _, h => h
  | d :: ds, vs, n, h => by
    rw [noXs, Bool.and_eq_true] at n
    obtain ⟨v, r, e, q, t⟩ := h
    exact ⟨v, r, e, Rep.drop d v n.1 q, RepL.drop' ds r n.2 t⟩
theorem RepK.drop' : ∀ (ds : List (Key × D)) (vs : List (Key × V)), noXk ds = true → RepK (C.held a0 k0) G io ds vs → RepK C G io ds vs
  | [], vs, _, h => h
  | (k, d) :: ds, vs, n, h => by
    rw [noXk, Bool.and_eq_true] at n
    obtain ⟨v, r, e, q, t⟩ := h
    exact ⟨v, r, e, Rep.drop d v n.1 q, RepK.drop' ds r n.2 t⟩
theorem RepF.drop' : ∀ (ds : List (String × D)) (vs : List (Str × V)), noXf ds = true → RepF (C.held a0 k0) G io ds vs → RepF C G io ds vs
  | [], vs, _, h => h
  | (k, d) :: ds, vs, n, h => by
    rw [noXf, Bool.and_eq_true] at n
    obtain ⟨v, r, e, q, t⟩ := h
    exact ⟨v, r, e, Rep.drop d v n.1 q, RepF.drop' ds r n.2 t⟩
end
theorem IsOb.hold (h0 : C.ex = none) {u : HO} {d : D} (h : IsOb C G io u d) : noX d = true ∧ IsOb (C.held a0 k0) G io u d := by
  cases u <;> cases d <;> first | exact h.elim | skip
  · obtain ⟨n, r⟩ := RepL.hold (a0 := a0) (k0 := k0) h0 _ _ h.2
    exact ⟨by rw [noX]; exact n, h.1, r⟩
  · obtain ⟨n, r⟩ := RepK.hold (a0 := a0) (k0 := k0) h0 _ _ h.2
    exact ⟨by rw [noX]; exact n, h.1, r⟩
  · obtain ⟨n, r⟩ := RepF.hold (a0 := a0) (k0 := k0) h0 _ _ h.2
    exact ⟨by rw [noX]; exact n, h.1, r⟩
theorem IsOb.drop {u : HO} {d : D} (n : noX d = true) (h : IsOb (C.held a0 k0) G io u d) : IsOb C G io u d := by
  cases u <;> cases d <;> first | exact h.elim | skip
  · rw [noX] at n; exact ⟨h.1, RepL.drop' _ _ n h.2⟩
  · rw [noX] at n; exact ⟨h.1, RepK.drop' _ _ n h.2⟩
  · rw [noX] at n; exact ⟨h.1, RepF.drop' _ _ n h.2⟩
variable {H : Hp} {m : Mu}
def noXm (m : Mu) : Prop := ∀ (n : Nat) (l : Bool) (d : D), m[n]? = some (l, d) → noX d = true
theorem WRel.hold (h0 : C.ex = none) (w : WRel C H G io m) : noXm m ∧ WRel (C.held a0 k0) H G io m := by
  refine ⟨fun n l d e => ?_, ⟨w.sub, w.nofrz, w.len, w.nd, w.off, fun n a l d h1 h2 => ?_⟩⟩
  · have hn : n < io.length := by rw [w.len]; exact (List.getElem?_eq_some_iff.mp e).1
    obtain ⟨u, ob, _⟩ := w.box n io[n] l d (List.getElem?_eq_getElem hn) e
    exact (ob.hold (a0 := a0) (k0 := k0) h0).1
  · obtain ⟨u, ob, r⟩ := w.box n a l d h1 h2
    exact ⟨u, (ob.hold h0).2, r⟩
theorem WRel.drop (hm : noXm m) (w : WRel (C.held a0 k0) H G io m) : WRel C H G io m :=
  ⟨w.sub, w.nofrz, w.len, w.nd, w.off, fun n a l d h1 h2 => by
    obtain ⟨u, ob, r⟩ := w.box n a l d h1 h2
    exact ⟨u, ob.drop (hm n l d h2), r⟩⟩
def noXr (r : Env) : Prop := ∀ i, match slot r i with
  | .no => True
  | .val d => noX d = true
  | .own d => noX d = true
theorem SRel.hold (h0 : C.ex = none) {σ : L2.St} {r : Env} (s : SRel C σ H G io r) : noXr r ∧ SRel (C.held a0 k0) σ H G io r := by
  refine ⟨fun i => ?_, ⟨s.len, fun i => ?_⟩⟩
  · have q := s.at_ i
    cases e : slot r i with
    | no => trivial
    | val d => rw [e] at q; obtain ⟨v, _, q⟩ := q; exact (Rep.hold (a0 := a0) (k0 := k0) h0 d v q).1
    | own d => rw [e] at q; obtain ⟨a, u, _, _, q, _⟩ := q; exact (q.hold (a0 := a0) (k0 := k0) h0).1
  · have q := s.at_ i
    cases e : slot r i with
    | no => trivial
    | val d => rw [e] at q; obtain ⟨v, z, q⟩ := q; exact ⟨v, z, (Rep.hold h0 d v q).2⟩
    | own d => rw [e] at q; obtain ⟨a, u, z1, z2, q, z3⟩ := q; exact ⟨a, u, z1, z2, (q.hold h0).2, z3⟩
theorem TRel.hold (h0 : C.ex = none) {H0 G0 : Hp} {io0 : List Addr} {σ : L2.St} {r : Env} (t : TRel C H0 G0 io0 σ H G io r m) : noXm m ∧ noXr r ∧ TRel (C.held a0 k0) H0 G0 io0 σ H G io r m := by
  obtain ⟨n1, w⟩ := t.w.hold (a0 := a0) (k0 := k0) h0
  obtain ⟨n2, s⟩ := t.sr.hold (a0 := a0) (k0 := k0) h0
  refine ⟨n1, n2, ⟨w, t.s, s, fun i d e => ?_, t.dist⟩⟩
  obtain ⟨a, u, z1, z2, ob, z3⟩ := t.own i d e
  exact ⟨a, u, z1, z2, (ob.hold h0).2, z3⟩
/-- the held error's slot goes -/
theorem TRel.drop {H0 G0 : Hp} {io0 : List Addr} {σ : L2.St} {r : Env} {i : Nat} (hm : noXm m) (hr : noXr r) (t : TRel (C.held a0 k0) H0 G0 io0 σ H G io (r.set i (.val (.exc k0))) m) : TRel C H0 G0 io0 (σ.set i none) H G io (r.set i .no) m := by
  have ln := t.sr.len
  rw [List.length_set] at ln
  have at_ : ∀ j, slot (r.set i .no) j = if i = j ∧ i < r.length then .no else slot r j := fun j => slot_set
  have at2 : ∀ j, slot (r.set i (.val (.exc k0))) j = if i = j ∧ i < r.length then .val (.exc k0) else slot r j := fun j => slot_set
  have back : ∀ j, ¬ (i = j ∧ i < r.length) → (σ.set i none)[j]? = σ[j]? := fun j hj => by
    by_cases e : i = j
    · subst e
      have : ¬ i < r.length := fun z => hj ⟨rfl, z⟩
      rw [List.set_eq_of_length_le (by omega)]
    · rw [List.getElem?_set_ne e]
  refine ⟨t.w.drop hm, t.s, ⟨by rw [List.length_set, List.length_set]; exact ln, fun j => ?_⟩, fun j d e => ?_, fun j k dj dk b e1 e2 e3 e4 => ?_⟩
  · rw [at_ j]
    by_cases hj : i = j ∧ i < r.length
    · rw [if_pos hj]; trivial
    · rw [if_neg hj, back j hj]
      have q := t.sr.at_ j
      rw [at2 j, if_neg hj] at q
      have n := hr j
      cases e : slot r j with
      | no => trivial
      | val d => rw [e] at q n; obtain ⟨v, z, q⟩ := q; exact ⟨v, z, Rep.drop d v n q⟩
      | own d => rw [e] at q n; obtain ⟨a, u, z1, z2, q, z3⟩ := q; exact ⟨a, u, z1, z2, q.drop n, z3⟩
  · rw [at_ j] at e
    by_cases hj : i = j ∧ i < r.length
    · rw [if_pos hj] at e; cases e
    · rw [if_neg hj] at e
      obtain ⟨a, u, z1, z2, ob, z3⟩ := t.own j d (by rw [at2 j, if_neg hj]; exact e)
      have n := hr j
      rw [e] at n
      exact ⟨a, u, by rw [back j hj]; exact z1, z2, ob.drop n, z3⟩
  · rw [at_ j] at e1
    rw [at_ k] at e2
    by_cases hj : i = j ∧ i < r.length
    · rw [if_pos hj] at e1; cases e1
    by_cases hk : i = k ∧ i < r.length
    · rw [if_pos hk] at e2; cases e2
    rw [if_neg hj] at e1
    rw [if_neg hk] at e2
    rw [back j hj] at e3
    rw [back k hk] at e4
    exact t.dist j k dj dk b (by rw [at2 j, if_neg hj]; exact e1) (by rw [at2 k, if_neg hk]; exact e2) e3 e4
theorem TRel.drop0 {H0 G0 : Hp} {io0 : List Addr} {σ : L2.St} {r : Env} (hm : noXm m) (hr : noXr r) (t : TRel (C.held a0 k0) H0 G0 io0 σ H G io r m) : TRel C H0 G0 io0 σ H G io r m := by
  refine ⟨t.w.drop hm, t.s, ⟨t.sr.len, fun j => ?_⟩, fun j d e => ?_, t.dist⟩
  · have q := t.sr.at_ j
    have n := hr j
    cases e : slot r j with
    | no => trivial
    | val d => rw [e] at q n; obtain ⟨v, z, q⟩ := q; exact ⟨v, z, Rep.drop d v n q⟩
    | own d => rw [e] at q n; obtain ⟨a, u, z1, z2, q, z3⟩ := q; exact ⟨a, u, z1, z2, q.drop n, z3⟩
  · obtain ⟨a, u, z1, z2, ob, z3⟩ := t.own j d e
    have n := hr j
    rw [e] at n
    exact ⟨a, u, z1, z2, ob.drop n, z3⟩
end
end Wh
/-! Suites run as the engine runs them; raise; try. -/
namespace Wh
open PySem L2 PySem.Spec PyProof.Rows
section
variable {C : Wd} {F : Fn}
theorem main_H : ∀ n,
    (∀ c X, CcX c C F X → ∀ st s, cH c n st = some s → HS C F X st s) ∧ (∀ c X, CcX c C F X → ∀ sts ss, cHs c n sts = some ss → HSs C F X sts ss)
  | 0 => ⟨fun c X h st s hx => (by rw [cH] at hx; cases hx), fun c X h st s hx => (by rw [cHs] at hx; cases hx)⟩
  | n + 1 => by
    obtain ⟨IS, ISs⟩ := main_H n
    obtain ⟨IE, IB, IA, IAo, IO⟩ := main_E (C := C) (F := F) n
    refine ⟨fun c X h st s hx => ?_, fun c X h sts ss hx => ?_⟩
    · cases st <;> simp only [cH, reduceCtorEq] at hx
      case Return v pos =>
        cases v with
        | none => cases hx; exact hs_retN
        | some e =>
          obtain ⟨x, e1, rfl⟩ := Option.map_eq_some_iff.mp hx
          exact hs_fzIf (hs_ret (IE c X h _ _ e1).he)
      case Assign ts e pos =>
        rcases ts with _ | ⟨t, _ | ⟨_, _⟩⟩
        · cases hx
        · cases t <;> simp only [reduceCtorEq] at hx
          rename_i x p'
          obtain ⟨i, e1, hx⟩ := Option.bind_eq_some_iff.mp hx
          obtain ⟨y, e2, hx⟩ := Option.bind_eq_some_iff.mp hx
          split at hx
          · cases hx
          · rename_i hno
            cases hx
            have sw : swapsWith e (some (.Name x p')) pos.line X.env = pure false := by
              cases e <;> first | rfl | exact absurd (Or.inl rfl) hno | (cases n <;> simp only [cE, reduceCtorEq] at e2)
            exact hs_fzIf (hs_asg (pv_set h e1 (IE c X h _ _ e2).he sw) fun z => by cases z)
        · cases t <;> cases hx
      case If t a b pos =>
        obtain ⟨x, e1, hx⟩ := Option.bind_eq_some_iff.mp hx
        obtain ⟨y, e2, hx⟩ := Option.bind_eq_some_iff.mp hx
        obtain ⟨z, e3, rfl⟩ := Option.map_eq_some_iff.mp hx
        exact hs_fzIf (hs_ife (IE c X h _ _ e1).ht (ISs c X h _ _ e2) (ISs c X h _ _ e3))
    · cases sts with
      | nil =>
        simp only [cHs] at hx
        cases hx
        exact hss_nil
      | cons st sts =>
        simp only [cHs] at hx
        obtain ⟨s, e1, hx⟩ := Option.bind_eq_some_iff.mp hx
        obtain ⟨ss', e2, rfl⟩ := Option.map_eq_some_iff.mp hx
        exact hss_cons (IS c X h _ _ e1) (ISs c X h _ _ e2)
variable {X : Cx} {c : Cc}
theorem hs_raise (h : CcX c C F X) (hot : c.hot = false) {k : String} (hk : k ∈ c.T.excs) (hg : isGl c (S k) = true) {z : Str} {j : Nat} {p p2 p3 pos : Pos} :
    HS C F X (.Raise (some (.Call (.Name (S k) p) [.Constant (.str z) j p2] [] p3)) none pos) (.raise k) := fun H0 G0 io0 r W tk => by
  obtain ⟨A, e⟩ := h.glb.excs k hk
  obtain ⟨g1, g2, g3⟩ := h.gl hg
  refine ps_mono (ps_raise (h.glb.calm hot) tk (pmk_own PySem.F.excBase_ValueError e.ok e.mg e.kp (raises_own e.bs e.ty) g1 g2)) fun D σ H ⟨G, io, m, t, pp⟩ => ?_
  rw [ex] at pp
  exact pp σ H G io A t (by rw [← h.glb.mg]; exact e.mg)
/-- no error is held where nothing is handled -/
theorem CcX.noEx (h : CcX c C F X) (hot : c.hot = false) : C.ex = none := by
  cases e : C.ex with
  | none => rfl
  | some q =>
    obtain ⟨a, k⟩ := q
    obtain ⟨z, _⟩ := h.glb.ex a k e
    rw [hot] at z
    cases z
/-- the context of a try's body -/
theorem CcX.tr (h : CcX c C F X) (hot : c.hot = false) (pn : List (Addr × Obj)) (xe : Value → Shared → Prop) : CcX c C F (X.tr pn xe) where
  N := h.N
  sc := h.sc
  nd := h.nd
  oc := h.oc
  glb := by
    have g := h.glb
    rw [hot] at g ⊢
    refine ⟨g.K, g.mg, g.calm, g.units, g.blt, g.con, g.cls, g.sup, fun k hk => ?_, fun h0 => ?_, fun a k e => absurd (g.ex a k e).1 Bool.false_ne_true, g.keep, fun h0 => ?_, fun z => absurd z Bool.false_ne_true⟩
    · obtain ⟨A, e⟩ := g.excs k hk
      exact ⟨A, ⟨e.mg, e.ok, e.kp, e.bs, e.ty, e.ec, e.exm, e.ve⟩⟩
    · obtain ⟨k, h1, h2, h3, h4⟩ := g.fns h0
      refine ⟨k, h1, fun f hf => ⟨(h2 f hf).ex⟩, fun k0 A i q hq hk => ⟨(h3 k0 A i q hq hk).ex⟩, fun k0 hk => ?_⟩
      obtain ⟨A, z1, z2, z3⟩ := h4 k0 hk
      refine ⟨A, z1, z2, ?_⟩
      rcases z3 with z | ⟨j, hj, N⟩
      · exact .inl z
      · exact .inr ⟨j, hj, ⟨N.ex⟩⟩
    · obtain ⟨k, h1, h2⟩ := g.hots h0
      exact ⟨k, h1, fun a e oe A z1 z2 z3 z4 f hf => ⟨(h2 a e oe A z1 z2 z3 z4 f hf).ex⟩⟩
/-- the context of its suite -/
theorem CcX.su (h : CcX c C F X) (hot : c.hot = false) {a A : Addr} {k : String} {oe : Obj} (hk : k ∈ c.T.excs) (hm : X.mg (S k) = some (.ref A)) (hz : Zc (.ref A) none oe) (hf : ∃ vs, oe.data = .fields vs) (pn : List (Addr × Obj)) :
    CcX { c with hot := true } (C.held a k) F (X.suite a ((a, oe) :: pn)) where
  N := h.N
  sc := h.sc
  nd := h.nd
  oc := h.oc
  glb := by
    have g := h.glb
    have h0 := h.noEx hot
    refine ⟨g.K, g.mg, fun z => absurd z Bool.noConfusion, g.units, g.blt, fun p hp => ?_, g.cls, g.sup, fun k hk => ?_, fun z => absurd z Bool.noConfusion, fun a' k' e => ?_, g.keep, fun z => absurd z Bool.noConfusion, fun _ => ⟨⟨a, k, rfl⟩, ?_⟩⟩
    · obtain ⟨u, v, z1, z2, z3⟩ := g.con p hp
      exact ⟨u, v, z1, z2, fun G io => (Rep.hold h0 p.2 v (z3 G io)).2⟩
    · obtain ⟨A, e⟩ := g.excs k hk
      exact ⟨A, ⟨e.mg, e.ok, e.kp, e.bs, e.ty, e.ec, e.exm, e.ve⟩⟩
    · cases e
      exact ⟨rfl, hk, oe, A, List.mem_cons_self, hz, hf, hm⟩
    · obtain ⟨j, h1, h2⟩ := g.hots hot
      exact ⟨(a, oe), j, List.mem_cons_self, ⟨h1.dp, h1.un⟩, fun f hf' => ⟨(h2 a k oe A hk hm hz hf f hf').ex⟩⟩
/-- what the clause makes of a body's end: to the suite, or on -/
theorem try_post (h : CcX c C F X) (hot : c.hot = false) {k0 : String} (hk0 : k0 ∈ c.T.excs) {nm : Option Nat} {bd su : List Wh.St} {r : Env} {m : Mu} {W Wc : WX} {H0 G0 : Hp} {io0 : List Addr} {D : Ends} (hst : stillSs c.T.hfns su = true)
    (p : PostS C W H0 G0 io0 (ex F (.try_ bd k0 c.T.excs nm su) r m) D)
    (hno : ∀ (A : Addr) (σ : L2.St) (H : Hp) (k : String) (B : Addr), X.mg (S k0) = some (.ref B) → PySem.W.exmOne X.K (.ref A) (.ref B) = some false → W (.ref A) none σ H → Wc (.ref A) none σ H)
    (hyes : ∀ (A : Addr) (σ : L2.St) (H G : Hp) (io : List Addr) (k : String) (r1 : Env) (m1 : Mu) (B : Addr), X.mg (S k0) = some (.ref B) → PySem.W.exmOne X.K (.ref A) (.ref B) = some true → k ∈ c.T.excs → X.mg (S k) = some (.ref A) → TRel C H0 G0 io0 σ H G io r1 m1 →
      (∀ a, ∃ De : Ends, PostS (C.held a k) noW H0 G0 io0 (exs F su (match nm with
          | some i => r1.set i (.val (.exc k))
          | none => r1) m1) De ∧ (∀ v H, De.rt v H → D.rt v H) ∧ (∀ σ H, De.nx σ H → D.nx (match nm with
          | some i => σ.set i none
          | none => σ) H)) → Wc (.ref A) none σ H) : PostS C Wc H0 G0 io0 (exs F bd r m) D := by
  rw [ex] at p
  cases e : exs F bd r m with
  | nx r1 m1 => rw [e] at p; exact p
  | rt d r1 m1 => rw [e] at p; exact p
  | bad => rw [e] at p; exact p
  | exc k r1 m1 =>
    rw [e] at p
    simp only at p
    intro σ H G io A t hA
    by_cases hks : c.T.excs.contains k = false
    · rw [if_pos hks] at p; exact p.elim
    · rw [if_neg hks] at p
      have hkm : k ∈ c.T.excs := List.contains_iff_mem.mp (by simpa using hks)
      obtain ⟨A', ei⟩ := h.glb.excs k hkm
      have hmA : X.mg (S k) = some (.ref A) := by rw [h.glb.mg]; exact hA
      obtain rfl : A = A' := by
        have := hmA.symm.trans ei.mg
        cases this
        rfl
      obtain ⟨B, b1, b2, _⟩ := ei.exm k0 hk0
      by_cases hs : subx k k0 = true
      · rw [if_pos hs] at p
        rw [hs] at b2
        refine hyes A σ H G io k r1 m1 B b1 b2 hkm hmA t fun a => ?_
        obtain ⟨n1, n2, t'⟩ := t.hold (a0 := a) (k0 := k) (h.noEx hot)
        have mu := fun r' => still_Ss h.glb.keep su r' m1 hst
        cases nm with
        | some i =>
          simp only at p ⊢
          have mu := mu (r1.set i (.val (.exc k)))
          have sl := fun z => keep_Ss (F := F) su (r1.set i (.val (.exc k))) m1 z
          cases e2 : exs F su (r1.set i (.val (.exc k))) m1 with
          | bad => rw [e2] at p; exact p.elim
          | exc k2 r2 m2 => rw [e2] at p; exact p.elim
          | nx r2 m2 =>
            rw [e2] at p mu sl
            obtain rfl : m2 = m1 := mu
            by_cases hn : noAsgs su = true
            · simp only [if_pos hn] at p
              obtain rfl : r2 = r1.set i (.val (.exc k)) := sl hn
              exact ⟨{ nx := fun σ H => D.nx (σ.set i none) H, rt := D.rt }, fun σ2 H2 G2 io2 t2 => p (σ2.set i none) H2 G2 io2 (t2.drop n1 n2), fun _ _ z => z, fun _ _ z => z⟩
            · simp only [if_neg hn] at p; exact p.elim
          | rt d r2 m2 =>
            rw [e2] at p mu
            obtain rfl : m2 = m1 := mu
            by_cases hn : noX d = true
            · simp only [if_pos hn] at p
              exact ⟨{ nx := fun σ H => D.nx (σ.set i none) H, rt := D.rt }, fun v H2 G2 io2 s2 w2 q => p v H2 G2 io2 s2 (w2.drop n1) (Rep.drop d v hn q), fun _ _ z => z, fun _ _ z => z⟩
            · simp only [if_neg hn] at p; exact p.elim
        | none =>
          simp only at p ⊢
          have mu := mu r1
          have sl := fun z => keep_Ss (F := F) su r1 m1 z
          cases e2 : exs F su r1 m1 with
          | bad => rw [e2] at p; exact p.elim
          | exc k2 r2 m2 => rw [e2] at p; exact p.elim
          | nx r2 m2 =>
            rw [e2] at p mu sl
            obtain rfl : m2 = m1 := mu
            by_cases hn : noAsgs su = true
            · simp only [if_pos hn] at p
              obtain rfl : r2 = r1 := sl hn
              exact ⟨{ nx := D.nx, rt := D.rt }, fun σ2 H2 G2 io2 t2 => p σ2 H2 G2 io2 (t2.drop0 n1 n2), fun _ _ z => z, fun _ _ z => z⟩
            · simp only [if_neg hn] at p; exact p.elim
          | rt d r2 m2 =>
            rw [e2] at p mu
            obtain rfl : m2 = m1 := mu
            by_cases hn : noX d = true
            · simp only [if_pos hn] at p
              exact ⟨{ nx := D.nx, rt := D.rt }, fun v H2 G2 io2 s2 w2 q => p v H2 G2 io2 s2 (w2.drop n1) (Rep.drop d v hn q), fun _ _ z => z, fun _ _ z => z⟩
            · simp only [if_neg hn] at p; exact p.elim
      · rw [if_neg hs] at p
        rw [Bool.eq_false_iff.mpr hs] at b2
        exact hno A σ H k B b1 b2 (p σ H G io A t hA)
theorem PostS.ends {W : WX} {H0 G0 : Hp} {io0 : List Addr} {rs : Rs} {D D' : Ends} (p : PostS C W H0 G0 io0 rs D) (h1 : ∀ v H, D.rt v H → D'.rt v H) (h2 : ∀ σ H, D.nx σ H → D'.nx σ H) : PostS C W H0 G0 io0 rs D' := by
  cases rs with
  | nx r m => exact fun σ H G io t => h2 _ _ (p σ H G io t)
  | rt d r m => exact fun v H G io s w q => h1 _ _ (p v H G io s w q)
  | exc c r m => exact p
  | bad => exact p
theorem takes_su (a : Addr) (pn : List (Addr × Obj)) : Takes (X.suite a pn) noW := fun u s' ⟨_, _, _, _, _, _, _, _, _, _, _, _, _, _, _, _, w⟩ => w.elim
theorem hs_tryA (h : CcX c C F X) (hot : c.hot = false) (stk : X.stack = X.env :: X.outer) (frm : X.env.frame = some X.env.locals) {k0 : String} (hk0 : k0 ∈ c.T.excs) (hg : isGl c (S k0) = true) {v : Str} {i : Nat} (hv : kindS c v = some .local) (hi : slotTo c v = some i) {n : Nat} {body su : List Stmt} {s0 : Stmt} {bd z : List Wh.St} {np pos pos' : Pos}
    (hb : ∀ pn xe, PassesOwn (model X.prog X.w) X.A X.env xe → HSs C F (X.tr pn xe) body bd) (hz : cHs { c with hot := true } n (s0 :: su) = some z) (hst : stillSs c.T.hfns z = true) :
    HS C F X (.Try body [.ExceptHandler (some (.Name (S k0) np)) (some v) (s0 :: su) pos'] [] [] pos) (.try_ bd k0 c.T.excs (some i) z) := fun H0 G0 io0 r W tk => by
  obtain ⟨g1, g2, g3⟩ := h.gl hg
  obtain ⟨B, ei⟩ := h.glb.excs k0 hk0
  obtain ⟨k1, k2, _⟩ := h.loc hi
  have hln : X.env.kindOf v = some .local := by
    show X.env.scope.names.lookup v = _
    rw [h.sc]
    exact hv
  refine ps_mono (ps_try_as (i := i) (c := .ref B) stk frm (by rw [h.N]; exact h.nd) k1 hln ⟨g1, g2, .inl ei.mg⟩ tk (tb := fun W' => tX C W' H0 G0 io0 r (exs F bd r))
    (ts := fun a cls d D σ H => ∃ k A r1, cls = .ref A ∧ d = none ∧ k ∈ c.T.excs ∧ X.mg (S k) = some (.ref A) ∧ tX (C.held a k) noW H0 G0 io0 r1 (exs F z r1) D σ H)
    (fun W' pn xe tk' hp => hb pn xe hp H0 G0 io0 r W' tk') (fun a oe cls d pn hzc hf => ⟨fun pins s σ H D I ⟨k, A, r1, e1, e2, hk, hm, q⟩ => ?_⟩)) fun D σ H ⟨G, io, m, t, p⟩ => ⟨G, io, m, t, ?_⟩
  · subst e1 e2
    exact ((main_H n).2 _ _ (h.su hot hk hm hzc hf pn) _ _ hz H0 G0 io0 r1 noW (takes_su a _)).run pins s σ H D I q
  · refine try_post h hot hk0 hst p (fun A σ' H' k B' b1 b2 w => ?_) fun A σ' H' G' io' k r1 m1 B' b1 b2 hk hm t' hs => ?_
    · obtain rfl : B' = B := by
        have := b1.symm.trans ei.mg
        cases this
        rfl
      exact ⟨false, b2, (fun z => by cases z), fun _ => w⟩
    · obtain rfl : B' = B := by
        have := b1.symm.trans ei.mg
        cases this
        rfl
      refine ⟨true, b2, fun _ a ha => ⟨k, A, r1.set i (.val (.exc k)), rfl, rfl, hk, hm, G', io', m1, ?_, ?_⟩, fun z => by cases z⟩
      · obtain ⟨_, _, t2⟩ := t'.hold (a0 := a) (k0 := k) (h.noEx hot)
        exact t2.setVal i (d := .exc k) (v := .ref a) ⟨a, rfl, rfl⟩
      · obtain ⟨De, p2, d1, d2⟩ := hs a
        exact p2.ends d1 d2
theorem hs_tryN (h : CcX c C F X) (hot : c.hot = false) (stk : X.stack = X.env :: X.outer) (frm : X.env.frame = some X.env.locals) {k0 : String} (hk0 : k0 ∈ c.T.excs) (hg : isGl c (S k0) = true) {n : Nat} {body su : List Stmt} {s0 : Stmt} {bd z : List Wh.St} {np pos pos' : Pos}
    (hb : ∀ pn xe, PassesOwn (model X.prog X.w) X.A X.env xe → HSs C F (X.tr pn xe) body bd) (hz : cHs { c with hot := true } n (s0 :: su) = some z) (hst : stillSs c.T.hfns z = true) :
    HS C F X (.Try body [.ExceptHandler (some (.Name (S k0) np)) none (s0 :: su) pos'] [] [] pos) (.try_ bd k0 c.T.excs none z) := fun H0 G0 io0 r W tk => by
  obtain ⟨g1, g2, g3⟩ := h.gl hg
  obtain ⟨B, ei⟩ := h.glb.excs k0 hk0
  refine ps_mono (ps_try_only (c := .ref B) stk frm ⟨g1, g2, .inl ei.mg⟩ tk (tb := fun W' => tX C W' H0 G0 io0 r (exs F bd r))
    (ts := fun a cls d D σ H => ∃ k A r1, cls = .ref A ∧ d = none ∧ k ∈ c.T.excs ∧ X.mg (S k) = some (.ref A) ∧ tX (C.held a k) noW H0 G0 io0 r1 (exs F z r1) D σ H)
    (fun W' pn xe tk' hp => hb pn xe hp H0 G0 io0 r W' tk') (fun a oe cls d pn hzc hf => ⟨fun pins s σ H D I ⟨k, A, r1, e1, e2, hk, hm, q⟩ => ?_⟩)) fun D σ H ⟨G, io, m, t, p⟩ => ⟨G, io, m, t, ?_⟩
  · subst e1 e2
    exact ((main_H n).2 _ _ (h.su hot hk hm hzc hf pn) _ _ hz H0 G0 io0 r1 noW (takes_su a _)).run pins s σ H D I q
  · refine try_post h hot hk0 hst p (fun A σ' H' k B' b1 b2 w => ?_) fun A σ' H' G' io' k r1 m1 B' b1 b2 hk hm t' hs => ?_
    · obtain rfl : B' = B := by
        have := b1.symm.trans ei.mg
        cases this
        rfl
      exact ⟨false, b2, (fun z => by cases z), fun _ => w⟩
    · obtain rfl : B' = B := by
        have := b1.symm.trans ei.mg
        cases this
        rfl
      refine ⟨true, b2, fun _ a ha => ⟨k, A, r1, rfl, rfl, hk, hm, G', io', m1, ?_, ?_⟩, fun z => by cases z⟩
      · obtain ⟨_, _, t2⟩ := t'.hold (a0 := a) (k0 := k) (h.noEx hot)
        exact t2
      · obtain ⟨De, p2, d1, d2⟩ := hs a
        exact p2.ends d1 d2
end
end Wh
/-! Every statement that is compiled runs as the engine runs it. -/
namespace Wh
open PySem L2 PySem.Spec PyProof.Rows
structure StX (c : Cc) (C : Wd) (F : Fn) (X : Cx) : Prop where
  cx : CcX c C F X
  hot : c.hot = false
  stk : X.stack = X.env :: X.outer
  frm : X.env.frame = some X.env.locals
  pass : PassesOwn (model X.prog X.w) X.A X.env X.xe
  kind : X.env.scope.kind = .function
section
variable {C : Wd} {F : Fn} {X : Cx} {c : Cc}
theorem sw_par {env : PySem.Env} {x y : Str} {a b : Expr} {px py pt p2 : Pos} {kt k2 : Nat} (hk : env.scope.kind = .function) (hx : env.scope.names.lookup x = some .local) (hy : env.scope.names.lookup y = some .local) (hl : py.line = px.line) (hxy : x ≠ y)
    (hf : ¬ ([a, b].all (foldedForSure 8)) = true) (hc : ¬ ([a, b].all (constantsAlone 8)) = true) (ha : ∀ e p, a ≠ .Starred e p) (hb : ∀ e p, b ≠ .Starred e p) :
    swappedStores [.Tuple [.Name x px, .Name y py] kt pt] (.Tuple [a, b] k2 p2) env = pure (some [x, y]) := by
  have kx : env.kindOf x = some .local := hx
  have ky : env.kindOf y = some .local := hy
  have hbk : env.blockKind = .function := by unfold Env.blockKind; rw [hk]; rfl
  have hd : ([x, y] : List Str).eraseDups = [x, y] := by
    have : (y == x) = false := beq_eq_false_iff_ne.mpr (Ne.symm hxy)
    simp [List.eraseDups_cons, this]
  have f1 : ([a, b].all (foldedForSure 8)) = false := Bool.eq_false_iff.mpr hf
  have f2 : ([a, b].all (constantsAlone 8)) = false := Bool.eq_false_iff.mpr hc
  unfold swappedStores
  simp only [hbk]
  rw [if_neg (by simp), if_neg (by
    first
      | (simp only [List.any_cons, List.any_nil, Bool.or_false, Bool.or_eq_true, not_or]; exact Bool.false_ne_true)
      | (simp only [List.any_cons, List.any_nil, Bool.or_false, Bool.or_eq_true, not_or]
         refine ⟨?_, ?_⟩
         · split
           · exact absurd rfl (ha _ _)
           · exact Bool.false_ne_true
         · split
           · exact absurd rfl (hb _ _)
           · exact Bool.false_ne_true))]
  simp only [List.filterMap_cons, List.filterMap_nil, kx, ky, Expr.pos, hl, List.head?_cons, Option.map_some, Option.getD_some, beq_self_eq_true, Bool.and_self, if_true, hd, f1, f2]
  rfl
theorem not_star {c : Cc} {n : Nat} {e : Expr} {x : E} (h : cE c n e = some x) : ∀ e' p, e ≠ .Starred e' p := fun e' p z => by
  subst z
  cases n with
  | zero => exact cE_zero h
  | succ n => simp only [cE, reduceCtorEq] at h
theorem sub_assign {c : Cc} {n : Nat} {o k : Expr} {x : E} {p2 : Pos} (h : cE c n k = some x) (env : PySem.Env) : ∀ v, assign (.Subscript o k p2) env v = (do
      let ov ← holding [v] (eval o env)
      let iv ← holding [v, ov] (eval k env)
      standAt p2
      holding [v, ov, iv] (setItem ov iv v)
      release [v, ov, iv] []) := by
  cases n with
  | zero => exact (cE_zero h).elim
  | succ n => cases k <;> first | (intro v; rfl) | (simp only [cE, reduceCtorEq] at h)
theorem sole_tup {e : Expr} {es : List Expr} {k : Nat} {pt : Pos} {l : Nat} {env : PySem.Env} : swapsWithSole [.Tuple es k pt] e l env = pure false := by
  cases e <;> rfl
theorem sole_sub {e o i : Expr} {pt : Pos} {l : Nat} {env : PySem.Env} : swapsWithSole [.Subscript o i pt] e l env = pure false := by
  cases e <;> rfl
theorem swap_attr {e o : Expr} {f : Str} {pt : Pos} {l : Nat} {env : PySem.Env} : swapsWith e (some (.Attribute o f pt)) l env = pure false := by
  cases e <;> rfl
theorem stores_sub {e o i : Expr} {pt : Pos} {env : PySem.Env} : swappedStores [.Subscript o i pt] e env = pure none := by
  cases e <;> rfl
theorem hao_of {es : List Expr} {xs : List E} (h : HA C F X es xs) : HAo C F X es xs := fun r W tk => pa_mono (h r W tk) fun σ H Q ⟨G, io, m, w, sr, p⟩ => ⟨G, io, m, w, sr, p.imp fun H' G' io' d v q => by
  have go : ∀ (ds : List D) (vs : List V), RepL C G' io' ds vs → RepOs C H' G' io' ds vs := by
    intro ds
    induction ds with
    | nil => intro vs h; exact h
    | cons d ds ih =>
      intro vs h
      obtain ⟨v, r, e, q, t⟩ := h
      exact ⟨v, r, e, .inl q, ih r t⟩
  exact go d v q⟩
/-- what a for walks -/
theorem hf_of (h : CcX c C F X) {tg it : Expr} {t : Tg} {s : List E} (ht : tgOf c tg = some t) (hst : srcTg (srcOf c it).1 t = true) (w : AOk C F X (srcOf c it).2 s (HA C F X (srcOf c it).2 s) (fun e x => HE C F X e x ∧ HT C F X e x ∧ ∀ v, foldedSetIterable e X.env v = pure v)) :
    HIF C F X tg it (srcOf c it).1 s ∧ ∀ v, foldedSetIterable it X.env v = pure v := by
  have plain : (srcOf c it) = (.it, [it]) → HIF C F X tg it (srcOf c it).1 s ∧ ∀ v, foldedSetIterable it X.env v = pure v := fun e => by
    rw [e] at w ⊢
    obtain ⟨x, rfl, q1, _, q2⟩ := w.one it rfl
    exact ⟨hf_it h q1, q2⟩
  cases it <;> first | exact plain rfl | skip
  rename_i f as ks pos
  cases f <;> first | exact plain rfl | skip
  rename_i y p
  cases ks with
  | cons _ _ => exact plain rfl
  | nil =>
    by_cases h1 : isGlN c "range" y = true ∧ (as.length = 1 ∨ as.length = 2)
    · have e : srcOf c (.Call (.Name y p) as [] pos) = (.rng, as) := by
        show (if _ then _ else _) = _
        rw [if_pos h1]
      rw [e] at w ⊢
      obtain ⟨h1, hl⟩ := h1
      unfold isGlN at h1
      rw [Bool.and_eq_true, decide_eq_true_eq] at h1
      obtain ⟨rfl, hg⟩ := h1
      refine ⟨?_, fun _ => rfl⟩
      rcases as with _ | ⟨a, _ | ⟨b, _ | ⟨_, _⟩⟩⟩
      · simp at hl
      · exact hf_rng1 h hg w.len w.ha fun es' => w.star es' a List.mem_cons_self
      · exact hf_rng2 h hg w.len w.ha (fun es' => w.star es' a List.mem_cons_self) fun es' => w.star es' b (List.mem_cons_of_mem _ List.mem_cons_self)
      · simp at hl
    by_cases h2 : isGlN c "enumerate" y = true ∧ as.length = 1
    · have e : srcOf c (.Call (.Name y p) as [] pos) = (.enum, as) := by
        show (if _ then _ else if _ then _ else _) = _
        rw [if_neg h1, if_pos h2]
      rw [e] at w hst ⊢
      obtain ⟨h2, hl⟩ := h2
      unfold isGlN at h2
      rw [Bool.and_eq_true, decide_eq_true_eq] at h2
      obtain ⟨rfl, hg⟩ := h2
      refine ⟨?_, fun _ => rfl⟩
      rcases as with _ | ⟨a, _ | ⟨_, _⟩⟩
      · simp at hl
      · cases tg <;> simp only [tgOf, reduceCtorEq] at ht
        · obtain ⟨i, _, rfl⟩ := Option.map_eq_some_iff.mp ht
          cases hst
        · exact hf_enum h hg w.len w.ha fun es' => w.star es' a List.mem_cons_self
      · simp at hl
    by_cases h3 : isGlN c "zip" y = true ∧ as.length = 2
    · have e : srcOf c (.Call (.Name y p) as [] pos) = (.zip, as) := by
        show (if _ then _ else if _ then _ else if _ then _ else _) = _
        rw [if_neg h1, if_neg h2, if_pos h3]
      rw [e] at w hst ⊢
      obtain ⟨h3, hl⟩ := h3
      unfold isGlN at h3
      rw [Bool.and_eq_true, decide_eq_true_eq] at h3
      obtain ⟨rfl, hg⟩ := h3
      refine ⟨?_, fun _ => rfl⟩
      rcases as with _ | ⟨a, _ | ⟨b, _ | ⟨_, _⟩⟩⟩
      · simp at hl
      · simp at hl
      · cases tg <;> simp only [tgOf, reduceCtorEq] at ht
        · obtain ⟨i, _, rfl⟩ := Option.map_eq_some_iff.mp ht
          cases hst
        · exact hf_zip h hg w.len w.ha (fun es' => w.star es' a List.mem_cons_self) fun es' => w.star es' b (List.mem_cons_of_mem _ List.mem_cons_self)
      · simp at hl
    · refine plain ?_
      show (if _ then _ else if _ then _ else if _ then _ else _) = _
      rw [if_neg h1, if_neg h2, if_neg h3]
/-- name = e -/
theorem asg_of (h : StX c C F X) {n : Nat} {e : Expr} {y : E} {x : Str} {i : Nat} {p' pos : Pos} (hi : slotTo c x = some i) (he : cE c n e = some y) (hl : ¬ ((lcOf e).isSome = true ∧ isFresh y = false)) :
    PVw C F X (.Assign [.Name x p'] e pos) i y ∧ (isFresh y = true → PNw C F X (.Assign [.Name x p'] e pos) i y) := by
  have q := (main_E n).1 c X h.cx e y he
  have plain : swapsWith e (some (.Name x p')) pos.line X.env = pure false → PVw C F X (.Assign [.Name x p'] e pos) i y ∧ (isFresh y = true → PNw C F X (.Assign [.Name x p'] e pos) i y) := fun hs => ⟨pv_set h.cx hi q.he hs, fun z => pn_set h.cx hi (q.hn z) hs⟩
  cases e <;> first | exact plain rfl | (cases n <;> simp only [cE, reduceCtorEq] at he; done) | skip
  rename_i elt gs scope lpos
  have hfr : isFresh y = true := by
    cases hf : isFresh y with
    | true => rfl
    | false => exact absurd ⟨rfl, hf⟩ hl
  have hsw : swapsWith (.ListComp elt gs scope lpos) (some (.Name x p')) pos.line X.env = pure (X.env.blockKind == .function && X.env.kindOf x == some .local && p'.line == lpos.line && !(scope.names.any fun (n, k) => n == x && (k == .local || k == .cell))) := rfl
  cases hb : (X.env.blockKind == .function && X.env.kindOf x == some .local && p'.line == lpos.line && !(scope.names.any fun (n, k) => n == x && (k == .local || k == .cell))) with
  | false => rw [hb] at hsw; exact plain hsw
  | true =>
    rw [hb] at hsw
    simp only [Bool.and_eq_true, beq_iff_eq] at hb
    have hloc : X.env.scope.names.lookup x = some .local := hb.1.1.2
    -- the comprehension's parts
    cases n with
    | zero => exact (cE_zero he).elim
    | succ n =>
      simp only [cE] at he
      rcases gs with _ | ⟨⟨tg, it, ifs, as⟩, _ | ⟨_, _⟩⟩
      · cases he
      · simp only at he
        split at he
        · rename_i h0
          obtain ⟨⟨has, hif⟩, _⟩ := h0
          subst has
          obtain ⟨t, e1, he⟩ := Option.bind_eq_some_iff.mp he
          split at he
          · rename_i hb2
            obtain ⟨hbk, hst⟩ := hb2
            obtain ⟨s, e2, he⟩ := Option.bind_eq_some_iff.mp he
            obtain ⟨cs, e3, he⟩ := Option.bind_eq_some_iff.mp he
            obtain ⟨z, e4, rfl⟩ := Option.map_eq_some_iff.mp he
            obtain ⟨IE, _, IA, IAo, _⟩ := main_E n
            obtain ⟨hi2, fs⟩ := hi_of (n := n) h.cx ⟨_, e1⟩ hst (IAo c X h.cx _ _ e2)
            have L : LcOk c C F X elt tg it ifs scope z t (srcOf c it).1 s cs := lc_ok h.cx h.hot e1 hbk hi2 (fun X' h' => by
              have w := IA _ X' h' _ _ e3
              rcases ifs with _ | ⟨i, _ | ⟨_, _⟩⟩
              · obtain rfl : cs = [] := List.eq_nil_of_length_eq_zero w.len
                exact hts_nil
              · obtain ⟨z, rfl, _, q, _⟩ := w.one i rfl
                exact hts_one q
              · simp at hif) (fun X' h' => (IE _ X' h' _ _ e4).he) fs
            have nb : boxIf c lpos (.comp z t (srcOf c it).1 s cs (tgIx t)) = .comp z t (srcOf c it).1 s cs (tgIx t) := by
              unfold boxIf at hfr ⊢
              split at hfr
              · cases hfr
              · rename_i hnb
                rw [if_neg hnb]
            rw [nb]
            have pn := pn_setLc (p' := p') (pos := lpos) (spos := pos) h.cx hi hloc L hsw
            exact ⟨pn.pv, fun _ => pn⟩
          · cases he
        · cases he
      · cases he
theorem main_S : ∀ n,
    (∀ c X, StX c C F X → ∀ st s, cS c n st = some s → HS C F X st s) ∧ (∀ c X, StX c C F X → ∀ sts ss, cSs c n sts = some ss → HSs C F X sts ss)
  | 0 => ⟨fun c X h st s hx => (by rw [cS] at hx; cases hx), fun c X h st s hx => (by rw [cSs] at hx; cases hx)⟩
  | n + 1 => by
    obtain ⟨IS, ISs⟩ := main_S n
    obtain ⟨IE, IB, IA, IAo, IO⟩ := main_E (C := C) (F := F) n
    refine ⟨fun c X h st s hx => ?_, fun c X h sts ss hx => ?_⟩
    · have hK := h.cx.glb.K
      have hu := h.cx.glb.units
      cases st <;> simp only [cS, reduceCtorEq] at hx
      case Pass pos =>
        cases hx
        exact hs_pass
      case Expr e pos =>
        cases e <;> first | (cases hx; done) | skip
        rename_i f as ks cpos
        cases f <;> first | (cases hx; done) | skip
        · rename_i o mth apos
          have any : (cE c n (.Call (.Attribute o mth apos) as ks cpos)).map (fun x => fzIf (vE c.mu x) (.expr x)) = some s → HS C F X (.Expr (.Call (.Attribute o mth apos) as ks cpos) pos) s := fun hx => by
            obtain ⟨x, e1, rfl⟩ := Option.map_eq_some_iff.mp hx
            exact hs_fzIf (hs_expr (IE c X h.cx _ _ e1).he rfl)
          rcases as with _ | ⟨a, _ | ⟨_, _⟩⟩
          · cases ks with
            | cons _ _ => cases hx
            | nil => exact any hx
          · cases ks with
            | cons _ _ => cases hx
            | nil =>
              simp only at hx
              split at hx
              · rename_i hl
                split at hx
                · rename_i hm
                  subst hm
                  obtain ⟨x, e1, hx⟩ := Option.bind_eq_some_iff.mp hx
                  obtain ⟨y, e2, rfl⟩ := Option.map_eq_some_iff.mp hx
                  exact hs_fzIf (hs_app hK (IE c X h.cx _ _ e1).hl (IE c X h.cx _ _ e2).he (base_of h.cx e1 _ _) hl fun es => star_of e2 es X.env)
                · split at hx
                  · rename_i hm
                    subst hm
                    obtain ⟨x, e1, hx⟩ := Option.bind_eq_some_iff.mp hx
                    obtain ⟨y, e2, rfl⟩ := Option.map_eq_some_iff.mp hx
                    exact hs_fzIf (hs_ext hK (IE c X h.cx _ _ e1).hl (IE c X h.cx _ _ e2).ho (base_of h.cx e1 _ _) hl fun es => star_of e2 es X.env)
                  · exact any hx
              · cases hx
          · cases ks with
            | cons _ _ => cases hx
            | nil => exact any hx
        · rename_i y p
          obtain ⟨x, e1, rfl⟩ := Option.map_eq_some_iff.mp hx
          exact hs_fzIf (hs_expr (IE c X h.cx _ _ e1).he rfl)
      case Return v pos =>
        cases v with
        | none => cases hx; exact hs_retN
        | some e =>
          obtain ⟨x, e1, rfl⟩ := Option.map_eq_some_iff.mp hx
          exact hs_fzIf (hs_ret (IE c X h.cx _ _ e1).he)
      case Assign ts e pos =>
        rcases ts with _ | ⟨t, _ | ⟨_, _⟩⟩
        · cases hx
        · cases t <;> first | (cases hx; done) | skip
          case Name x p' =>
            obtain ⟨i, e1, hx⟩ := Option.bind_eq_some_iff.mp hx
            obtain ⟨y, e2, hx⟩ := Option.bind_eq_some_iff.mp hx
            split at hx
            · cases hx
            · rename_i hl
              cases hx
              obtain ⟨q1, q2⟩ := asg_of (p' := p') (pos := pos) h e1 e2 hl
              exact hs_fzIf (hs_asg q1 fun z => q2 (by rw [Bool.and_eq_true] at z; exact z.2))
          case Tuple es k pt =>
            obtain ⟨is, e1, hx⟩ := Option.bind_eq_some_iff.mp hx
            have plain : (cE c n e).map (fun x => fzIf (vE c.mu (bor c x)) (.unp is (bor c x))) = some s → swappedStores [.Tuple es k pt] e X.env = pure none → HS C F X (.Assign [.Tuple es k pt] e pos) s := fun hx hw => by
              obtain ⟨x, e2, rfl⟩ := Option.map_eq_some_iff.mp hx
              exact hs_fzIf (hs_unp h.cx h.hot e1 (IE c X h.cx _ _ e2).ho sole_tup hw)
            cases e <;> first | exact plain hx rfl | skip
            rename_i vs k2 p2
            simp only at hx
            split at hx
            · rename_i i j x px y py a b
              split at hx
              · rename_i hc
                obtain ⟨c1, c2, c3, c4, c5, c6⟩ := hc
                obtain ⟨xa, e2, hx⟩ := Option.bind_eq_some_iff.mp hx
                obtain ⟨xb, e3, rfl⟩ := Option.map_eq_some_iff.mp hx
                have s1 : slotTo c x = some i ∧ slotTo c y = some j := by
                  rw [List.mapM_cons] at e1
                  obtain ⟨i', f1, e1⟩ := Option.bind_eq_some_iff.mp e1
                  obtain ⟨is', f2, e1⟩ := Option.bind_eq_some_iff.mp e1
                  rw [List.mapM_cons] at f2
                  obtain ⟨j', f3, f2⟩ := Option.bind_eq_some_iff.mp f2
                  obtain ⟨js', f4, f2⟩ := Option.bind_eq_some_iff.mp f2
                  cases f2
                  cases e1
                  exact ⟨f1, f3⟩
                have hxy : x ≠ y := fun z => by
                  subst z
                  have := s1.1.symm.trans s1.2
                  cases this
                  exact c6 rfl
                refine hs_fzIf (hs_par h.cx h.hot s1.1 s1.2 c6 c1 c2 (IE c X h.cx _ _ e2).he (IE c X h.cx _ _ e3).he (fun es => star_of e2 es X.env) (fun es => star_of e3 es X.env) ?_)
                exact sw_par h.kind (by rw [h.cx.sc]; exact c1) (by rw [h.cx.sc]; exact c2) c3 hxy c4 c5 (not_star e2) (not_star e3)
              · cases hx
            · cases hx
          case Attribute o f p2 =>
            obtain ⟨y, e1, hx⟩ := Option.bind_eq_some_iff.mp hx
            obtain ⟨x, e2, hx⟩ := Option.bind_eq_some_iff.mp hx
            obtain ⟨g, e3, rfl⟩ := Option.map_eq_some_iff.mp hx
            obtain ⟨m1, rfl⟩ := nameIn_ok e3
            exact hs_fzIf (hs_setf h.cx m1 (IE c X h.cx _ _ e2).hl (IE c X h.cx _ _ e1).he swap_attr)
          case Subscript o k p2 =>
            obtain ⟨y, e1, hx⟩ := Option.bind_eq_some_iff.mp hx
            obtain ⟨x, e2, hx⟩ := Option.bind_eq_some_iff.mp hx
            obtain ⟨z, e3, rfl⟩ := Option.map_eq_some_iff.mp hx
            exact hs_fzIf (hs_seti hu (IE c X h.cx _ _ e2).hl (IE c X h.cx _ _ e3).he (IE c X h.cx _ _ e1).he sole_sub stores_sub (sub_assign e3 X.env))
        · cases hx
      case If t a b pos =>
        obtain ⟨x, e1, hx⟩ := Option.bind_eq_some_iff.mp hx
        obtain ⟨y, e2, hx⟩ := Option.bind_eq_some_iff.mp hx
        obtain ⟨z, e3, rfl⟩ := Option.map_eq_some_iff.mp hx
        exact hs_fzIf (hs_ife (IE c X h.cx _ _ e1).ht (ISs c X h _ _ e2) (ISs c X h _ _ e3))
      case For tg it b els pos =>
        cases els with
        | cons _ _ => cases hx
        | nil =>
          obtain ⟨t, e1, hx⟩ := Option.bind_eq_some_iff.mp hx
          split at hx
          · rename_i hst
            obtain ⟨sx, e2, hx⟩ := Option.bind_eq_some_iff.mp hx
            obtain ⟨y, e3, rfl⟩ := Option.map_eq_some_iff.mp hx
            obtain ⟨hi, fs⟩ := hf_of h.cx e1 hst (IA c X h.cx _ _ e2)
            exact hs_fzIf (hs_for h.cx h.hot h.pass e1 hi (ISs c X h _ _ e3) fs)
          · cases hx
      case While t b els pos =>
        cases els with
        | cons _ _ => cases hx
        | nil =>
          obtain ⟨x, e1, hx⟩ := Option.bind_eq_some_iff.mp hx
          obtain ⟨y, e2, rfl⟩ := Option.map_eq_some_iff.mp hx
          exact hs_whl h.pass (IE c X h.cx _ _ e1).ht (ISs c X h _ _ e2)
      case Raise e ca pos =>
        cases e with
        | none => cases hx
        | some e =>
          cases e <;> first | (cases hx; done) | skip
          rename_i f as ks cpos
          cases f <;> first | (cases hx; done) | skip
          rename_i y p
          rcases as with _ | ⟨a, _ | ⟨_, _⟩⟩
          · cases hx
          · cases a <;> first | (cases hx; done) | skip
            rename_i cst jj p2
            cases cst <;> first | (cases hx; done) | skip
            cases ks with
            | cons _ _ => cases hx
            | nil =>
              cases ca with
              | some _ => cases hx
              | none =>
                simp only at hx
                split at hx
                · rename_i hg
                  obtain ⟨g, e1, rfl⟩ := Option.map_eq_some_iff.mp hx
                  obtain ⟨m1, rfl⟩ := nameIn_ok e1
                  exact hs_raise h.cx h.hot m1 hg.1
                · cases hx
          · cases a <;> first | (cases hx; done) | skip
            rename_i cst jj p2
            cases cst <;> cases hx
      case Try b hs els fin pos =>
        rcases hs with _ | ⟨hd, _ | ⟨_, _⟩⟩
        · cases hx
        · obtain ⟨ty, nm, su, hpos⟩ := hd
          cases ty with
          | none => cases hx
          | some ty =>
            cases ty <;> first | (cases hx; done) | skip
            rename_i x np
            cases su with
            | nil => cases hx
            | cons s0 su =>
              cases els with
              | cons _ _ => cases hx
              | nil =>
                cases fin with
                | cons _ _ => cases hx
                | nil =>
                  simp only at hx
                  split at hx
                  · rename_i hg
                    obtain ⟨k0, e1, hx2⟩ := Option.bind_eq_some_iff.mp hx
                    clear hx
                    have hx := hx2
                    clear hx2
                    obtain ⟨m1, rfl⟩ := nameIn_ok e1
                    have body : ∀ y, cSs c n b = some y → ∀ pn xe, PassesOwn (model X.prog X.w) X.A X.env xe → HSs C F (X.tr pn xe) b y := fun y ey pn xe hp => ISs c (X.tr pn xe) ⟨h.cx.tr h.hot pn xe, h.hot, h.stk, h.frm, hp, h.kind⟩ _ _ ey
                    cases nm with
                    | none =>
                      simp only at hx
                      obtain ⟨y, e2, hx⟩ := Option.bind_eq_some_iff.mp hx
                      obtain ⟨z, e3, hx⟩ := Option.bind_eq_some_iff.mp hx
                      split at hx
                      · rename_i hst
                        cases hx
                        exact hs_tryN h.cx h.hot h.stk h.frm m1 hg.1 (body y e2) e3 hst
                      · cases hx
                    | some v =>
                      simp only at hx
                      split at hx
                      · rename_i hv
                        obtain ⟨i, e4, hx⟩ := Option.bind_eq_some_iff.mp hx
                        obtain ⟨y, e2, hx⟩ := Option.bind_eq_some_iff.mp hx
                        obtain ⟨z, e3, hx⟩ := Option.bind_eq_some_iff.mp hx
                        split at hx
                        · rename_i hst
                          cases hx
                          exact hs_tryA h.cx h.hot h.stk h.frm m1 hg.1 hv e4 (body y e2) e3 hst
                        · cases hx
                      · cases hx
                  · cases hx
        · obtain ⟨ty, nm, su, hpos⟩ := hd
          cases ty with
          | none => cases hx
          | some ty => cases ty <;> first | (cases hx; done) | (cases su <;> cases hx)
    · cases sts with
      | nil =>
        simp only [cSs] at hx
        cases hx
        exact hss_nil
      | cons st sts =>
        simp only [cSs] at hx
        obtain ⟨s, e1, hx⟩ := Option.bind_eq_some_iff.mp hx
        obtain ⟨ss', e2, rfl⟩ := Option.map_eq_some_iff.mp hx
        exact hss_cons (IS c X h _ _ e1) (ISs c X h _ _ e2)
end
end Wh
/-! An __init__ that stores its fields. -/
namespace Wh
open PySem L2 PySem.Spec PyProof.Rows
section
variable {C : Wd} {F : Fn} {X : Cx} {c : Cc}
/-- an object off what is told is changed -/
theorem WRel.offW {H G : Hp} {io : List Addr} {m : Mu} (w : WRel C H G io m) {x : Addr} {u : HO} (hg : G x = none) (hi : x ∉ io) : WRel C (upd H x u) G io m where
  sub := fun a z e => by
    have ne : a ≠ x := fun q => by subst q; rw [hg] at e; cases e
    have q := w.sub a z e
    cases z <;> first
      | (rw [upd_ne ne]; exact q)
      | (rcases q with q | ⟨o, q⟩
         · exact .inl (by rw [upd_ne ne]; exact q)
         · exact .inr ⟨o, by rw [upd_ne ne]; exact q⟩)
  nofrz := w.nofrz
  len := w.len
  nd := w.nd
  off := w.off
  box := fun n a l d h1 h2 => by
    have ne : a ≠ x := fun q => by subst q; exact hi (List.mem_of_getElem? h1)
    obtain ⟨v, ob, hr, hx, hf, ht⟩ := w.box n a l d h1 h2
    refine ⟨v, ob, ?_, fun A dx fs z => by rw [upd_ne ne]; exact hx A dx fs z, fun z => by rw [upd_ne ne]; exact hf z, fun z => by rw [upd_ne ne]; exact ht z⟩
    rcases hr with q | ⟨o, q⟩
    · exact .inl (by rw [upd_ne ne]; exact q)
    · exact .inr ⟨o, by rw [upd_ne ne]; exact q⟩
theorem Step.offW {H0 G0 H G : Hp} {io0 io : List Addr} (s : Step H0 G0 io0 H G io) {x : Addr} {u : HO} (h0 : H0 x = none) : Step H0 G0 io0 (upd H x u) G io where
  ext := fun a o e n => by rw [upd_ne (ne_of_none e h0)]; exact s.ext a o e n
  alive := fun a e => by
    by_cases q : a = x
    · subst q; exact h0
    · rw [upd_ne q] at e; exact s.alive a e
  g := s.g
  gnew := s.gnew
  pre := s.pre
  new := s.new
theorem SRel.offW {H G : Hp} {io : List Addr} {σ : L2.St} {r : Env} (s : SRel C σ H G io r) (hr : ∀ i d, slot r i ≠ .own d) {x : Addr} {u : HO} : SRel C σ (upd H x u) G io r := ⟨s.len, fun i => by
  have q := s.at_ i
  cases e : slot r i with
  | no => trivial
  | val d => rw [e] at q; exact q
  | own d => exact absurd e (hr i d)⟩
/-- what is left to be stored -/
def tIni (C : Wd) (F : Fn) (x dx A : Addr) (H1 G0 : Hp) (io0 : List Addr) (r : Env) (fs : List (String × E)) (acc : List (String × D)) : TS := fun D σ H => ∃ G io m fvs, σ[0]? = some (some (.ref x)) ∧ H x = some (.ins A dx fvs) ∧ RepF C G io acc fvs ∧ G x = none ∧ x ∉ io ∧ WRel C H G io m ∧ Step H1 G0 io0 H G io ∧ SRel C σ H G io r ∧ acc.length + fs.length < 200 ∧
  ∃ acc' m', iniF F r fs acc m = .ok acc' m' ∧ ∀ H' G' io' fvs', Step H1 G0 io0 H' G' io' → WRel C H' G' io' m' → H' x = some (.ins A dx fvs') → RepF C G' io' acc' fvs' → G' x = none → x ∉ io' → D.nx σ H'
theorem setFd_len (f : String) (d : D) : ∀ (l : List (String × D)), (setFd f d l).length ≤ l.length + 1
  | [] => by simp [setFd]
  | (g, y) :: l => by
    rw [setFd]
    split
    · simp
    · have := setFd_len f d l
      simp only [List.length_cons]
      omega
theorem ini_ok (h : CcX c C F X) {x dx A : Addr} {k0 : String} (isc : C.isC k0 A) {H1 G0 : Hp} {io0 : List Addr} (hx1 : H1 x = none) {r : Env} (hr : ∀ i d, slot r i ≠ .own d) (tk : Takes X noW) : ∀ {sts : List Stmt} {fs : List (String × E)} (acc : List (String × D)), sts.mapM (cIni1 c) = some fs → PSs X sts (tIni C F x dx A H1 G0 io0 r fs acc)
  | [], fs, acc, hm => by
    have hm : some [] = some fs := by simpa using hm
    cases hm
    refine pss_mono pss_nil fun D σ H ⟨G, io, m, fvs, s0, hx, rf, hg, hi, w, st, sr, _, acc', m', e, fin⟩ => ?_
    rw [iniF] at e
    cases e
    exact fin H G io fvs st w hx rf hg hi
  | st0 :: sts, fs, acc, hm => by
    rw [List.mapM_cons] at hm
    obtain ⟨fe, e1, hm⟩ := Option.bind_eq_some_iff.mp hm
    obtain ⟨fs', e2, hm⟩ := Option.bind_eq_some_iff.mp hm
    cases hm
    obtain ⟨f, y⟩ := fe
    unfold cIni1 at e1
    split at e1
    · rename_i z p1 g p2 e p3
      split at e1
      · rename_i hz
        obtain ⟨g', eg, e1⟩ := Option.bind_eq_some_iff.mp e1
        obtain ⟨y', ey, e1⟩ := Option.map_eq_some_iff.mp e1
        cases e1
        obtain ⟨mf, rfl⟩ := nameIn_ok eg
        obtain ⟨k1, k2⟩ := h.vis hz.1
        have ok := hz.2
        unfold okName at ok
        simp only [Bool.and_eq_true, Bool.not_eq_true'] at ok
        have he := ((main_E (C := C) (F := F) fuelC).1 c X h e y ey).he
        have ih := fun acc' => ini_ok h isc hx1 hr tk acc' e2 (dx := dx) (G0 := G0) (io0 := io0)
        have nxt : PSs X sts (fun D σ H => ∃ acc', tIni C F x dx A H1 G0 io0 r fs' acc' D σ H) := ⟨fun pins s σ H D I ⟨acc', q⟩ => (ih acc').run pins s σ H D I q⟩
        refine pss_mono (pss_cons (ps_fld (pe_var (pos := p1) k1 k2 ok.1.1 ok.1.2) (he r noW tk) swap_attr) nxt) fun D σ H ⟨G, io, m, fvs, s0, hx, rf, hg, hi, w, st, sr, hl, acc', m', ei, fin⟩ => ?_
        rw [iniF] at ei
        refine ⟨G, io, m, w, sr, ?_⟩
        cases ev1 : ev F y r m with
        | bad => rw [ev1] at ei; cases ei
        | exc k2 m2 => rw [ev1] at ei; cases ei
        | ok d m1 =>
          rw [ev1] at ei
          have ei : iniF F r fs' (setFd f d acc) m1 = .ok acc' m' := ei
          intro v H2 G2 io2 s2 w2 rd
          have hx2 : H2 x = some (.ins A dx fvs) := s2.ext x _ hx fun z => absurd z hi
          have hg2 : G2 x = none := s2.offG (.inl hx) hg
          have hi2 : x ∉ io2 := s2.offIo hx hi
          have rf2 : RepF C G2 io2 acc fvs := RepF.mono s2.g s2.pre acc fvs rf
          obtain ⟨c1, c2⟩ := h.glb.cls _ A isc
          have ll := RepF.length rf2
          simp only [List.length_cons] at hl
          refine ⟨.ref x, s0, x, A, dx, fvs, rfl, hx2, c1, c2 f mf, by omega, setFd f d acc, G2, io2, m1, putF (S f) v fvs, s0, upd_same, RepF.put f rd rf2, hg2, hi2, w2.offW hg2 hi2, (st.trans s2).offW hx1, (sr.step s2).offW hr, ?_, acc', m', ei, fin⟩
          have := setFd_len f d acc
          omega
      · cases e1
    · cases e1
end
end Wh
/-! Defs: each runs as the engine runs it, level by level. -/
namespace Wh
open PySem L2 PySem.Spec PyProof.Rows
theorem zip_look {α : Type} : ∀ {ps : List Str} {us : List α}, us.length = ps.length → ∀ n ∈ ps, ((ps.zip us).lookup n).isSome = true
  | [], _, _, n, h => by cases h
  | p :: ps, [], hl, n, h => by simp at hl
  | p :: ps, u :: us, hl, n, h => by
    rw [List.zip_cons_cons, List.lookup_cons]
    cases e : n == p with
    | true => rfl
    | false =>
      rcases List.mem_cons.mp h with rfl | h
      · simp at e
      · exact zip_look (by simpa using hl) n h
theorem zip_find {α : Type} : ∀ {ps : List Str} {us : List α}, ps.Nodup → us.length = ps.length → (ps.filterMap fun n => ((ps.zip us).lookup n).map fun v => (n, v)) = ps.zip us
  | [], us, _, _ => rfl
  | p :: ps, [], _, hl => by simp at hl
  | p :: ps, u :: us, hn, hl => by
    obtain ⟨h1, h2⟩ := List.nodup_cons.mp hn
    have ih := zip_find (ps := ps) (us := us) h2 (by simpa using hl)
    rw [List.zip_cons_cons, List.filterMap_cons, List.lookup_cons, beq_self_eq_true]
    simp only [Option.map_some]
    congr 1
    have go : ∀ l : List Str, p ∉ l → (l.filterMap fun n => (((p, u) :: ps.zip us).lookup n).map fun v => (n, v)) = l.filterMap fun n => ((ps.zip us).lookup n).map fun v => (n, v) := by
      intro l
      induction l with
      | nil => intro _; rfl
      | cons n l ihl =>
        intro hp
        have e : (n == p) = false := beq_eq_false_iff_ne.mpr fun z => hp (z ▸ List.mem_cons_self)
        rw [List.filterMap_cons, List.filterMap_cons, List.lookup_cons, e, ihl fun z => hp (List.mem_cons_of_mem _ z)]
    rw [go ps h1, ih]
theorem bind_plain {fd : FuncData} {as : List Arg} {us : List Value} (hp : fd.params = ⟨[], as, none, [], [], none, []⟩) (hd : fd.defaults = .none) (hn : (as.map (·.arg)).Nodup) (hl : us.length = as.length) :
    bindArgs fd ⟨us, []⟩ = pure ((as.map (·.arg)).zip us) := by
  have hl' : us.length = (as.map (·.arg)).length := by rw [List.length_map]; exact hl
  have hm : ((as.map (·.arg)).filter fun n => (((as.map (·.arg)).zip us).lookup n).isNone) = [] := by
    rw [List.filter_eq_nil_iff]
    intro n hn
    have := zip_look hl' n hn
    rw [Bool.not_eq_true, Option.isNone_eq_false_iff]
    exact this
  have hz := zip_find hn hl'
  have hs : seqItems? .none = pure none := rfl
  unfold bindArgs
  simp only [hp, hd, hs, List.map_nil, List.nil_append, List.append_nil, pure_bind, List.forIn_nil, Option.getD_none, List.drop_nil, List.length_nil, Nat.sub_zero, List.take_length, hm, List.isEmpty_nil, Bool.not_true, Option.isNone_none, Bool.and_true, hl, hz, List.zip_nil_right, List.length_map, gt_iff_lt, Nat.lt_irrefl, decide_false, Bool.false_eq_true, if_false]
  have ht : List.take as.length (as.map (·.arg)) = as.map (·.arg) := List.take_of_length_le (by rw [List.length_map]; exact Nat.le_refl _)
  rw [ht, hm, if_neg (by simp)]
/-! ### scopes -/
def scOk (N ps : List Str) (sc : Scope) : Bool := (match sc.kind with
  | .function => true
  | _ => false) && !sc.isCoroutine && !sc.isGenerator && decide N.Nodup && decide (N.take ps.length = ps) && (ps.all fun x => sc.names.lookup x == some .local || sc.names.lookup x == some .cell) && sc.names.all fun y => !(y.2 == .free)
theorem scOk_ok {N ps : List Str} {sc : Scope} (h : scOk N ps sc = true) : FnScope N ps sc := by
  unfold scOk at h
  simp only [Bool.and_eq_true, Bool.not_eq_true', decide_eq_true_eq, List.all_eq_true, Bool.or_eq_true, beq_iff_eq] at h
  obtain ⟨⟨⟨⟨⟨⟨h1, h2⟩, h3⟩, h4⟩, h5⟩, h6⟩, h7⟩ := h
  refine ⟨?_, h2, h3, h4, h5, h6, fun y hy z => ?_⟩
  · split at h1
    · assumption
    · cases h1
  · have q := h7 y hy
    rw [z] at q
    cases q
/-- what is called: a def, a method, an __init__ -/
inductive Kd where
  | fn | met (c m : String) | ini (c : String)
  deriving DecidableEq
def Kd.isI : Kd → Bool
  | .ini _ => true
  | _ => false
structure Df where
  key : String
  name : String
  qual : String
  kd : Kd
  st : Stmt
abbrev Df.ps (d : Df) : List Str := parsOf (defArgs d.st)
def cDf (T : Tb) (d : Df) : Option Fd := if d.kd.isI = true then cDefI T d.st else cDef T false d.st
/-- plain: no default, no star -/
structure DfOk (T : Tb) (d : Df) (fd : Fd) : Prop where
  as : ∃ as : List Arg, defArgs d.st = ⟨[], as, none, [], [], none, []⟩
  comp : cDf T d = some fd
  sc : scOk (ccOf T d.st).N d.ps (defScope d.st) = true
def dfOk (T : Tb) (st : Stmt) : Bool := (match defArgs st with
  | ⟨[], _, none, [], [], none, []⟩ => true
  | _ => false) && scOk (ccOf T st).N (parsOf (defArgs st)) (defScope st)
theorem dfOk_ok {T : Tb} {d : Df} {fd : Fd} (h : dfOk T d.st = true) (hc : cDf T d = some fd) : DfOk T d fd := by
  unfold dfOk at h
  rw [Bool.and_eq_true] at h
  refine ⟨?_, hc, h.2⟩
  have h1 := h.1
  split at h1
  · rename_i as e; exact ⟨as, e⟩
  · cases h1
abbrev IsAt (C : Wd) (d : Df) (a : Addr) (fdat : FuncData) : Prop := FunD C.K (S d.name) (S d.qual) (defArgs d.st) (defBody d.st) (defScope d.st) [] [] a fdat
section
variable {P : Program} {w : World} {base : Heap} {C : Wd} {T : Tb}
/-- the table of a text: what it binds, as it stands -/
structure TabOk (T : Tb) (TF : String → Option Fd) (C : Wd) (ds : List Df) : Prop where
  fns : ∀ f ∈ T.fns, ∃ d ∈ ds, d.kd = .fn ∧ d.key = f
  mets : ∀ q ∈ T.mets, ∀ k ∈ q.2, ∃ d ∈ ds, d.kd = .met k q.1 ∧ d.key = k ++ "." ++ q.1
  clss : ∀ k ∈ T.cls, ∃ d ∈ ds, d.kd = .ini k ∧ d.key = k
  hfns : ∀ f ∈ T.hfns, f ∈ T.fns ∧ ∀ d ∈ ds, d.key = f → d.kd = .fn ∧ ∃ fd, TF f = some fd ∧ cDefH T d.st = some fd ∧ stillSs T.hfns fd.bd = true
  df : ∀ d ∈ ds, ∃ fd, TF d.key = some fd ∧ DfOk T d fd
  fun_ : ∀ d ∈ ds, ∃ a fdat, IsAt C d a fdat ∧ (match d.kd with
    | .fn => C.mg (S d.key) = some (.ref a)
    | .met k m => ∀ A, C.isC k A → Meth C.K A (S m) a
    | .ini k => ∃ A, C.mg (S k) = some (.ref A) ∧ C.isC k A ∧ Mk C.K A a)
  blt : ∀ x ∈ bltNames, C.mg (S x) = none
  con : ∀ p ∈ T.con, ∃ u v, C.mg (S p.1) = some u ∧ RelV v u ∧ ∀ G io, Rep C G io p.2 v
  cls : ∀ k A, C.isC k A → Cls C.K A ∧ ∀ f ∈ T.flds, NoAttr C.K A (S f)
  sup : "super" ∉ T.fns ∧ "super" ∉ T.cls ∧ "super" ∉ T.hfns
  excs : ∀ k ∈ T.excs, ∃ A, ∀ X : Cx, X.K = C.K → X.mg = C.mg → ExcIs T X k A
  noex : C.ex = none
theorem start_get {N : List Str} {vs : List V} {i : Nat} {v : V} (h : vs[i]? = some v) : (L2.start N vs)[i]? = some (some v) := by
  unfold L2.start
  have hi := (List.getElem?_eq_some_iff.mp h).1
  rw [List.getElem?_append_left (by rw [List.length_map]; exact hi), List.getElem?_map, h] <;> rfl
theorem startE_slot {fd : Fd} {ds : List D} {i : Nat} : slot (startE fd ds) i = (match ds[i]? with
    | some d => .val d
    | none => .no) := by
  unfold slot startE
  cases e : ds[i]? with
  | some d =>
    have hi := (List.getElem?_eq_some_iff.mp e).1
    rw [List.getElem?_append_left (by rw [List.length_map]; exact hi), List.getElem?_map, e] <;> rfl
  | none =>
    have hi := List.getElem?_eq_none_iff.mp e
    rw [List.getElem?_append_right (by rw [List.length_map]; exact hi)]
    cases e2 : (List.replicate (fd.ns - ds.length) Sl.no)[i - (ds.map Sl.val).length]? with
    | none => rfl
    | some s =>
      have := List.getElem?_replicate (a := Sl.no) (n := fd.ns - ds.length) (i := i - (ds.map Sl.val).length)
      rw [this] at e2
      split at e2
      · cases e2; rfl
      · cases e2
/-- all that holds at a level -/
structure Lv (P : Program) (w : World) (base : Heap) (T : Tb) (TF : String → Option Fd) (C : Wd) (ds : List Df) (k : Nat) : Prop where
  fn : ∀ d ∈ ds, d.kd.isI = false → ∀ a fdat, IsAt C d a fdat → FnOk P w C.K C.mg base (L2.CX P w) k a fdat d.ps (spF C (Phi TF k) d.key d.ps.length)
  new : ∀ d ∈ ds, ∀ c, d.kd = .ini c → d.key = c → ∀ A, C.isC c A → ∀ a fdat, IsAt C d a fdat → (∀ xs m, Phi TF k c xs m = .bad) ∨ ∃ j, j + 1 ≤ k ∧ FnOk P w C.K C.mg base (L2.CX P w) j a fdat d.ps (spI C (Phi TF k) c A d.ps.length)
  hot : ∀ d ∈ ds, d.key ∈ T.hfns → ∀ a fdat, IsAt C d a fdat → ∀ (a0 : Addr) (e : String) (oe : Obj) (A : Addr), e ∈ T.excs → C.mg (S e) = some (.ref A) → Zc (.ref A) none oe → (∃ vs, oe.data = .fields vs) → FnX P w C.K C.mg base k a fdat d.ps (spF (C.held a0 e) (Phi TF k) d.key d.ps.length) (a0, oe)
  keep : KeepF T.hfns (Phi TF k)
  len : ∀ d ∈ ds, d.kd.isI = false → ∀ xs m, Phi TF k d.key xs m ≠ .bad → xs.length = d.ps.length
  lenI : ∀ d ∈ ds, d.kd.isI = true → ∀ xs m, Phi TF k d.key xs m ≠ .bad → xs.length + 1 = d.ps.length
theorem DfOk.binds {d : Df} {fd : Fd} (D0 : DfOk T d fd) {a : Addr} {fdat : FuncData} (FD : IsAt C d a fdat) : Binds C.K fdat d.ps [] ∧ ∀ (s : Shared) (us : List Value), us.length = d.ps.length → BindsTo s fdat ⟨us, []⟩ (d.ps.zip us) := by
  have Sc := scOk_ok D0.sc
  obtain ⟨as, eas⟩ := D0.as
  have epar : d.ps = as.map (·.arg) := by show parsOf (defArgs d.st) = _; rw [eas]; rfl
  have hnd : d.ps.Nodup := by
    rw [← Sc.pre]
    exact Sc.nd.sublist (List.take_sublist _ _)
  have bnd : ∀ (kV doc pm : Value) (an : Option Addr) (cdv ct : Value) (us : List Value), us.length = d.ps.length → bindArgs (PySem.W.fnOf (S d.name) (S d.qual) (defArgs d.st) (defBody d.st) (defScope d.st) .none kV doc pm an cdv ct) ⟨us, []⟩ = pure (d.ps.zip us) := fun kV doc pm an cdv ct us hl => by
    rw [epar] at hl ⊢
    exact bind_plain (fd := PySem.W.fnOf (S d.name) (S d.qual) (defArgs d.st) (defBody d.st) (defScope d.st) .none kV doc pm an cdv ct) eas rfl (by rw [← epar]; exact hnd) (by rw [List.length_map] at hl; exact hl)
  exact ⟨FD.bindsN bnd, fun s us hl => FunD.bindsA FD bnd s us hl⟩
/-- what a body finds, nothing being handled -/
theorem lv_glb {TF : String → Option Fd} {ds : List Df} {k : Nat} (t : TabOk T TF C ds) (lv : Lv P w base T TF C ds k) {X : Cx} (hP : X.prog = P) (hw : X.w = w) (hK : X.K = C.K) (hM : X.mg = C.mg) (hB : X.base = base) (hr : Room k X.A) (hc : X.calm = true) : Glb T false C (Phi TF k) X := by
  subst hP hw hB
  have hu := hr.un
  refine ⟨hK, hM, fun _ => hc, by omega, by rw [hM]; exact t.blt, by rw [hM]; exact t.con, by rw [hK]; exact t.cls, t.sup, fun e he => ?_, fun _ => ⟨k, hr, fun f hf => ?_, fun c A i q hq hk => ?_, fun c hk => ?_⟩, fun a e z => ?_, lv.keep, fun _ => ⟨k, L2H.roomH_of hr, fun a e oe A z1 z2 z3 z4 f hf => ?_⟩, fun z => absurd z Bool.false_ne_true⟩
  · obtain ⟨A, h⟩ := t.excs e he
    exact ⟨A, h X hK hM⟩
  · obtain ⟨d, hd, e1, e2⟩ := t.fns f hf
    obtain ⟨a, fdat, FD, mg⟩ := t.fun_ d hd
    obtain ⟨fd, _, D0⟩ := t.df d hd
    rw [e1] at mg
    have hi : d.kd.isI = false := by rw [e1] <;> rfl
    subst e2
    refine ⟨a, fdat, d.ps, ?_, ?_, ?_, ?_, lv.len d hd hi⟩
    · rw [hM]; exact mg
    · rw [hK]; exact FD.kp
    · rw [hK]; exact (D0.binds FD).1
    · rw [hK, hM]; exact lv.fn d hd hi a fdat FD
  · obtain ⟨d, hd, e1, e2⟩ := t.mets q hq c hk
    obtain ⟨a, fdat, FD, mt⟩ := t.fun_ d hd
    obtain ⟨fd, _, D0⟩ := t.df d hd
    rw [e1] at mt
    have hi : d.kd.isI = false := by rw [e1] <;> rfl
    refine ⟨a, fdat, d.ps, ?_, ?_, ?_, ?_⟩
    · rw [hK]; exact mt A i
    · rw [hK]; exact (D0.binds FD).1
    · rw [hK, hM, ← e2]; exact lv.fn d hd hi a fdat FD
    · rw [← e2]; exact lv.len d hd hi
  · obtain ⟨d, hd, e1, e2⟩ := t.clss c hk
    obtain ⟨a, fdat, FD, mt⟩ := t.fun_ d hd
    obtain ⟨fd, _, D0⟩ := t.df d hd
    rw [e1] at mt
    obtain ⟨A, m1, m2, m3⟩ := mt
    have hi : d.kd.isI = true := by rw [e1] <;> rfl
    refine ⟨A, by rw [hM]; exact m1, by rw [hK]; exact m3.kp, ?_⟩
    rcases lv.new d hd c e1 e2 A m2 a fdat FD with z | ⟨j, hj, FO⟩
    · exact .inl z
    · refine .inr ⟨j, hj, ⟨A, a, fdat, d.ps, by rw [hM]; exact m1, m2, by rw [hK]; exact m3, by rw [hK]; exact (D0.binds FD).1, by rw [hK, hM]; exact FO, ?_⟩⟩
      rw [← e2]
      exact lv.lenI d hd hi
  · rw [t.noex] at z; cases z
  · obtain ⟨hff, hall⟩ := t.hfns f hf
    obtain ⟨d, hd, e1, e2⟩ := t.fns f hff
    obtain ⟨a', fdat, FD, mg⟩ := t.fun_ d hd
    obtain ⟨fd, _, D0⟩ := t.df d hd
    rw [e1] at mg
    have hi : d.kd.isI = false := by rw [e1] <;> rfl
    subst e2
    refine ⟨a', fdat, d.ps, by rw [hM]; exact mg, by rw [hK]; exact FD.kp, by rw [hK]; exact (D0.binds FD).1, ?_, lv.len d hd hi⟩
    rw [hK, hM]
    exact lv.hot d hd hf a' fdat FD a e oe A z1 (by rw [← hM]; exact z2) z3 z4
theorem phi_fn {TF : String → Option Fd} {f : String} {fd : Fd} {xs : List D} {m : Mu} (k : Nat) (h : TF f = some fd) (hi : fd.ini = false) : Phi TF (k + 1) f xs m = runFd (Phi TF k) f fd xs m := by
  cases k with
  | zero =>
    show (match TF f with
      | some fd => if fd.ini = true then Res.bad else runFd (Phi TF 0) f fd xs m
      | none => Res.bad) = _
    rw [h]
    show (if fd.ini = true then _ else _) = _
    rw [hi]
    rfl
  | succ k =>
    show (match TF f with
      | some fd => if fd.ini = true then runFd (Phi TF k) f fd xs m else runFd (Phi TF (k + 1)) f fd xs m
      | none => .bad) = _
    rw [h]
    show (if fd.ini = true then _ else _) = _
    rw [hi]
    rfl
theorem phi_in {TF : String → Option Fd} {f : String} {fd : Fd} {xs : List D} {m : Mu} (k : Nat) (h : TF f = some fd) (hi : fd.ini = true) : Phi TF (k + 2) f xs m = runFd (Phi TF k) f fd xs m := by
  show (match TF f with
      | some fd => if fd.ini = true then runFd (Phi TF k) f fd xs m else runFd (Phi TF (k + 1)) f fd xs m
      | none => .bad) = _
  rw [h]
  show (if fd.ini = true then _ else _) = _
  rw [hi]
  rfl
theorem phi_in1 {TF : String → Option Fd} {f : String} {fd : Fd} {xs : List D} {m : Mu} (h : TF f = some fd) (hi : fd.ini = true) : Phi TF 1 f xs m = .bad := by
  show (match TF f with
      | some fd => if fd.ini = true then Res.bad else runFd (Phi TF 0) f fd xs m
      | none => Res.bad) = _
  rw [h]
  show (if fd.ini = true then _ else _) = _
  rw [hi]
  rfl
/-- a body at its start -/
theorem srel_start {N : List Str} {fd : Fd} {xs : List D} {vs : List V} {H G : Hp} {io : List Addr} (hn : fd.ns = N.length) (rl : RepL C G io xs vs) : SRel C (L2.start N vs) H G io (startE fd xs) := by
  refine ⟨?_, fun i => ?_⟩
  · show (vs.map some ++ List.replicate (N.length - vs.length) none).length = (xs.map Sl.val ++ List.replicate (fd.ns - xs.length) Sl.no).length
    rw [List.length_append, List.length_append, List.length_map, List.length_map, List.length_replicate, List.length_replicate, rl.length, hn]
  · rw [startE_slot]
    cases e : xs[i]? with
    | none => trivial
    | some d =>
      obtain ⟨v, e1, e2⟩ := rl.get e
      exact ⟨v, start_get e1, e2⟩
theorem startE_own {fd : Fd} {xs : List D} (i : Nat) (d : D) : slot (startE fd xs) i ≠ .own d := fun e => by
  rw [startE_slot] at e
  split at e <;> cases e
theorem trel_start {N : List Str} {fd : Fd} {xs : List D} {vs : List V} {H G : Hp} {io : List Addr} {m : Mu} (hn : fd.ns = N.length) (wr : WRel C H G io m) (rl : RepL C G io xs vs) : TRel C H G io (L2.start N vs) H G io (startE fd xs) m :=
  ⟨wr, Step.refl _ _ _, srel_start hn rl, fun i d e => absurd e (startE_own i d), fun i j di dj b e => absurd e (startE_own i di)⟩
/-- the engine's def, its end -/
theorem post_fd {F : Fn} {f : String} {fd : Fd} (hi : fd.ini = false) {xs : List D} {m : Mu} (hl : xs.length = fd.np) {W : WX} {E : XK} {H G : Hp} {io : List Addr} {Q : VK} (p : Post C (fun c d _ H => E c d H) [] H G io (rRep C) (runFd F f fd xs m) Q) :
    PostS C (fun c d _ H => E c d H) H G io (exs F fd.bd (startE fd xs) m) { nx := fun _ H' => Q .non H', rt := Q } := by
  unfold runFd at p
  rw [hi, if_neg Bool.false_ne_true, if_pos hl] at p
  cases e3 : exs F fd.bd (startE fd xs) m with
  | bad => rw [e3] at p; exact p
  | nx r' m' =>
    rw [e3] at p
    exact fun σ' H' G' io' t' => p .non H' G' io' t'.s t'.w rfl
  | rt d r' m' =>
    rw [e3] at p
    exact fun v H' G' io' s' w' q => p v H' G' io' s' w' q
  | exc c r' m' =>
    rw [e3] at p
    exact fun σ' H' G' io' A' t' e => p H' G' io' A' t'.s t'.w e
theorem cDf_fn {d : Df} {fd : Fd} (h : cDf T d = some fd) (hi : d.kd.isI = false) : fd.np = d.ps.length ∧ fd.ini = false ∧ fd.ns = (ccOf T d.st).N.length ∧ cSs (ccOf T d.st) fuelC (defBody d.st) = some fd.bd := by
  unfold cDf at h
  rw [hi, if_neg Bool.false_ne_true] at h
  unfold cDef at h
  obtain ⟨bd, e2, rfl⟩ := Option.map_eq_some_iff.mp h
  exact ⟨rfl, rfl, rfl, e2⟩
theorem cDf_in {d : Df} {fd : Fd} (h : cDf T d = some fd) (hi : d.kd.isI = true) : fd.np = d.ps.length ∧ fd.ini = true ∧ fd.ns = (ccOf T d.st).N.length ∧ 0 < d.ps.length ∧ (defBody d.st).length < 100 ∧ ∃ fs, (defBody d.st).mapM (cIni1 (ccOf T d.st)) = some fs ∧ fd.bd = [.flds fs] := by
  unfold cDf at h
  rw [hi, if_pos rfl] at h
  unfold cDefI at h
  split at h
  · rename_i hz
    obtain ⟨fs, e2, rfl⟩ := Option.map_eq_some_iff.mp h
    exact ⟨rfl, rfl, rfl, hz.1, hz.2, fs, e2, rfl⟩
  · cases h
theorem mapM_len {α β : Type} {f : α → Option β} : ∀ {l : List α} {r : List β}, l.mapM f = some r → r.length = l.length
  | [], r, h => by
    have h : some [] = some r := by simpa using h
    cases h
    rfl
  | x :: l, r, h => by
    rw [List.mapM_cons] at h
    obtain ⟨b, e1, h⟩ := Option.bind_eq_some_iff.mp h
    obtain ⟨bs, e2, h⟩ := Option.bind_eq_some_iff.mp h
    cases h
    rw [List.length_cons, List.length_cons, mapM_len e2]
theorem fn_body {TF : String → Option Fd} {ds : List Df} {k : Nat} (t : TabOk T TF C ds) (lv : Lv P w base T TF C ds k) {d : Df} (hd : d ∈ ds) (hi : d.kd.isI = false) {a : Addr} {fdat : FuncData} (FD : IsAt C d a fdat) :
    FnOk P w C.K C.mg base (L2.CX P w) (k + 1) a fdat d.ps (spF C (Phi TF (k + 1)) d.key d.ps.length) := by
  obtain ⟨fd, e1, D0⟩ := t.df d hd
  have Sc := scOk_ok D0.sc
  obtain ⟨n1, n2, n3, n4⟩ := cDf_fn D0.comp hi
  refine FD.ok (k := k) Sc (fun vs H Q E h => h.1) fun cdv A outer s H vs Q E hr h => ?_
  obtain ⟨hl, G, io, m, xs, wr, rl, p⟩ := h
  have cx : StX (ccOf T d.st) C (Phi TF k) (cxOf (L2.CX P w) P w C.K C.mg base (ccOf T d.st).N (S d.qual) (defScope d.st) a cdv A outer s H E) :=
    ⟨⟨rfl, rfl, Sc.nd, fun _ _ => rfl, lv_glb t lv rfl rfl rfl rfl rfl hr rfl⟩, rfl, rfl, rfl, passes_of rfl, Sc.kind⟩
  have hs := (main_S (C := C) (F := Phi TF k) fuelC).2 (ccOf T d.st) _ cx (defBody d.st) fd.bd n4
  have tk : Takes (cxOf (L2.CX P w) P w C.K C.mg base (ccOf T d.st).N (S d.qual) (defScope d.st) a cdv A outer s H E) (fun cls d _ H => E cls d H) := takes_of rfl rfl rfl rfl
  have hxl : xs.length = fd.np := by rw [n1, ← hl, rl.length]
  rw [phi_fn k e1 n2] at p
  exact ⟨_, hs H G io (startE fd xs) _ tk, G, io, m, trel_start n3 wr rl, post_fd (W := noW) n2 hxl p⟩
theorem in_body {TF : String → Option Fd} {ds : List Df} {k : Nat} (t : TabOk T TF C ds) (lv : Lv P w base T TF C ds k) {d : Df} (hd : d ∈ ds) {c : String} (hk : d.kd = .ini c) (hkey : d.key = c) {A0 : Addr} (isc : C.isC c A0) {a : Addr} {fdat : FuncData} (FD : IsAt C d a fdat) :
    FnOk P w C.K C.mg base (L2.CX P w) (k + 1) a fdat d.ps (spI C (Phi TF (k + 2)) c A0 d.ps.length) := by
  obtain ⟨fd, e1, D0⟩ := t.df d hd
  have Sc := scOk_ok D0.sc
  obtain ⟨n1, n2, n3, n5, n6, fs, n7, n8⟩ := cDf_in D0.comp (by rw [hk] <;> rfl)
  refine FD.ok (k := k) Sc (fun vs H Q E h => h.1) fun cdv A outer s H vs Q E hr h => ?_
  obtain ⟨hl, x, dx, rest, H1, G, io, m, xs, d1, m', rfl, rfl, hx, hdx, hne, wr, rl, eF, fin⟩ := h
  have cx : CcX (ccOf T d.st) C (Phi TF k) (cxOf (L2.CX P w) P w C.K C.mg base (ccOf T d.st).N (S d.qual) (defScope d.st) a cdv A outer s (upd (upd H1 dx (.own x)) x (.ins A0 dx [])) E) :=
    ⟨rfl, rfl, Sc.nd, fun _ _ => rfl, lv_glb t lv rfl rfl rfl rfl rfl hr rfl⟩
  have tk : Takes (cxOf (L2.CX P w) P w C.K C.mg base (ccOf T d.st).N (S d.qual) (defScope d.st) a cdv A outer s (upd (upd H1 dx (.own x)) x (.ins A0 dx [])) E) noW := fun u s' ⟨_, _, _, _, _, _, _, _, _, _, _, _, _, _, _, _, w⟩ => w.elim
  have hle : xs.length + 1 = fd.np := by
    have := rl.length
    simp only [List.length_cons] at hl
    omega
  rw [← hkey] at eF
  rw [phi_in k e1 n2] at eF
  unfold runFd at eF
  rw [n2, if_pos rfl, if_pos hle, n8] at eF
  obtain ⟨acc, m2, e3, e4⟩ := bind_some' eF
  cases e4
  have e3 : iniF (Phi TF k) (.no :: startE ⟨true, 0, fd.ns - 1, []⟩ xs) fs [] m = .ok acc m' := e3
  have own0 : ∀ i d, slot (.no :: startE ⟨true, 0, fd.ns - 1, []⟩ xs) i ≠ .own d := fun i d e => by
    cases i with
    | zero => cases e
    | succ i => exact startE_own i d e
  have hb := ini_ok cx isc (x := x) (dx := dx) (A := A0) (H1 := H1) (G0 := G) (io0 := io) hx own0 tk [] n7
  refine ⟨_, hb, G, io, m, [], ?_, upd_same, rfl, wr.freshG hx, wr.freshIo hx, ?_, ?_, ?_, ?_, acc, m', e3, fun H' G' io' fvs' st w' hu rf hg hn => ?_⟩
  · exact start_get (i := 0) (v := .ref x) rfl
  · have hx2 : (upd H1 dx (.own x)) x = none := by rw [upd_ne (Ne.symm hne)]; exact hx
    exact (wr.laid hdx).laid hx2
  · have hx2 : (upd H1 dx (.own x)) x = none := by rw [upd_ne (Ne.symm hne)]; exact hx
    exact (upd_step hdx).trans (upd_step hx2)
  · refine ⟨?_, fun i => ?_⟩
    · show ((V.ref x :: rest).map some ++ List.replicate ((ccOf T d.st).N.length - (rest.length + 1)) none).length = (Sl.no :: (xs.map Sl.val ++ List.replicate (fd.ns - 1 - xs.length) Sl.no)).length
      have := rl.length
      simp only [List.length_append, List.length_map, List.length_replicate, List.length_cons]
      have hpre : d.ps.length ≤ (ccOf T d.st).N.length := by
        have := congrArg List.length Sc.pre
        rw [List.length_take] at this
        omega
      omega
    · cases i with
      | zero => trivial
      | succ i =>
        show (match slot (startE ⟨true, 0, fd.ns - 1, []⟩ xs) i with
          | .no => True
          | .val d => _
          | .own d => _)
        rw [startE_slot]
        cases e : xs[i]? with
        | none => trivial
        | some dd =>
          obtain ⟨v, z1, z2⟩ := rl.get e
          exact ⟨v, start_get (i := i + 1) (by simpa using z1), z2⟩
  · have := mapM_len n7
    simp only [List.length_nil]
    omega
  · exact fin H' G' io' (.ins A0 dx fvs') st w' hu ⟨by rw [hkey]; exact isc, rf⟩ hg hn
theorem hot_body {TF : String → Option Fd} {ds : List Df} {k : Nat} (t : TabOk T TF C ds) (lv : Lv P w base T TF C ds k) {d : Df} (hd : d ∈ ds) (hh : d.key ∈ T.hfns) {a : Addr} {fdat : FuncData} (FD : IsAt C d a fdat) {a0 A0 : Addr} {e : String} {oe : Obj} (he : e ∈ T.excs) (hm : C.mg (S e) = some (.ref A0)) (hz : Zc (.ref A0) none oe) (hf : ∃ vs, oe.data = .fields vs) :
    FnX P w C.K C.mg base (k + 1) a fdat d.ps (spF (C.held a0 e) (Phi TF (k + 1)) d.key d.ps.length) (a0, oe) := by
  obtain ⟨fd, e1, D0⟩ := t.df d hd
  have Sc := scOk_ok D0.sc
  obtain ⟨_, hh2⟩ := t.hfns d.key hh
  obtain ⟨hkd, fd', e1', hcH, _⟩ := hh2 d hd rfl
  obtain rfl : fd = fd' := by
    rw [e1] at e1'
    cases e1'
    rfl
  have hi : d.kd.isI = false := by rw [hkd] <;> rfl
  obtain ⟨n1, n2, n3, _⟩ := cDf_fn D0.comp hi
  unfold cDefH at hcH
  obtain ⟨bd, n4, hfd⟩ := Option.map_eq_some_iff.mp hcH
  have hbd : fd.bd = bd := by rw [← hfd]
  refine fnx_of (k := k) FD Sc (fun vs H Q E h => h.1) fun cdv A outer s H vs Q E hr h => ?_
  obtain ⟨hl, G, io, m, xs, wr, rl, p⟩ := h
  have hu := hr.un
  have cx : CcX { ccOf T d.st with hot := true } (C.held a0 e) (Phi TF k) (L2H.cxH (L2.CX P w) P w C.K C.mg base (ccOf T d.st).N (S d.qual) (defScope d.st) a cdv A outer s H E (a0, oe)) := by
    refine ⟨rfl, rfl, Sc.nd, fun _ _ => rfl, ⟨rfl, rfl, fun z => absurd z Bool.noConfusion, ?_, t.blt, fun p hp => ?_, t.cls, t.sup, fun k hk => ?_, fun z => absurd z Bool.noConfusion, fun a' k' z => ?_, lv.keep, fun z => absurd z Bool.noConfusion, fun _ => ⟨⟨a0, e, rfl⟩, (a0, oe), k, List.mem_cons_self, hr, fun f hf' => ?_⟩⟩⟩
    · have : (L2H.cxH (L2.CX P w) P w C.K C.mg base (ccOf T d.st).N (S d.qual) (defScope d.st) a cdv A outer s H E (a0, oe)).A.units + 16 * k + 200 < cLine := hu
      omega
    · obtain ⟨u, v, z1, z2, z3⟩ := t.con p hp
      exact ⟨u, v, z1, z2, fun G io => (Rep.hold t.noex p.2 v (z3 G io)).2⟩
    · obtain ⟨A, h⟩ := t.excs k hk
      exact ⟨A, h _ rfl rfl⟩
    · cases z
      exact ⟨rfl, he, oe, A0, List.mem_cons_self, hz, hf, hm⟩
    · obtain ⟨hff, _⟩ := t.hfns f hf'
      obtain ⟨d', hd', e3, e4⟩ := t.fns f hff
      obtain ⟨a', fdat', FD', mg'⟩ := t.fun_ d' hd'
      obtain ⟨fd2, _, D2⟩ := t.df d' hd'
      rw [e3] at mg'
      have hi' : d'.kd.isI = false := by rw [e3] <;> rfl
      subst e4
      exact ⟨a', fdat', d'.ps, mg', FD'.kp, (D2.binds FD').1, lv.hot d' hd' hf' a' fdat' FD' a0 e oe A0 he hm hz hf, lv.len d' hd' hi'⟩
  have hs := (main_H (C := C.held a0 e) (F := Phi TF k) fuelC).2 _ _ cx (defBody d.st) bd n4
  have tk : Takes (L2H.cxH (L2.CX P w) P w C.K C.mg base (ccOf T d.st).N (S d.qual) (defScope d.st) a cdv A outer s H E (a0, oe)) (fun cls d _ H => E cls d H) := takes_of rfl rfl rfl rfl
  have hxl : xs.length = fd.np := by rw [n1, ← hl, rl.length]
  rw [phi_fn k e1 n2] at p
  have q := post_fd (W := noW) n2 hxl p
  rw [hbd] at q
  exact ⟨_, hs H G io (startE fd xs) _ tk, G, io, m, trel_start n3 wr rl, q⟩
theorem lv_all {TF : String → Option Fd} {ds : List Df} (t : TabOk T TF C ds) : ∀ k, Lv P w base T TF C ds k
  | 0 => by
    refine ⟨fun d hd hi a fdat FD => ⟨fun vs H Q E h => h.1, fun A outer s H args us vs Q E _ _ _ _ h => ?_⟩, fun d hd c e1 e2 A i a fdat FD => .inl fun _ _ => rfl, fun d hd hh a fdat FD a0 e oe A z1 z2 z3 z4 => ⟨fun vs H Q E h => h.1, fun A outer s H args us vs Q E _ _ _ _ _ h => ?_⟩, fun f hf ds m d m' z => (by cases z), fun d hd hi xs m z => absurd rfl z, fun d hd hi xs m z => absurd rfl z⟩
    · obtain ⟨_, G, io, m, xs, _, _, p⟩ := h
      exact p.elim
    · obtain ⟨_, G, io, m, xs, _, _, p⟩ := h
      exact p.elim
  | k + 1 => by
    have lv := lv_all t k
    have lenF : ∀ d ∈ ds, d.kd.isI = false → ∀ xs m, Phi TF (k + 1) d.key xs m ≠ .bad → xs.length = d.ps.length := fun d hd hi xs m hne => by
      obtain ⟨fd, e1, D0⟩ := t.df d hd
      obtain ⟨n1, n2, _⟩ := cDf_fn D0.comp hi
      rw [phi_fn k e1 n2] at hne
      unfold runFd at hne
      rw [n2, if_neg Bool.false_ne_true] at hne
      by_cases hl : xs.length = fd.np
      · rw [hl, n1]
      · rw [if_neg hl] at hne; exact absurd rfl hne
    refine ⟨fun d hd hi a fdat FD => fn_body t lv hd hi FD, fun d hd c e1 e2 A i a fdat FD => ?_, fun d hd hh a fdat FD a0 e oe A z1 z2 z3 z4 => hot_body t lv hd hh FD z1 z2 z3 z4, fun f hf xs m dd m' hq => ?_, lenF, fun d hd hi xs m hne => ?_⟩
    · cases k with
      | zero =>
        obtain ⟨fd, e3, D0⟩ := t.df d hd
        obtain ⟨_, n2, _⟩ := cDf_in D0.comp (by rw [e1] <;> rfl)
        rw [e2] at e3
        exact .inl fun xs m => phi_in1 e3 n2
      | succ k => exact .inr ⟨k + 1, Nat.le_refl _, in_body t (lv_all t k) hd e1 e2 i FD⟩
    · have hf' := List.contains_iff_mem.mp hf
      obtain ⟨hff, hh2⟩ := t.hfns f hf'
      obtain ⟨d, hd, e3, e4⟩ := t.fns f hff
      obtain ⟨fd, e1, D0⟩ := t.df d hd
      obtain ⟨_, fd', e1', _, hst⟩ := hh2 d hd e4
      rw [e4] at e1
      obtain rfl : fd = fd' := by
        rw [e1] at e1'
        cases e1'
        rfl
      obtain ⟨_, n2, _⟩ := cDf_fn D0.comp (by rw [e3] <;> rfl)
      rw [phi_fn k e1 n2] at hq
      unfold runFd at hq
      rw [n2, if_neg Bool.false_ne_true] at hq
      split at hq
      · have mu := still_Ss lv.keep fd.bd (startE fd xs) m hst
        cases e5 : exs (Phi TF k) fd.bd (startE fd xs) m with
        | bad => rw [e5] at hq; cases hq
        | exc c r' m2 => rw [e5] at hq; cases hq
        | nx r' m2 => rw [e5] at hq mu; cases hq; exact mu
        | rt d r' m2 => rw [e5] at hq mu; cases hq; exact mu
      · cases hq
    · obtain ⟨fd, e3, D0⟩ := t.df d hd
      obtain ⟨n1, n2, _⟩ := cDf_in D0.comp hi
      cases k with
      | zero => rw [phi_in1 e3 n2] at hne; exact absurd rfl hne
      | succ k =>
        rw [phi_in k e3 n2] at hne
        unfold runFd at hne
        rw [n2, if_pos rfl] at hne
        by_cases hl : xs.length + 1 = fd.np
        · rw [hl, n1]
        · rw [if_neg hl] at hne; exact absurd rfl hne
end
end Wh
/-! The head: what the top leaves, told by facts; a law's end. -/
namespace Wh
open PySem L2 PySem.Spec PyProof.Rows
/-- a head's data: facts, defs, tuples of the module, classes of errors -/
structure Hd where
  fa : List He.Fa
  fn : List He.DefD
  tp : List (Str × List He.Dv)
  ex : List String
def noLst (K : PySem.W.Frag) : Bool := K.all fun p => match p.2.cls with
  | .type c => !(c == "list")
  | _ => true
/-- what isinstance asks of a class of errors -/
def exB (K : PySem.W.Frag) (ex : List String) (e : String) : Bool :=
  He.eqO (PySem.W.findIn K (.ref (He.ga K (S e))) "__getattribute__") (some (some (.builtin "BaseException.__getattribute__"))) && He.eqO (PySem.W.findIn K (.ref (He.ga K (S e))) "__getattr__") (some none) && PySem.W.hasDictIn K (He.ga K (S e)) &&
  He.eqO (PySem.W.findIn K (.ref (He.ga K (S e))) "__class__") (some (some (.builtin "object.__class__"))) && He.eqO (PySem.W.specialIn K (.builtin "object.__class__") "__get__") (some (some (.builtin "getset_descriptor.__get__"))) && decide (PySem.W.takesIn K (.builtin "object.__class__") = some true) &&
  decide (PySem.W.mroIn K (He.ga K (S e)) (.type "object") = some true) && decide (PySem.W.kitOne K (.ref (He.ga K (S e))) (.type "ValueError") = some (subx e "ValueError")) && ex.all fun d => decide (PySem.W.kitOne K (.ref (He.ga K (S e))) (.ref (He.ga K (S d))) = some (subx e d))
def obsL (h : Hd) (K : PySem.W.Frag) : Bool × He.AlD := (noLst K && (h.tp.all fun t => He.tupB K t.1 t.2) && h.ex.all fun e => exB K h.ex e, He.obsD h.fa h.fn K)
def valL (h : Hd) : Bool × He.AlD := (true, He.valD h.fn)
def SaysL (h : Hd) (K : PySem.W.Frag) : Prop := obsL h K = valL h
def obsLG (n : Nat) (h : Hd) (g : Addr → Option Obj) : Bool × He.AlD := obsL h (He.frG g (He.asD g n))
def hookL (n : Nat) (hd : Hd) : PySem.W.Hook where
  α := Bool × He.AlD
  obs := fun s => obsLG n hd s.heap.get?
  val := fun _ => valL hd
  says := fun _ h => ∃ K : PySem.W.Frag, K.In h ∧ SaysL hd K
  of := fun _ _ e => ⟨_, He.frG_in, e⟩
  keeps := fun _ _ _ ⟨K, hK, c⟩ k => ⟨K, PySem.W.Frag.In.keeps hK k, c⟩
theorem obsLG_eq {n : Nat} {hd : Hd} {g : Addr → Option Obj} {s : Shared} (h : ∀ a, g a = s.heap.get? a) : obsLG n hd g = (hookL n hd).obs s := by
  have e : g = s.heap.get? := funext h
  rw [e] <;> rfl
/-- .. of a part of the heap whose addresses are told -/
def obsLA (as : List Addr) (h : Hd) (g : Addr → Option Obj) : Bool × He.AlD := obsL h (He.frG g as)
def hookA (as : List Addr) (hd : Hd) : PySem.W.Hook where
  α := Bool × He.AlD
  obs := fun s => obsLA as hd s.heap.get?
  val := fun _ => valL hd
  says := fun _ h => ∃ K : PySem.W.Frag, K.In h ∧ SaysL hd K
  of := fun _ _ e => ⟨_, He.frG_in, e⟩
  keeps := fun _ _ _ ⟨K, hK, c⟩ k => ⟨K, PySem.W.Frag.In.keeps hK k, c⟩
theorem obsLA_eq {as : List Addr} {hd : Hd} {g : Addr → Option Obj} {s : Shared} (h : ∀ a, g a = s.heap.get? a) : obsLA as hd g = (hookA as hd).obs s := by
  have e : g = s.heap.get? := funext h
  rw [e] <;> rfl
/-- a run's looks, one behind the other -/
theorem run_parts {σ α β γ : Type} {o : Option σ} {f1 : σ → α} {f2 : σ → β} {f3 : σ → Bool} {f4 f5 : σ → Bool} {f6 : σ → γ} {a : α} {b : β} {c : γ}
    (h1 : o.map (fun s => (f1 s, f2 s, f3 s)) = some (a, b, true)) (h2 : o.map f4 = some true) (h3 : o.map (fun s => (f5 s, f6 s)) = some (true, c)) : o.map (fun s => (f1 s, f2 s, (f3 s, (f4 s && f5 s, f6 s)))) = some (a, b, (true, (true, c))) := by
  cases o with
  | none => cases h1
  | some s =>
    have h1 : some (f1 s, f2 s, f3 s) = some (a, b, true) := h1
    have h2 : some (f4 s) = some true := h2
    have h3 : some (f5 s, f6 s) = some (true, c) := h3
    simp only [Option.some.injEq, Prod.mk.injEq] at h1 h2 h3
    obtain ⟨e1, e2, e3⟩ := h1
    obtain ⟨e5, e6⟩ := h3
    show some (f1 s, f2 s, (f3 s, (f4 s && f5 s, f6 s))) = _
    rw [e1, e2, e3, h2, e5, e6] <;> rfl
theorem look_mem {α : Type} : ∀ {l : List (Addr × α)} {a : Addr} {o : α}, l.lookup a = some o → (a, o) ∈ l
  | [], a, o, h => by cases h
  | (b, x) :: l, a, o, h => by
    rw [List.lookup_cons] at h
    cases e : a == b with
    | true =>
      rw [e] at h
      cases h
      rw [eq_of_beq e]
      exact List.mem_cons_self
    | false =>
      rw [e] at h
      exact List.mem_cons_of_mem _ (look_mem h)
section
variable {hd : Hd} {K : PySem.W.Frag}
theorem SaysL.d (c : SaysL hd K) : He.SaysD hd.fa hd.fn K := congrArg (fun z : Bool × He.AlD => z.2) c
theorem SaysL.fact (c : SaysL hd K) {f : He.Fa} (h : f ∈ hd.fa) : f.ok K = true := by
  obtain ⟨i, hi⟩ := List.getElem?_of_mem h
  exact c.d.fact i hi
theorem SaysL.def_ (c : SaysL hd K) {d : He.DefD} (h : d ∈ hd.fn) : ∃ fd, FunD K d.name d.qual d.params d.body d.scope (d.dvs K) (d.kws K) (He.fAd K d.at_) fd := by
  obtain ⟨i, hi⟩ := List.getElem?_of_mem h
  exact c.d.def_ i hi
theorem SaysL.one (c : SaysL hd K) : noLst K = true ∧ (hd.tp.all fun t => He.tupB K t.1 t.2) = true ∧ (hd.ex.all fun e => exB K hd.ex e) = true := by
  have c1 : (noLst K && (hd.tp.all fun t => He.tupB K t.1 t.2) && hd.ex.all fun e => exB K hd.ex e) = true := congrArg (fun z : Bool × He.AlD => z.1) c
  obtain ⟨c1, c3⟩ := He.ba c1
  obtain ⟨c1, c2⟩ := He.ba c1
  exact ⟨c1, c2, c3⟩
theorem SaysL.nolst (c : SaysL hd K) {a : Addr} {o : Obj} (h : K.lookup a = some o) : o.cls ≠ .type "list" := fun z => by
  have hm : (a, o) ∈ K := look_mem h
  have q := List.all_eq_true.mp c.one.1 (a, o) hm
  simp only [z] at q
  cases q
theorem SaysL.tup (c : SaysL hd K) {t : Str × List He.Dv} (h : t ∈ hd.tp) : He.tupB K t.1 t.2 = true := List.all_eq_true.mp c.one.2.1 t h
theorem SaysL.exc (c : SaysL hd K) {e : String} (h : e ∈ hd.ex) : exB K hd.ex e = true := List.all_eq_true.mp c.one.2.2 e h
end
/-! ### a text's data, from the text -/
def fnDf (s : Stmt) : Option Df := (defName s).map fun n => ⟨strOf n, strOf n, strOf n, .fn, s⟩
def clsB : Stmt → Option (String × Bool × List Stmt)
  | .ClassDef n bs _ b _ _ _ _ _ _ _ => some (strOf n, bs.isEmpty, b)
  | _ => none
/-- plain classes, classes of errors -/
def plainOf (p : Program) : List (String × List Stmt) := p.main.body.filterMap fun s => (clsB s).bind fun q => if q.2.1 = true then some (q.1, q.2.2) else none
def excOf (p : Program) : List String := p.main.body.filterMap fun s => (clsB s).bind fun q => if q.2.1 = true then none else some q.1
def metDf (c : String) (s : Stmt) : Option Df := (defName s).map fun n => if strOf n = "__init__" then ⟨c, "__init__", c ++ ".__init__", .ini c, s⟩ else ⟨c ++ "." ++ strOf n, strOf n, c ++ "." ++ strOf n, .met c (strOf n), s⟩
def fnsOf (p : Program) : List Df := p.main.body.filterMap fnDf
def metsOf (p : Program) : List Df := (plainOf p).flatMap fun q => q.2.filterMap (metDf q.1)
def dsOf (p : Program) : List Df := fnsOf p ++ metsOf p
def conOf (p : Program) : List (String × D) := p.main.body.filterMap fun s => match s with
  | .Assign [.Name x _] (.Constant (.int i) _ _) _ => some (strOf x, .int i)
  | .Assign [.Name x _] (.Constant (.str i) _ _) _ => if x = S "__name__" then none else some (strOf x, .str i)
  | .Assign [.Name x _] (.Tuple es _ _) _ => some (strOf x, .tup (es.filterMap fun e => match e with
     | .Constant (.str s) _ _ => some (.str s)
     | .Constant (.int s) _ _ => some (.int s)
     | _ => none))
  | _ => none
def fldS : Stmt → Option String
  | .Assign [.Attribute _ f _] _ _ => some (strOf f)
  | _ => none
def fldsP (p : Program) : List String := ((metsOf p).flatMap fun d => if d.kd.isI = true then (defBody d.st).filterMap fldS else []).eraseDups
def metN : Kd → Option (String × String)
  | .met c m => some (c, m)
  | _ => none
def metL (p : Program) : List (String × List String) :=
  let l := (metsOf p).filterMap fun d => metN d.kd
  ((l.map (·.2)).eraseDups).map fun m => (m, l.filterMap fun q => if q.2 = m then some q.1 else none)
def mkT (p : Program) (bx : List (Nat × Nat)) (hf : List String) : Tb := ⟨(fnsOf p).map (·.key), (plainOf p).map (·.1), conOf p, excOf p, bx, fldsP p, metL p, hf⟩
def dvOf : D → Option He.Dv
  | .int i => some (.int i)
  | .str s => some (.str s)
  | _ => none
def faCon : String × D → Option He.Fa
  | (x, .int i) => some (.int (S x) i)
  | (x, .str s) => some (.str (S x) s)
  | (x, .tup _) => some (.glo (S x))
  | _ => none
def tpCon : String × D → Option (Str × List He.Dv)
  | (x, .tup ds) => (ds.mapM dvOf).map fun vs => (S x, vs)
  | _ => none
def atOf (d : Df) : Str × Option Str := match d.kd with
  | .fn => (S d.key, none)
  | .met c m => (S c, some (S m))
  | .ini c => (S c, some (S "__init__"))
def defDat (d : Df) : He.DefD := ⟨atOf d, S d.name, S d.qual, defArgs d.st, defBody d.st, defScope d.st, [], []⟩
def faDf (d : Df) : List He.Fa := match d.kd with
  | .fn => [.glo (S d.key)]
  | .met c m => [.meth (S c) (S m)]
  | .ini c => [.mkr (S c)]
def hdOf (p : Program) : Hd :=
  ⟨(dsOf p).flatMap faDf ++ bltNames.map (fun x => .free (S x)) ++ (conOf p).filterMap faCon ++ ((plainOf p).flatMap fun q => [.glo (S q.1), .cls (S q.1)] ++ (fldsP p).map fun f => .noat (S q.1) (S f)) ++ ((excOf p).flatMap fun e => [.glo (S e), .exc (S e)] ++ (excOf p).map fun d => .exm (S e) (S d) (subx e d)),
    (dsOf p).map defDat, (conOf p).filterMap tpCon, excOf p⟩
theorem mapM_some {α β : Type} {f : α → Option β} : ∀ {l : List α} {r : List β}, l.mapM f = some r → r.length = l.length ∧ ∀ (i : Nat) (a : α), l[i]? = some a → ∃ b, r[i]? = some b ∧ f a = some b
  | [], r, h => by
    have h : some [] = some r := by simpa using h
    cases h
    exact ⟨rfl, fun i a z => by simp at z⟩
  | x :: l, r, h => by
    rw [List.mapM_cons] at h
    obtain ⟨b, e1, h⟩ := Option.bind_eq_some_iff.mp h
    obtain ⟨bs, e2, h⟩ := Option.bind_eq_some_iff.mp h
    cases h
    obtain ⟨l1, l2⟩ := mapM_some e2
    refine ⟨by rw [List.length_cons, List.length_cons, l1], fun i a z => ?_⟩
    cases i with
    | zero => cases z; exact ⟨b, rfl, e1⟩
    | succ i => exact l2 i a (by simpa using z)
theorem rep_dv {C : Wd} {G : Hp} {io : List Addr} {d : D} {v : He.Dv} (h : dvOf d = some v) : Rep C G io d (v.v C.K) := by
  cases d <;> simp only [dvOf, reduceCtorEq, Option.some.injEq] at h
  all_goals (subst h; rfl)
theorem repL_dv {C : Wd} {G : Hp} {io : List Addr} : ∀ {ds : List D} {vs : List He.Dv}, ds.mapM dvOf = some vs → RepL C G io ds (vs.map (He.Dv.v C.K))
  | [], vs, h => by
    have h : some [] = some vs := by simpa using h
    cases h
    rfl
  | d :: ds, vs, h => by
    rw [List.mapM_cons] at h
    obtain ⟨b, e1, h⟩ := Option.bind_eq_some_iff.mp h
    obtain ⟨bs, e2, h⟩ := Option.bind_eq_some_iff.mp h
    cases h
    exact ⟨_, _, rfl, rep_dv e1, repL_dv e2⟩
/-- what is looked at once: the text compiles to this table -/
def tblOk (p : Program) (bx : List (Nat × Nat)) (hf : List String) : Bool := ((dsOf p).all fun d => dfOk (mkT p bx hf) d.st) && ((conOf p).all fun q => match q.2 with
  | .int _ => true
  | .str _ => true
  | .tup ds => (ds.mapM dvOf).isSome && decide (ds.length ≤ 1000)
  | _ => false) && ((metL p).all fun q => q.2.all fun c => (dsOf p).any fun d => decide (d.kd = .met c q.1) && decide (d.key = c ++ "." ++ q.1)) && ((plainOf p).all fun q => (dsOf p).any fun d => decide (d.kd = .ini q.1) && decide (d.key = q.1)) &&
  ((dsOf p).all fun d => match d.kd with
    | .fn => true
    | .met c _ => ((plainOf p).map (·.1)).contains c
    | .ini c => ((plainOf p).map (·.1)).contains c) && (hf.all fun f => ((fnsOf p).map (·.key)).contains f) && !((fnsOf p).map (·.key)).contains "super" && !((plainOf p).map (·.1)).contains "super" && !hf.contains "super" 
abbrev wdOf (p : Program) (K : PySem.W.Frag) (mg : Str → Option Value) : Wd := ⟨K, mg, fun c A => c ∈ (plainOf p).map (·.1) ∧ A = He.ga K (S c), none⟩
theorem tab_of {p : Program} {bx : List (Nat × Nat)} {hf : List String} {K : PySem.W.Frag} {mg : Str → Option Value} {h : Heap} {TF : String → Option Fd} (X : K.In h) (N : h.Ns mainGlobals mg) (c : SaysL (hdOf p) K) (ok : tblOk p bx hf = true)
    (ht : ∀ d ∈ dsOf p, ∃ fd, TF d.key = some fd ∧ cDf (mkT p bx hf) d = some fd) (hh : ∀ d ∈ dsOf p, d.key ∈ hf → d.kd = .fn ∧ ∃ fd, TF d.key = some fd ∧ cDefH (mkT p bx hf) d.st = some fd ∧ stillSs hf fd.bd = true) : TabOk (mkT p bx hf) TF (wdOf p K mg) (dsOf p) := by
  unfold tblOk at ok
  simp only [Bool.and_eq_true] at ok
  obtain ⟨⟨⟨⟨⟨⟨⟨⟨ok1, ok2⟩, ok3⟩, ok4⟩, ok5⟩, ok6⟩, ok7⟩, ok8⟩, ok9⟩ := ok
  have fa1 : ∀ d ∈ dsOf p, ∀ f ∈ faDf d, f ∈ (hdOf p).fa := fun d hd f hf => List.mem_append_left _ (List.mem_append_left _ (List.mem_append_left _ (List.mem_append_left _ (List.mem_flatMap.mpr ⟨d, hd, hf⟩))))
  have fa2 : ∀ x ∈ bltNames, He.Fa.free (S x) ∈ (hdOf p).fa := fun x hx => List.mem_append_left _ (List.mem_append_left _ (List.mem_append_left _ (List.mem_append_right _ (List.mem_map.mpr ⟨x, hx, rfl⟩))))
  have fa3 : ∀ q ∈ conOf p, ∀ f, faCon q = some f → f ∈ (hdOf p).fa := fun q hq f e => List.mem_append_left _ (List.mem_append_left _ (List.mem_append_right _ (List.mem_filterMap.mpr ⟨q, hq, e⟩)))
  have fa4 : ∀ q ∈ plainOf p, ∀ f ∈ ([He.Fa.glo (S q.1), .cls (S q.1)] ++ (fldsP p).map fun f => He.Fa.noat (S q.1) (S f)), f ∈ (hdOf p).fa := fun q hq f hf => List.mem_append_left _ (List.mem_append_right _ (List.mem_flatMap.mpr ⟨q, hq, hf⟩))
  have fa5 : ∀ e ∈ excOf p, ∀ f ∈ ([He.Fa.glo (S e), .exc (S e)] ++ (excOf p).map fun d => He.Fa.exm (S e) (S d) (subx e d)), f ∈ (hdOf p).fa := fun e he f hf => List.mem_append_right _ (List.mem_flatMap.mpr ⟨e, he, hf⟩)
  have glC : ∀ k, k ∈ (plainOf p).map (·.1) → mg (S k) = some (.ref (He.ga K (S k))) := fun k hk => by
    obtain ⟨q, hq, rfl⟩ := List.mem_map.mp hk
    exact He.glo_ok X N (c.fact (fa4 q hq _ (by simp)))
  refine ⟨fun f hf => ?_, fun q hq k hk => ?_, fun k hk => ?_, fun f hf => ⟨List.contains_iff_mem.mp (List.all_eq_true.mp ok6 f hf), fun d hd e => ?_⟩, fun d hd => ?_, fun d hd => ?_, fun x hx => ?_, fun q hq => ?_, fun k A z => ?_, ⟨?_, ?_, ?_⟩, fun e he => ?_, rfl⟩
  · obtain ⟨d, hd, rfl⟩ := List.mem_map.mp hf
    refine ⟨d, List.mem_append_left _ hd, ?_, rfl⟩
    unfold fnsOf at hd
    obtain ⟨s, _, e⟩ := List.mem_filterMap.mp hd
    unfold fnDf at e
    obtain ⟨n, _, rfl⟩ := Option.map_eq_some_iff.mp e
    rfl
  · have := List.all_eq_true.mp (List.all_eq_true.mp ok3 q hq) k hk
    obtain ⟨d, hd, e⟩ := List.any_eq_true.mp this
    simp only [Bool.and_eq_true, decide_eq_true_eq] at e
    exact ⟨d, hd, e.1, e.2⟩
  · obtain ⟨q, hq, rfl⟩ := List.mem_map.mp hk
    obtain ⟨d, hd, e⟩ := List.any_eq_true.mp (List.all_eq_true.mp ok4 q hq)
    simp only [Bool.and_eq_true, decide_eq_true_eq] at e
    exact ⟨d, hd, e.1, e.2⟩
  · subst e
    exact hh d hd hf
  · obtain ⟨fd, e1, e2⟩ := ht d hd
    exact ⟨fd, e1, dfOk_ok (List.all_eq_true.mp ok1 d hd) e2⟩
  · obtain ⟨fdat, FD⟩ := c.def_ (d := defDat d) (List.mem_map.mpr ⟨d, hd, rfl⟩)
    refine ⟨_, fdat, FD, ?_⟩
    have hcl := List.all_eq_true.mp ok5 d hd
    cases hk : d.kd with
    | fn =>
      have e : (defDat d).at_ = (S d.key, none) := by show atOf d = _; unfold atOf; rw [hk]
      rw [e]
      exact He.glo_ok X N (c.fact (fa1 d hd _ (by unfold faDf; rw [hk]; exact List.mem_singleton.mpr rfl)))
    | met k m =>
      have e : (defDat d).at_ = (S k, some (S m)) := by show atOf d = _; unfold atOf; rw [hk]
      rw [e]
      rintro A ⟨_, rfl⟩
      exact He.meth_ok (c.fact (fa1 d hd _ (by unfold faDf; rw [hk]; exact List.mem_singleton.mpr rfl)))
    | ini k =>
      rw [hk] at hcl
      have hm : k ∈ (plainOf p).map (·.1) := List.contains_iff_mem.mp hcl
      have e : (defDat d).at_ = (S k, some (S "__init__")) := by show atOf d = _; unfold atOf; rw [hk]
      rw [e]
      exact ⟨_, glC k hm, ⟨hm, rfl⟩, He.mkr_ok (c.fact (fa1 d hd _ (by unfold faDf; rw [hk]; exact List.mem_singleton.mpr rfl)))⟩
  · exact He.free_ok X N (c.fact (fa2 x hx))
  · have oq := List.all_eq_true.mp ok2 q hq
    obtain ⟨x, d⟩ := q
    cases d with
    | int i =>
      obtain ⟨t, e⟩ := He.int_ok X N (c.fact (fa3 (x, .int i) hq (.int (S x) i) rfl))
      exact ⟨_, .int i, e, ⟨t, rfl⟩, fun _ _ => rfl⟩
    | str s =>
      obtain ⟨t, e⟩ := He.str_ok X N (c.fact (fa3 (x, .str s) hq (.str (S x) s) rfl))
      exact ⟨_, .str s, e, ⟨t, rfl⟩, fun _ _ => rfl⟩
    | tup ds =>
      have e := He.glo_ok X N (c.fact (fa3 (x, .tup ds) hq (.glo (S x)) rfl))
      simp only [Bool.and_eq_true, decide_eq_true_eq] at oq
      obtain ⟨o1, o2⟩ := oq
      obtain ⟨vs, ev⟩ := Option.isSome_iff_exists.mp o1
      have hm : (S x, vs) ∈ (hdOf p).tp := List.mem_filterMap.mpr ⟨(x, .tup ds), hq, by show (ds.mapM dvOf).map _ = _; rw [ev] <;> rfl⟩
      have l := (mapM_some ev).1
      exact ⟨_, .ref _, e, rfl, fun G io => ⟨_, _, rfl, He.tupB_ok (c.tup hm) G, by rw [List.length_map, l, sizeLine_eq]; omega, repL_dv ev⟩⟩
    | _ => cases oq
  · obtain ⟨hm, rfl⟩ := z
    obtain ⟨q, hq, rfl⟩ := List.mem_map.mp hm
    refine ⟨He.cls_ok (c.fact (fa4 q hq _ (by simp))), fun f hf => He.noat_ok (c.fact (fa4 q hq _ (List.mem_append_right _ (List.mem_map.mpr ⟨f, hf, rfl⟩))))⟩
  · intro z
    have z' := List.contains_iff_mem.mpr z
    simp only [Bool.not_eq_true'] at ok7
    exact Bool.noConfusion (z'.symm.trans ok7)
  · intro z
    have z' := List.contains_iff_mem.mpr z
    simp only [Bool.not_eq_true'] at ok8
    exact Bool.noConfusion (z'.symm.trans ok8)
  · intro z
    have z' := List.contains_iff_mem.mpr z
    simp only [Bool.not_eq_true'] at ok9
    exact Bool.noConfusion (z'.symm.trans ok9)
  · refine ⟨He.ga K (S e), fun Y hK hM => ?_⟩
    have gl : ∀ d, d ∈ excOf p → mg (S d) = some (.ref (He.ga K (S d))) := fun d hd => He.glo_ok X N (c.fact (fa5 d hd _ (by simp)))
    obtain ⟨x1, x2, x3, x4⟩ := He.exc_ok (c.fact (fa5 e he (.exc (S e)) (by simp)))
    have q := c.exc he
    unfold exB at q
    simp only [Bool.and_eq_true, decide_eq_true_eq] at q
    obtain ⟨⟨⟨⟨⟨⟨⟨⟨q1, q2⟩, q3⟩, q4⟩, q5⟩, q6⟩, q7⟩, q8⟩, q9⟩ := q
    obtain ⟨Yp, hYp⟩ : ∃ Yp, Yp = Y.K := ⟨_, rfl⟩
    have hK' : Y.K = K := hK
    have hM' : Y.mg = mg := hM
    refine ⟨by rw [hM']; exact gl e he, by rw [hK']; exact x1, by rw [hK']; exact x2, by rw [hK']; exact x3, by rw [hK']; exact x4, ?_, fun d hd => ⟨He.ga K (S d), by rw [hM']; exact gl d hd, ?_, ?_⟩, by rw [hK']; exact q8⟩
    · rw [hK']
      exact ⟨He.eqO_ok q1, He.eqO_ok q2, x3, q3, He.eqO_ok q4, He.eqO_ok q5, q6, q7⟩
    · rw [hK']
      exact He.exm_ok (c.fact (fa5 e he _ (List.mem_append_right _ (List.mem_map.mpr ⟨d, hd, rfl⟩))))
    · rw [hK']
      have := List.all_eq_true.mp q9 d hd
      simpa using this
/-- the table's checks as one equation -/
theorem tf_of {p : Program} {bx : List (Nat × Nat)} {hf : List String} {tbl : List (String × Fd)} (e : ((dsOf p).map fun d => (d.key, cDf (mkT p bx hf) d)) = tbl.map fun q => (q.1, some q.2)) (hn : ((tbl.map (·.1)).Nodup)) :
    ∀ d ∈ dsOf p, ∃ fd, tbl.lookup d.key = some fd ∧ cDf (mkT p bx hf) d = some fd := fun d hd => by
  have hm : (d.key, cDf (mkT p bx hf) d) ∈ tbl.map fun q => (q.1, some q.2) := by rw [← e]; exact List.mem_map.mpr ⟨d, hd, rfl⟩
  obtain ⟨t, ht, et⟩ := List.mem_map.mp hm
  simp only [Prod.mk.injEq] at et
  refine ⟨t.2, ?_, et.2.symm⟩
  rw [← et.1]
  have go : ∀ (l : List (String × Fd)), (l.map (·.1)).Nodup → t ∈ l → l.lookup t.1 = some t.2 := by
    intro l
    induction l with
    | nil => intro _ z; cases z
    | cons a l ih =>
      intro hn hm
      obtain ⟨h1, h2⟩ := List.nodup_cons.mp hn
      rw [List.lookup_cons]
      rcases List.mem_cons.mp hm with rfl | hm
      · rw [beq_self_eq_true]
      · have : (t.1 == a.1) = false := beq_eq_false_iff_ne.mpr fun z => h1 (by show a.1 ∈ _; rw [← z]; exact List.mem_map.mpr ⟨t, hm, rfl⟩)
        rw [this]
        exact ih h2 hm
  exact go tbl hn ht
/-- .. of the defs that are called while an error is handled -/
theorem th_of {p : Program} {bx : List (Nat × Nat)} {hf : List String} {tbl : List (String × Fd)} (e : (((dsOf p).filter fun d => hf.contains d.key).map fun d => cDefH (mkT p bx hf) d.st) = ((dsOf p).filter fun d => hf.contains d.key).map fun d => tbl.lookup d.key)
    (ok : (((dsOf p).filter fun d => hf.contains d.key).all fun d => decide (d.kd = .fn) && match tbl.lookup d.key with
      | some fd => stillSs hf fd.bd
      | none => false) = true) : ∀ d ∈ dsOf p, d.key ∈ hf → d.kd = .fn ∧ ∃ fd, tbl.lookup d.key = some fd ∧ cDefH (mkT p bx hf) d.st = some fd ∧ stillSs hf fd.bd = true := fun d hd hk => by
  have hm : d ∈ (dsOf p).filter fun d => hf.contains d.key := List.mem_filter.mpr ⟨hd, List.contains_iff_mem.mpr hk⟩
  have q := List.all_eq_true.mp ok d hm
  simp only [Bool.and_eq_true, decide_eq_true_eq] at q
  refine ⟨q.1, ?_⟩
  have e1 := List.map_inj_left.mp e d hm
  cases h : tbl.lookup d.key with
  | none => rw [h] at q; cases q.2
  | some fd =>
    rw [h] at q e1
    exact ⟨fd, rfl, e1, q.2⟩
/-- a law's end: the engine's run says True -/
theorem law_end {l : PySem.W.OpenLaw} {n k : Nat} {q : Program} {loose : List Str} {XP : (Str → Option Value) → Heap → Prop} {d : DefRec} {bx : List (Nat × Nat)} {hf : List String} {tbl : List (String × Fd)} {N : Nat}
    (hn : l.most = some n) (hn2 : n ≤ sizeLine) (hdf : d.params.defaults = []) (hr : Room k callerA) (hd : d.name = S "law") (ok : tblOk l.prog bx hf = true)
    (e : ((dsOf l.prog).map fun d => (d.key, cDf (mkT l.prog bx hf) d)) = tbl.map fun q => (q.1, some q.2)) (hnd : ((tbl.map (·.1)).Nodup)) (hh : ∀ d ∈ dsOf l.prog, d.key ∈ hf → d.kd = .fn ∧ ∃ fd, tbl.lookup d.key = some fd ∧ cDefH (mkT l.prog bx hf) d.st = some fd ∧ stillSs hf fd.bd = true)
    (hl : ∃ d0 ∈ dsOf l.prog, d0.key = "law" ∧ d0.kd = .fn ∧ d0.ps = [S "script"])
    (run : ∀ ns : List Int, ns.length ≤ n → ∃ m, Phi (fun f => tbl.lookup f) k "law" [.lst (ns.map .int)] [] = .ok (.bl true) m) :
    PySem.W.WalkO q loose XP (hookL N (hdOf l.prog)).says l.row.toRowW d [] (fun f vs => PySem.call f vs) := by
  refine L2.walk_ofE (l := l) (n := n) (k := k) (x := S "script") hn hn2 hdf hr ?_ (CX := fun o h s E u s' => ∃ w, L2.CX l.prog w o h s E u s') ?_
  · intro w mg fa h Y G hmg
    obtain ⟨K, KX, c⟩ := Y
    obtain ⟨d0, hd0, ekey, ekd, epar⟩ := hl
    have t := tab_of (TF := fun f => tbl.lookup f) KX G c ok (tf_of e hnd) hh
    obtain ⟨a, fd, FD, gl⟩ := t.fun_ d0 hd0
    rw [ekd] at gl
    have gl : mg (S d0.key) = some (.ref a) := gl
    rw [ekey] at gl
    have hmg2 : mg (S "law") = some (.ref fa) := by rw [← hd]; exact hmg
    have ea : a = fa := by
      have := gl.symm.trans hmg2
      cases this
      rfl
    subst ea
    obtain ⟨fdd, _, D0⟩ := t.df d0 hd0
    have bd := (D0.binds FD).2
    have hi : d0.kd.isI = false := by rw [ekd] <;> rfl
    refine ⟨K, fd, spF (wdOf l.prog K mg) (Phi (fun f => tbl.lookup f) k) "law" 1, KX, fun s u => ?_, fun H b ns hlen hO hS => ?_, fun base _ _ => ?_⟩
    · have q := bd s [u] (by rw [epar] <;> rfl)
      rw [epar] at q
      exact q
    · refine ⟨rfl, fun x => if x = b then some (.lst (ns.map V.int)) else none, [], [], [.lst (ns.map .int)], ⟨fun x u e => ?_, fun x o u e => ?_, rfl, List.nodup_nil, fun x z => (by cases z), fun i x lk d e => by simp at e⟩, ⟨.ref b, [], rfl, ⟨b, ns.map V.int, rfl, if_pos rfl, by rw [List.length_map]; exact Nat.le_trans hlen hn2, repL_int ns⟩, rfl⟩, ?_⟩
      · by_cases z : x = b
        · subst z
          rw [if_pos rfl] at e
          cases e
          rcases hS with q | ⟨o, its, n', hk, hc, _⟩
          · exact q
          · exact absurd hc (c.nolst hk)
        · rw [if_neg z] at e; cases e
      · split at e <;> cases e
      · obtain ⟨m, e⟩ := run ns hlen
        rw [e]
        intro v H' G' io' _ _ r
        exact r
    · have F := (lv_all (P := l.prog) (w := w) (base := base) t k).fn d0 hd0 hi a fd FD
      rw [epar, ekey] at F
      refine ⟨F.len, fun A outer s H args us vs Q E h1 h2 h3 h4 h5 => codeAny_mono (F.run A outer s H args us vs Q E h1 h2 h3 h4 h5) fun r s' z => ?_⟩
      cases r with
      | error u => exact ⟨w, z⟩
      | ok fl => cases fl <;> exact z
  · rintro H s u s' ⟨w, a, B, H', cls, d, _, _, _, _, _, _, _, z⟩
    exact z
end Wh
/-! Plain laws about the engine's runs. -/
namespace Wh
open PySem L2
theorem phi_at {T : String → Option Fd} {k : Nat} {f : String} {fd : Fd} {ds : List D} {m : Mu} (h : T f = some fd) (hi : fd.ini = false) : Phi T (k + 1) f ds m = runFd (Phi T k) f fd ds m := phi_fn k h hi
theorem loopC_map {step : D → Mu → Res (Option D)} {α : Type} {enc : α → D} {g : α → D} {m : Mu} : ∀ {xs : List α}, (∀ x ∈ xs, step (enc x) m = .ok (some (g x)) m) → loopC step (xs.map enc) m = .ok (xs.map g) m
  | [], _ => rfl
  | x :: xs, h => by
    rw [List.map_cons, loopC, h x List.mem_cons_self]
    simp only [Res.bind]
    rw [loopC_map fun y hy => h y (List.mem_cons_of_mem _ hy)]
    rfl
theorem loopC_filter {step : D → Mu → Res (Option D)} {α : Type} {enc : α → D} {g : α → D} {p : α → Bool} {m : Mu} : ∀ {xs : List α}, (∀ x ∈ xs, step (enc x) m = .ok (if p x = true then some (g x) else none) m) → loopC step (xs.map enc) m = .ok ((xs.filter p).map g) m
  | [], _ => rfl
  | x :: xs, h => by
    rw [List.map_cons, loopC, h x List.mem_cons_self]
    simp only [Res.bind]
    rw [loopC_filter fun y hy => h y (List.mem_cons_of_mem _ hy), List.filter_cons]
    cases p x <;> rfl
theorem loopF_inv {step : D → Env → Mu → Rs} {m : Mu} (P : Nat → Env → Prop) : ∀ (items : List D) (i : Nat) (r : Env), P i r → (∀ j x r, items[j]? = some x → P (i + j) r → ∃ r', step x r m = .nx r' m ∧ P (i + j + 1) r') → ∃ r', loopF step items r m = .nx r' m ∧ P (i + items.length) r'
  | [], i, r, h, _ => ⟨r, rfl, h⟩
  | x :: xs, i, r, h, hs => by
    obtain ⟨r1, e1, p1⟩ := hs 0 x r rfl h
    obtain ⟨r2, e2, p2⟩ := loopF_inv P xs (i + 1) r1 p1 fun j y r' ej pj => by
      have := hs (j + 1) y r' (by simpa using ej) (by rw [show i + (j + 1) = i + 1 + j by omega]; exact pj)
      rw [show i + (j + 1) + 1 = i + 1 + j + 1 by omega] at this
      exact this
    refine ⟨r2, ?_, by rw [List.length_cons, show i + (xs.length + 1) = i + 1 + xs.length by omega]; exact p2⟩
    rw [loopF, e1]
    exact e2
theorem asInts_map : ∀ (ns : List Int), asInts (ns.map .int) = some ns
  | [] => rfl
  | n :: ns => by rw [List.map_cons, asInts, asInts_map ns] <;> rfl
theorem asBls_map {α : Type} (p : α → Bool) : ∀ (xs : List α), asBls (xs.map fun x => .bl (p x)) = some (xs.map p)
  | [] => rfl
  | n :: ns => by rw [List.map_cons, asBls, asBls_map p ns] <;> rfl
theorem toPs_ints (n : Nat) : ∀ (ns : List Int), toPs (n + 1) (ns.map .int) = some (ns.map .int)
  | [] => rfl
  | k :: ns => by
    rw [List.map_cons, toPs, toPs_ints n ns]
    simp [toP]
/-- an empty list, an empty tuple -/
theorem eq_nilL (ns : List Int) : eqD (.lst (ns.map .int)) (.lst []) = some (ns.isEmpty) := by
  unfold eqD
  simp only [scalD, deepD, toP, toPs_ints, toPs, Option.map_some, Option.bind_some]
  cases ns <;> rfl
theorem eq_nilT (ns : List Int) : eqD (.tup (ns.map .int)) (.tup []) = some (ns.isEmpty) := by
  unfold eqD
  simp only [scalD, deepD, toP, toPs_ints, toPs, Option.map_some, Option.bind_some]
  cases ns <;> rfl
theorem look_nil (d : D) : look [] d = d := by cases d <;> rfl
/-! ### the draws -/
def fdCell : Fd := ⟨false, 2, 2, [(.ife (.cmp .eq (.v 0) (.lst [])) [(.ret (.bin .mul (.c (.int (7))) (.v 1)))] []), (.ret (.bin .add (.idx (.v 0) (.bin .mod (.v 1) (.bi .len [(.v 0)]))) (.bin .mul (.c (.int (6553))) (.bin .fdiv (.v 1) (.bi .len [(.v 0)])))))]⟩
def fdDrawn : Fd := ⟨false, 3, 4, [(.asg 3 false (.bin .mod (.bin .add (.bin .mul (.bin .mod (.call "_law_cell" [(.v 0), (.v 1)]) (.c (.int (2147483563)))) (.c (.int (69069)))) (.bin .mul (.c (.int (104723))) (.bin .add (.v 1) (.c (.int (1)))))) (.c (.int (2147483563))))), (.asg 3 false (.bin .mod (.bin .add (.bin .mul (.v 3) (.v 3)) (.bin .fdiv (.v 3) (.c (.int (3))))) (.c (.int (2147483399))))), (.ret (.bin .mod (.bin .fdiv (.bin .mod (.bin .add (.bin .mul (.v 3) (.v 3)) (.bin .fdiv (.v 3) (.c (.int (7))))) (.c (.int (2147483647)))) (.c (.int (11)))) (.v 2)))]⟩
def cellI (ns : List Int) (k : Int) : Int := if ns = [] then 7 * k else (ns[(k % ns.length).toNat]?).getD 0 + 6553 * (k / ns.length)
def drawnA (ns : List Int) (k : Int) : Int := (cellI ns k % 2147483563 * 69069 + 104723 * (k + 1)) % 2147483563
def drawnB (ns : List Int) (k : Int) : Int := (drawnA ns k * drawnA ns k + drawnA ns k / 3) % 2147483399
def drawn (ns : List Int) (k many : Int) : Int := (drawnB ns k * drawnB ns k + drawnB ns k / 7) % 2147483647 / 11 % many
theorem drawn_lo (ns : List Int) (k : Int) {many : Int} (h : 0 < many) : 0 ≤ drawn ns k many := Int.emod_nonneg _ (by omega)
theorem drawn_hi (ns : List Int) (k : Int) {many : Int} (h : 0 < many) : drawn ns k many < many := Int.emod_lt_of_pos _ h
section
variable {T : String → Option Fd}
theorem r_cell (hc : T "_law_cell" = some fdCell) {ns : List Int} (hl : ns.length ≤ 1000) (k : Int) (n : Nat) : Phi T (n + 1) "_law_cell" [.lst (ns.map .int), .int k] [] = .ok (.int (cellI ns k)) [] := by
  rw [phi_at hc rfl]
  by_cases hn : ns = []
  · subst hn
    have e0 : eqD (.lst []) (.lst []) = some true := eq_nilL []
    simp [runFd, fdCell, startE, exs, ex, ev, evs, slot, Res.bind, Res.on, Rs.then, up, tstD, cmpD, binD, look, e0, cellI]
  · have e0 : eqD (.lst (ns.map .int)) (.lst []) = some false := by
      rw [eq_nilL]
      cases ns with
      | nil => exact absurd rfl hn
      | cons _ _ => rfl
    have hp : 0 < ns.length := List.length_pos_iff.mpr hn
    have hp' : (0 : Int) < ns.length := by omega
    have hj : (ns.length : Int) < 1073741824 := by omega
    have h1 := Int.emod_nonneg k (b := (ns.length : Int)) (by omega)
    have h2 := Int.emod_lt_of_pos k hp'
    have hix : atI (ns.map D.int) (k % ns.length) = some (.int ((ns[(k % ns.length).toNat]?).getD 0)) := by
      have hlt : (k % ns.length).toNat < ns.length := by omega
      have : ixN (ns.map D.int).length (k % ns.length) = some (k % ns.length).toNat := by
        unfold ixN
        rw [List.length_map, if_pos h1, if_pos h2]
      unfold atI
      rw [this]
      show (ns.map D.int)[(k % ns.length).toNat]? = _
      rw [List.getElem?_map, List.getElem?_eq_getElem hlt]
      rfl
    simp [runFd, fdCell, startE, exs, ex, ev, evs, slot, Res.bind, Res.on, Rs.then, up, tstD, cmpD, binD, look, biD, idxD, e0, hp', hj, hix, cellI, hn, hp]
theorem r_drawn (hc : T "_law_cell" = some fdCell) (hd : T "_law_drawn" = some fdDrawn) {ns : List Int} (hl : ns.length ≤ 1000) (k : Int) {many : Int} (hm : 0 < many) (n : Nat) :
    Phi T (n + 2) "_law_drawn" [.lst (ns.map .int), .int k, .int many] [] = .ok (.int (drawn ns k many)) [] := by
  rw [phi_at hd rfl]
  have c1 := r_cell hc hl k n
  have a1 := Int.emod_nonneg (cellI ns k % 2147483563 * 69069 + 104723 * (k + 1)) (b := 2147483563) (by decide)
  have a2 := Int.emod_lt_of_pos (cellI ns k % 2147483563 * 69069 + 104723 * (k + 1)) (b := 2147483563) (by decide)
  have b1 := Int.emod_nonneg (drawnA ns k * drawnA ns k + drawnA ns k / 3) (b := 2147483399) (by decide)
  have b2 := Int.emod_lt_of_pos (drawnA ns k * drawnA ns k + drawnA ns k / 3) (b := 2147483399) (by decide)
  have m1 : binD .mul (.int (drawnA ns k)) (.int (drawnA ns k)) = some (.int (drawnA ns k * drawnA ns k)) := if_pos (.inl ⟨by unfold drawnA; omega, by unfold drawnA; omega⟩)
  have m2 : binD .mul (.int (drawnB ns k)) (.int (drawnB ns k)) = some (.int (drawnB ns k * drawnB ns k)) := if_pos (.inl ⟨by unfold drawnB; omega, by unfold drawnB; omega⟩)
  have e1 : binD .mul (.int (cellI ns k % 2147483563)) (.int 69069) = some (.int (cellI ns k % 2147483563 * 69069)) := by simp [binD]
  have e2 : binD .mul (.int 104723) (.int (k + 1)) = some (.int (104723 * (k + 1))) := by simp [binD]
  have e3 : ∀ x : Int, binD .mod (.int x) (.int many) = some (.int (x % many)) := fun x => if_pos hm
  have e4 : ∀ x : Int, binD .mod (.int x) (.int 2147483563) = some (.int (x % 2147483563)) := fun x => by simp [binD]
  have e5 : ∀ x : Int, binD .mod (.int x) (.int 2147483399) = some (.int (x % 2147483399)) := fun x => by simp [binD]
  have e6 : ∀ x : Int, binD .mod (.int x) (.int 2147483647) = some (.int (x % 2147483647)) := fun x => by simp [binD]
  have e7 : ∀ x : Int, binD .fdiv (.int x) (.int 3) = some (.int (x / 3)) := fun x => by simp [binD]
  have e8 : ∀ x : Int, binD .fdiv (.int x) (.int 7) = some (.int (x / 7)) := fun x => by simp [binD]
  have e9 : ∀ x : Int, binD .fdiv (.int x) (.int 11) = some (.int (x / 11)) := fun x => by simp [binD]
  have ea : ∀ x y : Int, binD .add (.int x) (.int y) = some (.int (x + y)) := fun x y => rfl
  have dA : (cellI ns k % 2147483563 * 69069 + 104723 * (k + 1)) % 2147483563 = drawnA ns k := rfl
  have dB : (drawnA ns k * drawnA ns k + drawnA ns k / 3) % 2147483399 = drawnB ns k := rfl
  simp [runFd, fdDrawn, startE, exs, ex, ev, evs, slot, Res.bind, Res.on, Rs.then, up, look, c1, e1, e2, e3, e4, e5, e6, e7, e8, e9, ea, dA, dB, m1, m2, drawn]
end
end Wh
/-! The engine's rules, one by one. -/
namespace Wh
section
variable {F : Fn} {r : Env} {m : Mu} {x y z : E} {es cs : List E} {d : D}
def rdV : Sl → Mu → Res D
  | .val d, m => .ok d m
  | _, _ => .bad
def rdB : Sl → Mu → Res D
  | .val d, m => .ok d m
  | .own d, m => .ok d m
  | .no, _ => .bad
theorem rdV_val : rdV (.val d) m = .ok d m := rfl
theorem rdB_val : rdB (.val d) m = .ok d m := rfl
theorem rdB_own : rdB (.own d) m = .ok d m := rfl
theorem e_v {i : Nat} : ev F (.v i) r m = rdV (slot r i) m := by
  rw [ev]; cases slot r i <;> rfl
theorem e_b {i : Nat} : ev F (.b i) r m = rdB (slot r i) m := by
  rw [ev]; cases slot r i <;> rfl
theorem e_c : ev F (.c d) r m = .ok d m := by rw [ev]
theorem e_bin {o : Bo} : ev F (.bin o x y) r m = (ev F x r m).bind fun a m => (ev F y r m).bind fun b m => up (binD o (look m a) (look m b)) m := by rw [ev]
def negD : D → Option D
  | .int i => some (.int (-i))
  | _ => none
theorem e_neg : ev F (.neg x) r m = (ev F x r m).bind fun a m => up (negD a) m := by
  rw [ev]; congr 1; funext a m; cases a <;> rfl
theorem e_not : ev F (.not x) r m = (ev F x r m).bind fun a m => (tstD a m).bind fun b m => .ok (.bl (!b)) m := by rw [ev]
theorem e_and : ev F (.and x y) r m = (ev F x r m).bind fun a m => (tstD a m).bind fun b m => if b = true then ev F y r m else .ok (.bl false) m := by rw [ev]
theorem e_or : ev F (.or x y) r m = (ev F x r m).bind fun a m => (tstD a m).bind fun b m => if b = true then .ok (.bl true) m else ev F y r m := by rw [ev]
theorem e_ife : ev F (.ife x y z) r m = (ev F x r m).bind fun a m => (tstD a m).bind fun b m => if b = true then ev F y r m else ev F z r m := by rw [ev]
theorem e_cmp {o : Co} : ev F (.cmp o x y) r m = (ev F x r m).bind fun a m => (ev F y r m).bind fun b m => up (cmpD o (look m a) (look m b)) m := by rw [ev]
theorem e_ch2 {o p : Co} : ev F (.ch2 o p x y z) r m = (ev F x r m).bind fun a m => (ev F y r m).bind fun b m => (up (cmpD o (look m a) (look m b)) m).bind fun q m => (tstD q m).bind fun k m =>
      if k = true then (ev F z r m).bind fun c m => up (cmpD p (look m b) (look m c)) m else .ok (.bl false) m := by rw [ev]
theorem e_tup : ev F (.tup es) r m = (evs F es r m).bind fun ds m => .ok (.tup ds) m := by rw [ev]
theorem e_lst : ev F (.lst es) r m = (evs F es r m).bind fun ds m => .ok (.lst ds) m := by rw [ev]
theorem e_idx : ev F (.idx x y) r m = (ev F x r m).bind fun a m => (ev F y r m).bind fun b m => up (idxD (look m a) b) m := by rw [ev]
theorem e_sl : ev F (.sl x y z) r m = (ev F x r m).bind fun a m => (ev F y r m).bind fun l m => (up (optI l) m).bind fun _ m => (ev F z r m).bind fun h m => up (slD (look m a) l h) m := by rw [ev]
theorem e_call {f : String} : ev F (.call f es) r m = (evs F es r m).bind fun ds m => F f ds m := by rw [ev]
theorem e_bi {f : Bi} : ev F (.bi f es) r m = (evs F es r m).bind fun ds m => up (biD f (ds.map (look m))) m := by rw [ev]
theorem e_isi {t : String} : ev F (.isi x t) r m = (ev F x r m).bind fun a m => up ((isiD (look m a) t).map .bl) m := by rw [ev]
theorem e_comp {t : Tg} {k : Sk} {own : List Nat} : ev F (.comp x t k es cs own) r m = (evs F es r m).bind fun ds m => (up (srcM k ds m) m).bind fun items m =>
      ((loopC (turnC F x cs t (wipeE r own)) items (lockO (lkOf ds m) m)).mapMu (unlockO (lkOf ds m))).bind fun xs m => .ok (.lst xs) m := by rw [ev]; rfl
theorem e_bm {f : Bi} : ev F (.bm f x es) r m = (ev F x r m).bind fun a m => if kdOk f (look m a) = true then (evs F es r m).bind fun bs m => up (biD f (look m a :: bs.map (look m))) m else .bad := by rw [ev]
def fldD (f : String) : D → Option D
  | .ins _ fs => fs.lookup f
  | _ => none
theorem e_fld {f : String} : ev F (.fld x f) r m = (ev F x r m).bind fun a m => up (fldD f (look m a)) m := by
  rw [ev]; congr 1; funext a m; cases look m a <;> rfl
def revD : D → Option D
  | .lst xs => some (.lst xs.reverse)
  | .tup xs => some (.tup xs.reverse)
  | _ => none
theorem e_rev : ev F (.rev x) r m = (ev F x r m).bind fun a m => up (revD (look m a)) m := by
  rw [ev]; congr 1; funext a m; cases look m a <;> rfl
theorem e_new {c : String} : ev F (.new c es) r m = (evs F es r m).bind fun ds m => (F c ds m).calm := by rw [ev]
/-- which def a method is; none: not there -/
def metD (n : String) (cs : List String) : D → Option String
  | .ins c fs => if cs.contains c = true ∧ (fs.lookup n).isNone = true then some (c ++ "." ++ n) else none
  | _ => none
theorem e_meth {n : String} {cs : List String} : ev F (.meth x n cs es) r m = (ev F x r m).bind fun a m => (up (metD n cs (look m a)) m).bind fun f m => (evs F es r m).bind fun ds m => F f (a :: ds) m := by
  rw [ev]; congr 1; funext a m
  cases look m a with
  | ins c fs =>
    show (if cs.contains c = true ∧ (fs.lookup n).isNone = true then _ else _) = (up (if cs.contains c = true ∧ (fs.lookup n).isNone = true then some (c ++ "." ++ n) else none) m).bind _
    split <;> rfl
  | _ => rfl
def boxR (d : D) (m : Mu) : Res D := if isObj d = true then .ok (.box m.length) (m ++ [(false, d)]) else .bad
theorem e_box : ev F (.box x) r m = (ev F x r m).bind fun d m => boxR d m := by rw [ev] <;> rfl
def isxD (c : String) : D → Option D
  | .exc k => some (.bl (subx k c))
  | _ => none
theorem e_isx {c : String} : ev F (.isx x c) r m = (ev F x r m).bind fun a m => up (isxD c a) m := by
  rw [ev]; congr 1; funext a m; cases a <;> rfl
theorem es_nil : evs F [] r m = .ok [] m := by rw [evs]
theorem es_cons : evs F (x :: es) r m = (ev F x r m).bind fun d m => (evs F es r m).bind fun ds m => .ok (d :: ds) m := by rw [evs]
theorem ec_nil : evc F [] r m = .ok true m := by rw [evc]
theorem ec_cons : evc F (x :: es) r m = (ev F x r m).bind fun a m => (tstD a m).bind fun b m => if b = true then evc F es r m else .ok false m := by rw [evc]
theorem bind_ok {α β : Type} {a : α} {k : α → Mu → Res β} : (Res.ok a m).bind k = k a m := rfl
theorem on_ok {α : Type} {a : α} {k : α → Mu → Rs} : (Res.ok a m).on r k = k a m := rfl
theorem then_nx {k : Env → Mu → Rs} : (Rs.nx r m).then k = k r m := rfl
theorem then_rt {k : Env → Mu → Rs} : (Rs.rt d r m).then k = .rt d r m := rfl
theorem then_exc {k : Env → Mu → Rs} {c : String} : (Rs.exc c r m).then k = .exc c r m := rfl
theorem bind_exc {α β : Type} {c : String} {k : α → Mu → Res β} : (Res.exc c m).bind k = .exc c m := rfl
theorem on_exc {α : Type} {c : String} {k : α → Mu → Rs} : (Res.exc c m : Res α).on r k = .exc c r m := rfl
theorem up_some {α : Type} {a : α} : up (some a) m = .ok a m := rfl
theorem tst_bl {b : Bool} : tstD (.bl b) m = .ok b m := rfl
theorem mapMu_ok {α : Type} {a : α} {f : Mu → Mu} : (Res.ok a m).mapMu f = .ok a (f m) := rfl
theorem calm_ok {α : Type} {a : α} : (Res.ok a m).calm = .ok a m := rfl
theorem lkOf_nil {ds : List D} : lkOf ds [] = none := by
  unfold lkOf
  split
  · simp
  · rfl
theorem lock_no : lockO none m = m := rfl
theorem unlock_no : unlockO none m = m := rfl
variable {a b : List Wh.St} {s : Wh.St} {ss : List Wh.St}
theorem s_asg {i : Nat} : ex F (.asg i false x) r m = (ev F x r m).on r fun d m => .nx (r.set i (.val d)) m := by rw [ex]; rfl
theorem s_asgO {i : Nat} : ex F (.asg i true x) r m = (ev F x r m).on r fun d m => .nx (r.set i (ownIf d)) m := by rw [ex]; rfl
def unpR (is : List Nat) (d : D) (r : Env) (m : Mu) : Rs := match bindTg (.many is) d r with
  | some r => .nx r m
  | none => .bad
theorem s_unp {is : List Nat} : ex F (.unp is x) r m = (ev F x r m).on r fun d m => unpR is d r m := by rw [ex]; rfl
theorem s_par {i j : Nat} : ex F (.par i j x y) r m = (ev F x r m).on r fun a m => (ev F y r m).on r fun b m => .nx ((r.set i (.val a)).set j (.val b)) m := by rw [ex]
theorem s_app : ex F (.app x y) r m = (ev F x r m).on r fun a m => if isL (look m a) = true then (ev F y r m).on r fun d m => chg F (plc x a) r m (appD d) else .bad := by rw [ex]
theorem s_ext : ex F (.ext x y) r m = (ev F x r m).on r fun a m => if isL (look m a) = true then (ev F y r m).on r fun d m => chg F (plc x a) r m (extD (look m d)) else .bad := by rw [ex]
theorem s_seti : ex F (.seti x y z) r m = (ev F z r m).on r fun d m => (ev F x r m).on r fun a m => (ev F y r m).on r fun k m => chg F (plc x a) r m (setiD k d) := by rw [ex]
theorem s_setf {f : String} : ex F (.setf x f y) r m = (ev F y r m).on r fun d m => (ev F x r m).on r fun a m => chg F (plc x a) r m (setfD f d) := by rw [ex]
theorem s_raise {c : String} : ex F (.raise c) r m = .exc c r m := by rw [ex]
/-- a try's end, by its body's -/
def tryR (F : Fn) (c : String) (ks : List String) (nm : Option Nat) (su : List Wh.St) : Rs → Rs
  | .exc x r m => if ks.contains x = false then .bad else if subx x c = true then
        (match nm with
          | some i => match exs F su (r.set i (.val (.exc x))) m with
            | .nx _ m => if noAsgs su = true then .nx (r.set i .no) m else .bad
            | .rt d r' m => if noX d = true then .rt d r' m else .bad
            | _ => .bad
          | none => match exs F su r m with
            | .nx _ m => if noAsgs su = true then .nx r m else .bad
            | .rt d r' m => if noX d = true then .rt d r' m else .bad
            | _ => .bad)
        else .exc x r m
  | y => y
theorem s_try {a b : List Wh.St} {c : String} {ks : List String} {nm : Option Nat} : ex F (.try_ a c ks nm b) r m = tryR F c ks nm b (exs F a r m) := by
  rw [ex]
  cases exs F a r m <;> rfl
theorem s_expr : ex F (.expr x) r m = (ev F x r m).on r fun _ m => .nx r m := by rw [ex]
theorem s_ret : ex F (.ret x) r m = (ev F x r m).on r fun d m => .rt d r m := by rw [ex]
theorem s_ife : ex F (.ife x a b) r m = (ev F x r m).on r fun d m => (tstD d m).on r fun c m => if c = true then exs F a r m else exs F b r m := by rw [ex]
theorem s_for {t : Tg} {k : Sk} : ex F (.for_ t k es a) r m = (evs F es r m).on r fun ds m => (up (srcF k ds m) m).on r fun items m => loopF (stepF F t a) items r m := by rw [ex]; rfl
def tstW (F : Fn) (x : E) (r : Env) (m : Mu) : Res Bool := (ev F x r m).bind fun d m => tstD d m
def bodW (F : Fn) (a : List Wh.St) (r : Env) (m : Mu) : Rs := exs F a r m
theorem s_whl : ex F (.whl x a) r m = loopW (tstW F x) (bodW F a) fuelW r m := by rw [ex]; rfl
theorem s_fz {is : List Nat} : ex F (.fz is s) r m = ex F s (freeze r is) m := by rw [ex]
theorem s_pass : ex F .pass r m = .nx r m := by rw [ex]
theorem ss_nil : exs F [] r m = .nx r m := by rw [exs]
theorem ss_cons : exs F (s :: ss) r m = (ex F s r m).then fun r m => exs F ss r m := by rw [exs]
theorem slot_0 {s : Sl} : slot (s :: r) 0 = s := rfl
theorem slot_s {s : Sl} {i : Nat} : slot (s :: r) (i + 1) = slot r i := rfl
theorem plc_b {i : Nat} : plc (.b i) d = .sl i := rfl
def chgS (s : Sl) (i : Nat) (r : Env) (m : Mu) (f : D → Option D) : Rs := match s with
  | .own d => (match f d with
    | some d' => .nx (r.set i (.own d')) m
    | none => .bad)
  | .val d => chgB d r m f
  | .no => .bad
theorem chg_sl {i : Nat} {f : D → Option D} : chg F (.sl i) r m f = chgS (slot r i) i r m f := by
  simp only [chg, chgS] <;> (cases slot r i <;> rfl)
theorem chgS_own {i : Nat} {f : D → Option D} {d d' : D} (h : f d = some d') : chgS (.own d) i r m f = .nx (r.set i (.own d')) m := by
  simp only [chgS, h]
/-- a def that is no __init__ -/
def endR : Rs → Res D
  | .nx _ m => .ok .non m
  | .rt d _ m => .ok d m
  | .exc c _ m => .exc c m
  | .bad => .bad
theorem run_fd {f : String} {np ns : Nat} {ds : List D} (h : ds.length = np) : runFd F f ⟨false, np, ns, ss⟩ ds m = endR (exs F ss (ds.map .val ++ List.replicate (ns - ds.length) .no) m) := by
  unfold runFd
  rw [if_neg Bool.false_ne_true, if_pos h]
  simp only [startE]
  cases exs F ss (ds.map .val ++ List.replicate (ns - ds.length) .no) m <;> rfl
theorem phi_run {T : String → Option Fd} {k : Nat} {f : String} {fd : Fd} {ds : List D} (h : T f = some fd) (hi : fd.ini = false) (hl : ds.length = fd.np) : Phi T (k + 1) f ds m = endR (exs (Phi T k) fd.bd (ds.map .val ++ List.replicate (fd.ns - ds.length) .no) m) := by
  rw [phi_at h hi]
  obtain ⟨i, np, ns, bd⟩ := fd
  obtain rfl : i = false := hi
  exact run_fd hl
theorem src_rng1 {n : Int} (h : n ≤ 1000000) (h0 : -1000000 ≤ n) : srcM .rng [.int n] m = some (rngL 0 1 n.toNat) := by
  have h62 : lim62 n = true := by unfold lim62; simp; omega
  have hn : ¬ (True ∧ ¬ n.toNat ≤ big) := by unfold big; omega
  simp only [srcM, srcC, srcD, h62, if_true, Option.bind_some, rngL_len, if_neg hn]
theorem src_rng2 {a n : Int} (h : n ≤ 1000000) (h0 : -1000000 ≤ n) (ha : a ≤ 1000000) (ha0 : -1000000 ≤ a) : srcM .rng [.int a, .int n] m = some (rngL a 1 (n - a).toNat) := by
  have h62 : lim62 n = true := by unfold lim62; simp; omega
  have h62a : lim62 a = true := by unfold lim62; simp; omega
  have hn : ¬ (True ∧ ¬ (n - a).toNat ≤ big) := by unfold big; omega
  simp only [srcM, srcC, srcD, h62, h62a, Bool.and_self, if_true, Option.bind_some, rngL_len, if_neg hn]
theorem srcF_rng1 {n : Int} (h : n ≤ 1000000) (h0 : -1000000 ≤ n) : srcF .rng [.int n] m = some (rngL 0 1 n.toNat) := src_rng1 (m := m) h h0
theorem srcF_rng2 {a n : Int} (h : n ≤ 1000000) (h0 : -1000000 ≤ n) (ha : a ≤ 1000000) (ha0 : -1000000 ≤ a) : srcF .rng [.int a, .int n] m = some (rngL a 1 (n - a).toNat) := src_rng2 (m := m) h h0 ha ha0
theorem all_true {α : Type} (xs : List α) : biD .all [.lst (xs.map fun _ => D.bl true)] = some (.bl true) := by
  show (asBls _).map _ = _
  rw [asBls_map (fun _ => true) xs]
  simp
theorem bi_tupL {xs : List D} : biD .tup [.lst xs] = some (.tup xs) := rfl
theorem bi_addI {i j : Int} : binD .add (.int i) (.int j) = some (.int (i + j)) := rfl
theorem bi_subI {i j : Int} : binD .sub (.int i) (.int j) = some (.int (i - j)) := rfl
theorem bi_ltI {i j : Int} : cmpD .lt (.int i) (.int j) = some (.bl (decide (i < j))) := rfl
theorem bi_leI {i j : Int} : cmpD .le (.int i) (.int j) = some (.bl (decide (i ≤ j))) := rfl
theorem bi_gtI {i j : Int} : cmpD .gt (.int i) (.int j) = some (.bl (decide (j < i))) := rfl
theorem bi_geI {i j : Int} : cmpD .ge (.int i) (.int j) = some (.bl (decide (j ≤ i))) := rfl
theorem bi_eqI {i j : Int} : cmpD .eq (.int i) (.int j) = some (.bl (i == j)) := rfl
theorem bi_neI {i j : Int} : cmpD .ne (.int i) (.int j) = some (.bl (!(i == j))) := rfl
theorem bi_is {a b : Bool} : cmpD .is_ (.bl a) (.bl b) = some (.bl (a == b)) := rfl
theorem bi_isnot {a b : Bool} : cmpD .isnot (.bl a) (.bl b) = some (.bl (!(a == b))) := rfl
theorem ne_nilL (ns : List Int) : cmpD .ne (.lst (ns.map .int)) (.lst []) = some (.bl (!ns.isEmpty)) := by
  show (eqD _ _).map _ = _
  rw [eq_nilL] <;> rfl
theorem endR_rt : endR (.rt d r m) = .ok d m := rfl
theorem endR_nx : endR (.nx r m) = .ok .non m := rfl
theorem endR_exc {c : String} : endR (.exc c r m) = .exc c m := rfl
end
end Wh
/-! More rules, for simp with omega as its discharger. -/
namespace Wh
open PySem L2
theorem bi_mulA {i j : Int} (h1 : -18446744073709551616 < i) (h2 : i < 18446744073709551616) : binD .mul (.int i) (.int j) = some (.int (i * j)) := if_pos (.inl ⟨h1, h2⟩)
theorem bi_mulB {i j : Int} (h1 : -18446744073709551616 < j) (h2 : j < 18446744073709551616) : binD .mul (.int i) (.int j) = some (.int (i * j)) := if_pos (.inr ⟨h1, h2⟩)
theorem bi_fdv {i j : Int} (h1 : 0 < j) (h2 : j < 1073741824) : binD .fdiv (.int i) (.int j) = some (.int (i / j)) := if_pos ⟨h1, h2⟩
theorem bi_modI {i j : Int} (h1 : 0 < j) : binD .mod (.int i) (.int j) = some (.int (i % j)) := if_pos h1
theorem bi_dvm {i j : Int} (h1 : 0 < j) (h2 : j < 1073741824) : biD .divmod [.int i, .int j] = some (.tup [.int (i / j), .int (i % j)]) := if_pos ⟨h1, h2⟩
theorem bi_rlen {a b c : Int} (h1 : -1000000000 ≤ a) (h2 : a ≤ 1000000000) (h3 : -1000000000 ≤ b) (h4 : b ≤ 1000000000) (h5 : 0 < c) (h6 : c < 1073741824) : biD .rlen [.int a, .int b, .int c] = some (.int (rngN a b c : Nat)) := if_pos (by simp [lim62]; omega)
theorem kd_ix {xs : List D} : kdOk .index (.lst xs) = true := rfl
theorem bi_sumT {ns : List Int} : biD .sum [.tup (ns.map .int)] = some (.int ns.sum) := by show (asInts _).map _ = _; rw [asInts_map] <;> rfl
theorem bi_mx2 {i j : Int} : biD .mx2 [.int i, .int j] = some (.int (if j > i then j else i)) := rfl
theorem bi_mn2 {i j : Int} : biD .mn2 [.int i, .int j] = some (.int (if j < i then j else i)) := rfl
theorem bi_lenL {xs : List D} : biD .len [.lst xs] = some (.int xs.length) := rfl
theorem bi_lenT {xs : List D} : biD .len [.tup xs] = some (.int xs.length) := rfl
theorem bi_intB {b : Bool} : biD .int [.bl b] = some (.int (if b then 1 else 0)) := rfl
theorem bi_lstT {xs : List D} : biD .list [.tup xs] = some (.lst xs) := rfl
theorem bi_lstL {xs : List D} : biD .list [.lst xs] = some (.lst xs) := rfl
theorem bi_sumI {ns : List Int} : biD .sum [.lst (ns.map .int)] = some (.int ns.sum) := by show (asInts _).map _ = _; rw [asInts_map] <;> rfl
theorem is_nI {i : Int} : cmpD .is_ (.int i) .non = some (.bl false) := rfl
theorem is_nN : cmpD .is_ .non .non = some (.bl true) := rfl
theorem isn_I {i : Int} : cmpD .isnot (.int i) .non = some (.bl true) := rfl
theorem isn_N : cmpD .isnot .non .non = some (.bl false) := rfl
theorem eq_IN {i : Int} : cmpD .eq (.int i) .non = some (.bl false) := rfl
theorem eq_NI {i : Int} : cmpD .eq .non (.int i) = some (.bl false) := rfl
theorem eq_NN : cmpD .eq .non .non = some (.bl true) := rfl
theorem ne_IN {i : Int} : cmpD .ne (.int i) .non = some (.bl true) := rfl
theorem ne_NI {i : Int} : cmpD .ne .non (.int i) = some (.bl true) := rfl
theorem ne_NN : cmpD .ne .non .non = some (.bl false) := rfl
theorem eq_BB {a b : Bool} : cmpD .eq (.bl a) (.bl b) = some (.bl (a == b)) := rfl
theorem ne_BB {a b : Bool} : cmpD .ne (.bl a) (.bl b) = some (.bl (!(a == b))) := rfl
theorem neg_I {i : Int} : negD (.int i) = some (.int (-i)) := rfl
theorem is_L {xs : List D} : isL (.lst xs) = true := rfl
theorem ow_L {xs : List D} : ownIf (.lst xs) = .own (.lst xs) := rfl
theorem it1_0 {a : D} : idxD (.tup [a]) (.int 0) = some a := rfl
theorem il1_0 {a : D} : idxD (.lst [a]) (.int 0) = some a := rfl
theorem it2_0 {a b : D} : idxD (.tup [a, b]) (.int 0) = some a := rfl
theorem il2_0 {a b : D} : idxD (.lst [a, b]) (.int 0) = some a := rfl
theorem it2_1 {a b : D} : idxD (.tup [a, b]) (.int 1) = some b := rfl
theorem il2_1 {a b : D} : idxD (.lst [a, b]) (.int 1) = some b := rfl
theorem it3_0 {a b c : D} : idxD (.tup [a, b, c]) (.int 0) = some a := rfl
theorem il3_0 {a b c : D} : idxD (.lst [a, b, c]) (.int 0) = some a := rfl
theorem it3_1 {a b c : D} : idxD (.tup [a, b, c]) (.int 1) = some b := rfl
theorem il3_1 {a b c : D} : idxD (.lst [a, b, c]) (.int 1) = some b := rfl
theorem it3_2 {a b c : D} : idxD (.tup [a, b, c]) (.int 2) = some c := rfl
theorem il3_2 {a b c : D} : idxD (.lst [a, b, c]) (.int 2) = some c := rfl
theorem it4_0 {a b c d : D} : idxD (.tup [a, b, c, d]) (.int 0) = some a := rfl
theorem il4_0 {a b c d : D} : idxD (.lst [a, b, c, d]) (.int 0) = some a := rfl
theorem it4_1 {a b c d : D} : idxD (.tup [a, b, c, d]) (.int 1) = some b := rfl
theorem il4_1 {a b c d : D} : idxD (.lst [a, b, c, d]) (.int 1) = some b := rfl
theorem it4_2 {a b c d : D} : idxD (.tup [a, b, c, d]) (.int 2) = some c := rfl
theorem il4_2 {a b c d : D} : idxD (.lst [a, b, c, d]) (.int 2) = some c := rfl
theorem it4_3 {a b c d : D} : idxD (.tup [a, b, c, d]) (.int 3) = some d := rfl
theorem il4_3 {a b c d : D} : idxD (.lst [a, b, c, d]) (.int 3) = some d := rfl
theorem it5_0 {a b c d e : D} : idxD (.tup [a, b, c, d, e]) (.int 0) = some a := rfl
theorem il5_0 {a b c d e : D} : idxD (.lst [a, b, c, d, e]) (.int 0) = some a := rfl
theorem it5_1 {a b c d e : D} : idxD (.tup [a, b, c, d, e]) (.int 1) = some b := rfl
theorem il5_1 {a b c d e : D} : idxD (.lst [a, b, c, d, e]) (.int 1) = some b := rfl
theorem it5_2 {a b c d e : D} : idxD (.tup [a, b, c, d, e]) (.int 2) = some c := rfl
theorem il5_2 {a b c d e : D} : idxD (.lst [a, b, c, d, e]) (.int 2) = some c := rfl
theorem it5_3 {a b c d e : D} : idxD (.tup [a, b, c, d, e]) (.int 3) = some d := rfl
theorem il5_3 {a b c d e : D} : idxD (.lst [a, b, c, d, e]) (.int 3) = some d := rfl
theorem it5_4 {a b c d e : D} : idxD (.tup [a, b, c, d, e]) (.int 4) = some e := rfl
theorem il5_4 {a b c d e : D} : idxD (.lst [a, b, c, d, e]) (.int 4) = some e := rfl
theorem un2 {i j : Nat} {a b : D} {r : Env} {m : Mu} : unpR [i, j] (.tup [a, b]) r m = .nx ((r.set i (.val a)).set j (.val b)) m := rfl
theorem bt2 {i j : Nat} {a b : D} {r : Env} : bindTg (.many [i, j]) (.tup [a, b]) r = some ((r.set i (.val a)).set j (.val b)) := rfl
theorem un3 {i j k : Nat} {a b c : D} {r : Env} {m : Mu} : unpR [i, j, k] (.tup [a, b, c]) r m = .nx (((r.set i (.val a)).set j (.val b)).set k (.val c)) m := rfl
theorem bt3 {i j k : Nat} {a b c : D} {r : Env} : bindTg (.many [i, j, k]) (.tup [a, b, c]) r = some (((r.set i (.val a)).set j (.val b)).set k (.val c)) := rfl
theorem un4 {i j k l : Nat} {a b c d : D} {r : Env} {m : Mu} : unpR [i, j, k, l] (.tup [a, b, c, d]) r m = .nx ((((r.set i (.val a)).set j (.val b)).set k (.val c)).set l (.val d)) m := rfl
theorem bt4 {i j k l : Nat} {a b c d : D} {r : Env} : bindTg (.many [i, j, k, l]) (.tup [a, b, c, d]) r = some ((((r.set i (.val a)).set j (.val b)).set k (.val c)).set l (.val d)) := rfl
theorem un5 {i j k l p : Nat} {a b c d e : D} {r : Env} {m : Mu} : unpR [i, j, k, l, p] (.tup [a, b, c, d, e]) r m = .nx (((((r.set i (.val a)).set j (.val b)).set k (.val c)).set l (.val d)).set p (.val e)) m := rfl
theorem bt5 {i j k l p : Nat} {a b c d e : D} {r : Env} : bindTg (.many [i, j, k, l, p]) (.tup [a, b, c, d, e]) r = some (((((r.set i (.val a)).set j (.val b)).set k (.val c)).set l (.val d)).set p (.val e)) := rfl
theorem bt1 {i : Nat} {a : D} {r : Env} : bindTg (.one i) a r = some (r.set i (.val a)) := rfl
theorem stF {F : Fn} {t : Tg} {bd : List Wh.St} {x : D} {r : Env} {m : Mu} : stepF F t bd x r m = (up (bindTg t x r) m).on r fun r m => exs F bd r m := by simp only [stepF] <;> (cases bindTg t x r <;> rfl)
theorem srcL {xs : List D} {m : Mu} : srcM .it [.lst xs] m = some xs := by simp only [srcM, srcC, List.map_cons, List.map_nil, look, srcD, Option.bind_some, if_neg (show ¬ (Sk.it = Sk.rng ∧ ¬ xs.length ≤ big) from fun h => by cases h.1)]
theorem srcT {xs : List D} {m : Mu} : srcM .it [.tup xs] m = some xs := by simp only [srcM, srcC, List.map_cons, List.map_nil, look, srcD, Option.bind_some, if_neg (show ¬ (Sk.it = Sk.rng ∧ ¬ xs.length ≤ big) from fun h => by cases h.1)]
theorem srcFL {xs : List D} {m : Mu} : srcF .it [.lst xs] m = some xs := srcL
theorem srcFT {xs : List D} {m : Mu} : srcF .it [.tup xs] m = some xs := srcT
theorem app_L {xs : List D} {i : Nat} {x : D} {r : Env} {m : Mu} (h : xs.length < 1000000) : chgS (.own (.lst xs)) i r m (appD x) = .nx (r.set i (.own (.lst (xs ++ [x])))) m := chgS_own (if_pos h)
theorem ext_L {xs ys : List D} {i : Nat} {r : Env} {m : Mu} (h : xs.length + ys.length < 1000000) : chgS (.own (.lst xs)) i r m (extD (.lst ys)) = .nx (r.set i (.own (.lst (xs ++ ys)))) m := chgS_own (if_pos h)
theorem add_L {xs ys : List D} (h : xs.length + ys.length ≤ 16777216) : binD .add (.lst xs) (.lst ys) = some (.lst (xs ++ ys)) := if_pos h
theorem add_T {xs ys : List D} (h : xs.length + ys.length ≤ 16777216) : binD .add (.tup xs) (.tup ys) = some (.tup (xs ++ ys)) := if_pos h
theorem idx_enc {α : Type} {enc : α → D} {xs : List α} {i : Int} (h0 : 0 ≤ i) (h1 : i < xs.length) : ∃ x, x ∈ xs ∧ xs[i.toNat]? = some x ∧ idxD (.lst (xs.map enc)) (.int i) = some (enc x) ∧ idxD (.tup (xs.map enc)) (.int i) = some (enc x) := by
  have hl : i.toNat < xs.length := by omega
  have hix : ixN (xs.map enc).length i = some i.toNat := by
    unfold ixN
    rw [List.length_map, if_pos h0, if_pos h1]
  have e : atI (xs.map enc) i = some (enc xs[i.toNat]) := by
    unfold atI
    rw [hix]
    show (xs.map enc)[i.toNat]? = _
    rw [List.getElem?_map, List.getElem?_eq_getElem hl]
    rfl
  exact ⟨xs[i.toNat], List.getElem_mem hl, List.getElem?_eq_getElem hl, e, e⟩
theorem decN {p : Prop} [Decidable p] (h : ¬ p) : decide p = false := decide_eq_false h
theorem decY {p : Prop} [Decidable p] (h : p) : decide p = true := decide_eq_true h
end Wh
/-! Lists of pairs, told plainly. -/
namespace Wh
open PySem L2
def enP (p : Int × Int) : D := .tup [.int p.1, .int p.2]
def pyP (p : Int × Int) : PyData := .tuple [.int p.1, .int p.2]
theorem toPs_prs (n : Nat) : ∀ (ps : List (Int × Int)), toPs (n + 2) (ps.map enP) = some (ps.map pyP)
  | [] => rfl
  | p :: ps => by
    rw [List.map_cons, toPs, toPs_prs n ps]
    rfl
theorem eqv_prs : ∀ (ps qs : List (Int × Int)), PyData.eqvAll (ps.map pyP) (qs.map pyP) = decide (ps = qs)
  | [], [] => by simp [PyData.eqvAll]
  | [], q :: qs => by simp [PyData.eqvAll]
  | p :: ps, [] => by simp [PyData.eqvAll]
  | (a, b) :: ps, (c, d) :: qs => by
    rw [List.map_cons, List.map_cons, PyData.eqvAll, eqv_prs ps qs]
    simp only [pyP, PyData.eqv, PyData.eqvAll, Bool.and_true]
    by_cases h1 : a = c <;> by_cases h2 : b = d <;> by_cases h3 : ps = qs <;> simp [h1, h2, h3]
theorem eqv_ints : ∀ (ps qs : List Int), PyData.eqvAll (ps.map .int) (qs.map .int) = decide (ps = qs)
  | [], [] => by simp [PyData.eqvAll]
  | [], q :: qs => by simp [PyData.eqvAll]
  | p :: ps, [] => by simp [PyData.eqvAll]
  | a :: ps, c :: qs => by
    rw [List.map_cons, List.map_cons, PyData.eqvAll, eqv_ints ps qs]
    simp only [PyData.eqv]
    by_cases h1 : a = c <;> by_cases h3 : ps = qs <;> simp [h1, h3]
theorem eqD_prs (ps qs : List (Int × Int)) : eqD (.lst (ps.map enP)) (.lst (qs.map enP)) = some (decide (ps = qs)) := by
  unfold eqD
  simp only [scalD, deepD, toP, toPs_prs, Option.map_some, Option.bind_some, PyData.eqv, eqv_prs]
theorem eqD_prsT (ps qs : List (Int × Int)) : eqD (.tup (ps.map enP)) (.tup (qs.map enP)) = some (decide (ps = qs)) := by
  unfold eqD
  simp only [scalD, deepD, toP, toPs_prs, Option.map_some, Option.bind_some, PyData.eqv, eqv_prs]
theorem eqD_ints (ps qs : List Int) : eqD (.lst (ps.map .int)) (.lst (qs.map .int)) = some (decide (ps = qs)) := by
  unfold eqD
  simp only [scalD, deepD, toP, toPs_ints, Option.map_some, Option.bind_some, PyData.eqv, eqv_ints]
theorem eqD_intsT (ps qs : List Int) : eqD (.tup (ps.map .int)) (.tup (qs.map .int)) = some (decide (ps = qs)) := by
  unfold eqD
  simp only [scalD, deepD, toP, toPs_ints, Option.map_some, Option.bind_some, PyData.eqv, eqv_ints]
theorem nil_of {α : Type} (p : List α) [Decidable (p = [])] : decide (p = []) = p.isEmpty := by cases p <;> simp
theorem ne_prs {ps qs : List (Int × Int)} : cmpD .ne (.lst (ps.map enP)) (.lst (qs.map enP)) = some (.bl (!decide (ps = qs))) := by
  show (eqD _ _).map _ = _
  rw [eqD_prs] <;> rfl
theorem ne_prs0 {ps : List (Int × Int)} : cmpD .ne (.lst (ps.map enP)) (.lst []) = some (.bl (!ps.isEmpty)) := by
  have := ne_prs (ps := ps) (qs := [])
  rw [nil_of] at this
  exact this
theorem eq_prs0 {ps : List (Int × Int)} : cmpD .eq (.lst (ps.map enP)) (.lst []) = some (.bl ps.isEmpty) := by
  show (eqD _ (.lst (List.map enP []))).map _ = _
  rw [eqD_prs, nil_of] <;> rfl
theorem ne_ints {ps qs : List Int} : cmpD .ne (.lst (ps.map .int)) (.lst (qs.map .int)) = some (.bl (!decide (ps = qs))) := by
  show (eqD _ _).map _ = _
  rw [eqD_ints] <;> rfl
theorem ne_intsT {ps qs : List Int} : cmpD .ne (.tup (ps.map .int)) (.tup (qs.map .int)) = some (.bl (!decide (ps = qs))) := by
  show (eqD _ _).map _ = _
  rw [eqD_intsT] <;> rfl
theorem idx_last {α : Type} {enc : α → D} {pre : List α} {c : α} : idxD (.lst ((pre ++ [c]).map enc)) (.int (-1)) = some (enc c) := by
  rw [List.map_append]
  exact atI_last _ _
theorem ixN_last (n : Nat) : ixN (n + 1) (-1) = some n := by
  unfold ixN
  rw [if_neg (by decide), if_pos (by omega)]
  congr 1
  omega
theorem set_last {α : Type} {enc : α → D} {pre : List α} {c x : α} {i : Nat} {r : Env} {m : Mu} : chgS (.own (.lst ((pre ++ [c]).map enc))) i r m (setiD (.int (-1)) (enc x)) = .nx (r.set i (.own (.lst ((pre ++ [x]).map enc)))) m := by
  refine chgS_own ?_
  show (ixN ((pre ++ [c]).map enc).length (-1)).map _ = _
  rw [List.length_map, List.length_append, List.length_singleton, ixN_last, Option.map_some, List.map_append, List.map_append, List.set_append_right _ _ (by rw [List.length_map]; exact Nat.le_refl _), List.length_map, Nat.sub_self]
  rfl
theorem asPrs_map : ∀ (ps : List (Int × Int)), asPrs (ps.map enP) = some ps
  | [] => rfl
  | p :: ps => by
    rw [List.map_cons]
    show (asPrs (ps.map enP)).map _ = _
    rw [asPrs_map ps] <;> rfl
theorem sort_prs {ps : List (Int × Int)} : biD .sorted [.lst (ps.map enP)] = some (.lst ((sortBy ltP ps).map enP)) := by
  cases ps with
  | nil => rfl
  | cons p ps =>
    show (sortD _).map _ = _
    have h1 : asInts ((p :: ps).map enP) = none := rfl
    have h2 : asStrs ((p :: ps).map enP) = none := rfl
    unfold sortD
    rw [h1, h2, asPrs_map]
    rfl
theorem any_int (ds : List Int) (i : Int) : ((ds.map D.int).any fun y => eqF y (.int i)) = ds.contains i := by
  rw [List.any_map]
  induction ds with
  | nil => rfl
  | cons d ds ih =>
    rw [List.any_cons, List.contains_cons, ih]
    show (d == i || ds.contains i) = (i == d || ds.contains i)
    rw [show (d == i) = (i == d) from Bool.eq_iff_iff.mpr (by simp; exact eq_comm)]
theorem flat_int (ds : List Int) : (ds.map D.int).all flatD = true := by
  rw [List.all_map, List.all_eq_true]
  intro x _
  rfl
theorem in_tupI {i : Int} {ds : List Int} : cmpD .isin (.int i) (.tup (ds.map .int)) = some (.bl (ds.contains i)) := by
  show Option.map D.bl (if (flatD (.int i) && (ds.map D.int).all flatD) = true then some ((ds.map D.int).any fun y => eqF y (.int i)) else none) = _
  rw [flat_int, any_int]
  rfl
theorem in_lstI' (i : Int) (ds : List Int) : inD (.int i) (.lst (ds.map .int)) = some (ds.contains i) := by
  show ((toP 60 (.int i)).bind fun p => (toPs 59 (ds.map .int)).map fun ps => ps.any fun z => PyData.eqv z p) = _
  rw [toPs_ints]
  show some ((ds.map PyData.int).any fun z => PyData.eqv z (.int i)) = _
  congr 1
  rw [List.any_map]
  induction ds with
  | nil => rfl
  | cons d ds ih =>
    rw [List.any_cons, List.contains_cons, ih]
    have : PyData.eqv (.int d) (.int i) = (i == d) := by
      rw [PyData.eqv]
      exact Bool.eq_iff_iff.mpr (by simp; exact eq_comm)
    show (PyData.eqv (.int d) (.int i) || ds.contains i) = _
    rw [this]
theorem in_lstI {i : Int} {ds : List Int} : cmpD .isin (.int i) (.lst (ds.map .int)) = some (.bl (ds.contains i)) := by
  show (inD _ _).map _ = _
  rw [in_lstI'] <;> rfl
theorem notin_lstI {i : Int} {ds : List Int} : cmpD .notin (.int i) (.lst (ds.map .int)) = some (.bl (!ds.contains i)) := by
  show (inD _ _).map _ = _
  rw [in_lstI'] <;> rfl
theorem set_at {α : Type} {enc : α → D} {l : List α} {x : α} {i : Int} (h0 : 0 ≤ i) (h1 : i < l.length) {j : Nat} {r : Env} {m : Mu} : chgS (.own (.lst (l.map enc))) j r m (setiD (.int i) (enc x)) = .nx (r.set j (.own (.lst ((l.set i.toNat x).map enc)))) m := by
  refine chgS_own ?_
  have hix : ixN (l.map enc).length i = some i.toNat := by
    unfold ixN
    rw [List.length_map, if_pos h0, if_pos h1]
  show (ixN (l.map enc).length i).map _ = _
  rw [hix, Option.map_some, List.map_set]
theorem mnI_le : ∀ {ns : List Int}, ns ≠ [] → mnI ns ∈ ns ∧ ∀ n ∈ ns, mnI ns ≤ n
  | [], h => absurd rfl h
  | [x], _ => ⟨List.mem_cons_self, fun n hn => by obtain rfl := List.mem_singleton.mp hn; exact Int.le_refl _⟩
  | x :: y :: r, _ => by
    obtain ⟨h1, h2⟩ := mnI_le (ns := y :: r) (by simp)
    show min x (mnI (y :: r)) ∈ _ ∧ ∀ n ∈ _, min x (mnI (y :: r)) ≤ n
    by_cases h : x ≤ mnI (y :: r)
    · rw [Int.min_eq_left h]
      refine ⟨List.mem_cons_self, fun n hn => ?_⟩
      rcases List.mem_cons.mp hn with rfl | hn
      · exact Int.le_refl _
      · have := h2 n hn; omega
    · rw [Int.min_eq_right (by omega)]
      refine ⟨List.mem_cons_of_mem _ h1, fun n hn => ?_⟩
      rcases List.mem_cons.mp hn with rfl | hn
      · omega
      · exact h2 n hn
theorem mn_ints {ns : List Int} (h : ns ≠ []) : biD .mn1 [.lst (ns.map .int)] = some (.int (mnI ns)) := by
  show (match asInts (ns.map D.int) with
    | some ns => if ns = [] then none else some (D.int (mnI ns))
    | none => _) = _
  rw [asInts_map]
  show (if ns = [] then none else _) = _
  rw [if_neg h]
theorem mn_prs {ps : List (Int × Int)} (h : ps ≠ []) : biD .mn1 [.lst (ps.map enP)] = some (enP (mnP ps)) := by
  cases ps with
  | nil => exact absurd rfl h
  | cons p ps =>
    have h1 : asInts ((p :: ps).map enP) = none := rfl
    show (match asInts ((p :: ps).map enP) with
      | some ns => if ns = [] then none else some (D.int (mnI ns))
      | none => (asPrs ((p :: ps).map enP)).bind fun ps => if ps = [] then none else some (prD (mnP ps))) = _
    rw [h1]
    show ((asPrs ((p :: ps).map enP)).bind fun ps => if ps = [] then none else some (prD (mnP ps))) = _
    rw [asPrs_map]
    show (if (p :: ps) = [] then none else some (prD (mnP (p :: ps)))) = _
    rw [if_neg h]
    rfl
theorem none_in {step : D → Mu → Res (Option D)} : ∀ {xs : List D}, (∀ x ∈ xs, step x [] = .ok none []) → loopC step xs [] = .ok [] []
  | [], _ => rfl
  | x :: xs, h => by
    rw [loopC, h x List.mem_cons_self]
    simp only [Res.bind]
    rw [none_in fun y hy => h y (List.mem_cons_of_mem _ hy)]
theorem rng_mem {a : Int} {n : Nat} {x : D} (h : x ∈ rngL a 1 n) : ∃ k : Nat, k < n ∧ x = .int (a + k) := by
  unfold rngL at h
  obtain ⟨k, hk, rfl⟩ := List.mem_map.mp h
  exact ⟨k, List.mem_range.mp hk, by rw [Int.mul_one]⟩
theorem ss_app {F : Fn} : ∀ {a b : List Wh.St} {r : Env} {m : Mu}, exs F (a ++ b) r m = (exs F a r m).then fun r m => exs F b r m
  | [], b, r, m => by rw [ss_nil, then_nx, List.nil_append]
  | x :: a, b, r, m => by
    rw [List.cons_append, ss_cons, ss_cons]
    cases ex F x r m with
    | nx r m => rw [then_nx, then_nx]; exact ss_app
    | rt d r m => rfl
    | exc c r m => rfl
    | bad => rfl
/-- a comprehension at a stroke: nothing is looked into -/
theorem comp_src {F : Fn} {x : E} {cs es : List E} {t : Tg} {k : Sk} {own : List Nat} {r : Env} {ds items L : List D} (h1 : evs F es r [] = .ok ds []) (h2 : srcM k ds [] = some items) (h3 : loopC (turnC F x cs t (wipeE r own)) items [] = .ok L []) : ev F (.comp x t k es cs own) r [] = .ok (.lst L) [] := by
  rw [e_comp, h1]
  show (up (srcM k ds []) []).bind _ = _
  rw [h2]
  show ((loopC (turnC F x cs t (wipeE r own)) items (lockO (lkOf ds []) [])).mapMu (unlockO (lkOf ds []))).bind _ = _
  rw [lkOf_nil]
  show ((loopC (turnC F x cs t (wipeE r own)) items []).mapMu (unlockO none)).bind _ = _
  rw [h3]
  rfl
theorem any_map {α : Type} {xs : List α} {p : α → Bool} : biD .any [.lst (xs.map fun x => D.bl (p x))] = some (.bl (xs.any p)) := by
  show (asBls _).map _ = _
  rw [asBls_map, Option.map_some, List.any_map]
  rfl
theorem all_map {α : Type} {xs : List α} {p : α → Bool} : biD .all [.lst (xs.map fun x => D.bl (p x))] = some (.bl (xs.all p)) := by
  show (asBls _).map _ = _
  rw [asBls_map, Option.map_some, List.all_map]
  rfl
theorem sum_map {α : Type} {xs : List α} {f : α → Int} : biD .sum [.lst (xs.map fun x => D.int (f x))] = some (.int (xs.map f).sum) := by
  have := bi_sumI (ns := xs.map f)
  rw [List.map_map] at this
  exact this
theorem len_map {α : Type} {xs : List α} {enc : α → D} : biD .len [.lst (xs.map enc)] = some (.int xs.length) := by rw [bi_lenL, List.length_map]
theorem len_mapT {α : Type} {xs : List α} {enc : α → D} : biD .len [.tup (xs.map enc)] = some (.int xs.length) := by rw [bi_lenT, List.length_map]
theorem app_map {α : Type} {enc : α → D} {l : List α} (h : l.length < 1000000) {i : Nat} {x : α} {r : Env} {m : Mu} : chgS (.own (.lst (l.map enc))) i r m (appD (enc x)) = .nx (r.set i (.own (.lst ((l ++ [x]).map enc)))) m := by
  rw [app_L (by rw [List.length_map]; exact h), List.map_append]
  rfl
theorem ext_map {α : Type} {enc : α → D} {l l' : List α} (h : l.length + l'.length < 1000000) {i : Nat} {r : Env} {m : Mu} : chgS (.own (.lst (l.map enc))) i r m (extD (.lst (l'.map enc))) = .nx (r.set i (.own (.lst ((l ++ l').map enc)))) m := by
  rw [ext_L (by rw [List.length_map, List.length_map]; exact h), List.map_append]
theorem add_map {α : Type} {enc : α → D} {l l' : List α} (h : l.length + l'.length ≤ 16777216) : binD .add (.lst (l.map enc)) (.lst (l'.map enc)) = some (.lst ((l ++ l').map enc)) := by
  rw [add_L (by rw [List.length_map, List.length_map]; exact h), List.map_append]
theorem add_mapT {α : Type} {enc : α → D} {l l' : List α} (h : l.length + l'.length ≤ 16777216) : binD .add (.tup (l.map enc)) (.tup (l'.map enc)) = some (.tup ((l ++ l').map enc)) := by
  rw [add_T (by rw [List.length_map, List.length_map]; exact h), List.map_append]
end Wh
/-! What is run without boxes runs so beside any. -/
namespace Wh
open PySem L2
structure FrR {α : Type} (f : Mu → Res α) : Prop where
  g1 : ∀ m d m', f m = .ok d m' → m.length ≤ m'.length
  g2 : ∀ m c m', f m = .exc c m' → m.length ≤ m'.length
  ok : ∀ d, f [] = .ok d [] → ∀ m, f m = .ok d m
  exc : ∀ c, f [] = .exc c [] → ∀ m, f m = .exc c m
theorem nil_of_le {m : Mu} (h : m.length ≤ ([] : Mu).length) : m = [] := List.eq_nil_of_length_eq_zero (Nat.le_zero.mp h)
namespace FrR
theorem pure {α : Type} (a : α) : FrR (fun m => .ok a m) := ⟨fun m d m' h => (by cases h; exact Nat.le_refl _), fun m c m' h => (by cases h), fun d h m => (by cases h; rfl), fun c h m => (by cases h)⟩
theorem bad {α : Type} : FrR (fun _ => (.bad : Res α)) := ⟨fun m d m' h => (by cases h), fun m c m' h => (by cases h), fun d h m => (by cases h), fun c h m => (by cases h)⟩
theorem exc' {α : Type} (c : String) : FrR (fun m => (.exc c m : Res α)) := ⟨fun m d m' h => (by cases h), fun m c m' h => (by cases h; exact Nat.le_refl _), fun d h m => (by cases h), fun c h m => (by cases h; rfl)⟩
theorem upL {α : Type} {o : Mu → Option α} (h : ∀ d, o [] = some d → ∀ m, o m = some d) : FrR (fun m => Wh.up (o m) m) := by
  refine ⟨fun m d m' e => ?_, fun m c m' e => ?_, fun d e m => ?_, fun c e m => ?_⟩
  · have : Wh.up (o m) m = .ok d m' := e
    cases q : o m with
    | none => rw [q] at this; cases this
    | some a => rw [q] at this; cases this; exact Nat.le_refl _
  · have : Wh.up (o m) m = .exc c m' := e
    cases q : o m with
    | none => rw [q] at this; cases this
    | some a => rw [q] at this; cases this
  · have : Wh.up (o []) [] = .ok d [] := e
    cases q : o [] with
    | none => rw [q] at this; cases this
    | some a =>
      rw [q] at this
      cases this
      show Wh.up (o m) m = _
      rw [h _ q m]
      rfl
  · have : Wh.up (o []) [] = .exc c [] := e
    cases q : o [] with
    | none => rw [q] at this; cases this
    | some a => rw [q] at this; cases this
theorem up {α : Type} (o : Option α) : FrR (fun m => Wh.up o m) := upL fun d h m => h
theorem bind {α β : Type} {f : Mu → Res α} {k : α → Mu → Res β} (hf : FrR f) (hk : ∀ a, FrR (k a)) : FrR (fun m => (f m).bind k) := by
  refine ⟨fun m d m' h => ?_, fun m c m' h => ?_, fun d h m => ?_, fun c h m => ?_⟩
  · obtain ⟨a, m1, e1, e2⟩ := bind_some' (show (f m).bind k = .ok d m' from h)
    exact Nat.le_trans (hf.g1 m a m1 e1) ((hk a).g1 m1 d m' e2)
  · have h : (f m).bind k = .exc c m' := h
    cases e : f m with
    | bad => rw [e] at h; cases h
    | exc c2 m2 => rw [e] at h; cases h; exact hf.g2 m _ _ e
    | ok a m1 => rw [e] at h; exact Nat.le_trans (hf.g1 m a m1 e) ((hk a).g2 m1 c m' h)
  · obtain ⟨a, m1, e1, e2⟩ := bind_some' (show (f []).bind k = .ok d [] from h)
    obtain rfl := nil_of_le ((hk a).g1 m1 d [] e2)
    show (f m).bind k = _
    rw [hf.ok a e1 m]
    exact (hk a).ok d e2 m
  · have h : (f []).bind k = .exc c [] := h
    show (f m).bind k = _
    cases e : f [] with
    | bad => rw [e] at h; cases h
    | exc c2 m2 => rw [e] at h; cases h; rw [hf.exc _ e m]; rfl
    | ok a m1 =>
      rw [e] at h
      have h : k a m1 = .exc c [] := h
      obtain rfl := nil_of_le ((hk a).g2 m1 c [] h)
      rw [hf.ok a e m]
      exact (hk a).exc c h m
theorem calm {α : Type} {f : Mu → Res α} (hf : FrR f) : FrR (fun m => (f m).calm) := by
  have e1 : ∀ m d m', (f m).calm = .ok d m' → f m = .ok d m' := fun m d m' h => by
    cases e : f m with
    | bad => rw [e] at h; cases h
    | exc c2 m2 => rw [e] at h; cases h
    | ok a m1 => rw [e] at h; exact h
  have e2 : ∀ m c m', (f m).calm ≠ .exc c m' := fun m c m' h => by
    cases e : f m with
    | bad => rw [e] at h; cases h
    | exc c2 m2 => rw [e] at h; cases h
    | ok a m1 => rw [e] at h; cases h
  exact ⟨fun m d m' h => hf.g1 m d m' (e1 m d m' h), fun m c m' h => absurd h (e2 m c m'), fun d h m => by
    show (f m).calm = _
    rw [hf.ok d (e1 [] d [] h) m]
    rfl, fun c h m => absurd h (e2 [] c [])⟩
theorem ite {α : Type} {f g : Mu → Res α} (p : Prop) [Decidable p] (hf : FrR f) (hg : FrR g) : FrR (fun m => if p then f m else g m) := by
  by_cases h : p
  · simp only [if_pos h]; exact hf
  · simp only [if_neg h]; exact hg
theorem cond {α : Type} {f g : Mu → Res α} (b : Bool) (hf : FrR f) (hg : FrR g) : FrR (fun m => if b = true then f m else g m) := ite (b = true) hf hg
theorem tst (a : D) : FrR (tstD a) := by
  cases a <;> first | exact bad | exact pure _
theorem congr {α : Type} {f g : Mu → Res α} (h : ∀ m, f m = g m) (hg : FrR g) : FrR f := by
  have : f = g := funext h
  rw [this]
  exact hg
end FrR
abbrev FrF (F : Fn) : Prop := ∀ f ds, FrR (F f ds)
/-! ### no box is looked into -/
def nb : D → Bool
  | .box _ => false
  | _ => true
theorem look_nb {d : D} (h : nb d = true) (m : Mu) : look m d = d := by cases d <;> first | rfl | cases h
theorem nb_binD {o : Bo} {a b d : D} (h : binD o a b = some d) : nb a = true ∧ nb b = true := by
  cases o <;> cases a <;> first | (cases h; done) | (cases b <;> first | (cases h; done) | exact ⟨rfl, rfl⟩)
theorem toP_nb {n : Nat} {d : D} {p : PyData} (h : toP n d = some p) : nb d = true := by
  cases n with
  | zero => cases d <;> simp [toP] at h
  | succ n => cases d <;> first | rfl | (simp [toP] at h)
theorem nb_eqD {a b : D} {r : Bool} (h : eqD a b = some r) : nb a = true ∧ nb b = true := by
  cases a with
  | box n => cases b <;> simp [eqD, scalD, deepD, nilD, toP] at h
  | _ =>
    refine ⟨rfl, ?_⟩
    cases b with
    | box n => simp [eqD, scalD, deepD, nilD, toP] at h
    | _ => rfl
theorem nb_inD {a b : D} {r : Bool} (h : inD a b = some r) : nb a = true ∧ nb b = true := by
  cases a with
  | box n => cases b <;> simp [inD, toP, keyOf, flatD] at h
  | _ =>
    refine ⟨rfl, ?_⟩
    cases b with
    | box n => simp [inD] at h
    | _ => rfl
theorem nb_isD {a b : D} {r : Bool} (h : isD a b = some r) : nb a = true ∧ nb b = true := by
  cases b with
  | box n => cases a <;> simp [isD] at h
  | _ =>
    refine ⟨?_, rfl⟩
    cases a with
    | box n => simp [isD] at h
    | _ => rfl
theorem nb_cmpD {o : Co} {a b d : D} (h : cmpD o a b = some d) : nb a = true ∧ nb b = true := by
  cases o
  case eq => obtain ⟨r, e, _⟩ := Option.map_eq_some_iff.mp (show (eqD a b).map D.bl = some d from h); exact nb_eqD e
  case ne => obtain ⟨r, e, _⟩ := Option.map_eq_some_iff.mp (show (eqD a b).map (fun r => D.bl (!r)) = some d from h); exact nb_eqD e
  case isin => obtain ⟨r, e, _⟩ := Option.map_eq_some_iff.mp (show (inD a b).map D.bl = some d from h); exact nb_inD e
  case notin => obtain ⟨r, e, _⟩ := Option.map_eq_some_iff.mp (show (inD a b).map (fun r => D.bl (!r)) = some d from h); exact nb_inD e
  case is_ => obtain ⟨r, e, _⟩ := Option.map_eq_some_iff.mp (show (isD a b).map D.bl = some d from h); exact nb_isD e
  case isnot => obtain ⟨r, e, _⟩ := Option.map_eq_some_iff.mp (show (isD a b).map (fun r => D.bl (!r)) = some d from h); exact nb_isD e
  all_goals (cases a <;> first | (cases h; done) | (cases b <;> first | (cases h; done) | exact ⟨rfl, rfl⟩))
theorem keyOf_nb {d : D} {k} (h : keyOf d = some k) : nb d = true := by
  cases d <;> first | rfl | (simp [keyOf] at h)
theorem mem1 {x a : D} (h : x ∈ [a]) : x = a := by simpa using h
theorem mem2 {x a b : D} (h : x ∈ [a, b]) : x = a ∨ x = b := by simpa using h
theorem mem3 {x a b c : D} (h : x ∈ [a, b, c]) : x = a ∨ x = b ∨ x = c := by simpa using h
theorem nb_biD {f : Bi} {ds : List D} {d : D} (h : biD f ds = some d) : ∀ x ∈ ds, nb x = true := by
  intro x hx
  unfold biD at h
  split at h
  all_goals first
    | (cases h; done)
    | (cases mem1 hx; rfl)
    | (rcases mem3 hx with rfl | rfl | rfl <;> rfl)
    | (rcases mem2 hx with rfl | rfl <;> first | rfl | (cases x <;> first | rfl | (cases h; done)))
    | (obtain ⟨p, e, _⟩ := Option.bind_eq_some_iff.mp h
       rcases mem2 hx with rfl | rfl <;> first | rfl | exact toP_nb e)
    | (obtain ⟨p, e, _⟩ := Option.map_eq_some_iff.mp h
       rcases mem2 hx with rfl | rfl <;> first | rfl | exact keyOf_nb e)
    | (rename_i d0
       cases d0 with
       | box n => cases h
       | _ =>
         obtain ⟨p, e, _⟩ := Option.map_eq_some_iff.mp h
         rcases mem3 hx with rfl | rfl | rfl <;> first | rfl | exact keyOf_nb e)
theorem map_look {ds : List D} (h : ∀ x ∈ ds, nb x = true) (m : Mu) : ds.map (look m) = ds := by
  induction ds with
  | nil => rfl
  | cons d ds ih => rw [List.map_cons, look_nb (h d List.mem_cons_self), ih fun x hx => h x (List.mem_cons_of_mem _ hx)]
theorem map_look0 (ds : List D) : ds.map (look []) = ds := by
  induction ds with
  | nil => rfl
  | cons d ds ih => rw [List.map_cons, look_nil, ih]
theorem srcD_nb {k : Sk} {ds items : List D} (h : srcD k ds = some items) : ∀ x ∈ ds, nb x = true := by
  intro x hx
  cases x with
  | box n =>
    exfalso
    rcases ds with _ | ⟨d1, _ | ⟨d2, _ | ⟨d3, r⟩⟩⟩
    · cases hx
    · obtain rfl : D.box n = d1 := by simpa using hx
      cases k <;> simp [srcD] at h
    · rcases List.mem_cons.mp hx with rfl | hx
      · cases k <;> simp [srcD] at h
      · obtain rfl : D.box n = d2 := by simpa using hx
        cases k <;> cases d1 <;> simp [srcD] at h
    · cases k <;> simp [srcD] at h
  | _ => rfl
theorem srcM_nb {k : Sk} {ds items : List D} (h : srcM k ds [] = some items) : (∀ x ∈ ds, nb x = true) ∧ ∀ m, srcM k ds m = some items := by
  have hc : srcC k ds = some items := by
    cases k <;> first | exact h | (simp only [srcM, map_look0] at h; exact h)
  have hn : ∀ x ∈ ds, nb x = true := by
    unfold srcC at hc
    obtain ⟨it, e, _⟩ := Option.bind_eq_some_iff.mp hc
    exact srcD_nb e
  refine ⟨hn, fun m => ?_⟩
  cases k <;> first | exact h | (simp only [srcM, map_look hn]; exact hc)
theorem lkOf_nb {ds : List D} (h : ∀ x ∈ ds, nb x = true) (m : Mu) : lkOf ds m = none := by
  unfold lkOf
  split
  · have := h _ List.mem_cons_self
    cases this
  · rfl
theorem up_bind_ne {α β : Type} (o : Option α) (k : α → Mu → Res β) (m : Mu) (c : String) (m' : Mu) (hk : ∀ a m, k a m ≠ .exc c m') : (up o m).bind k ≠ .exc c m' := by
  cases o with
  | none => intro h; cases h
  | some a => exact hk a m
/-! ### loops of a comprehension -/
theorem fr_loopC {step : D → Mu → Res (Option D)} (hs : ∀ x, FrR (step x)) : ∀ items, FrR (loopC step items)
  | [] => FrR.pure []
  | x :: xs => by
    refine FrR.congr (fun m => by rw [loopC]) ?_
    exact FrR.bind (hs x) fun o => FrR.bind (fr_loopC hs xs) fun ys => FrR.pure _

section
variable {F : Fn}
mutual
theorem fr_E (hF : FrF F) : ∀ (e : E) (r : Env), FrR (ev F e r)
  | .v i, r => by
    refine FrR.congr (fun m => by rw [ev]) ?_
    cases slot r i <;> first | exact FrR.bad | exact FrR.pure _
  | .b i, r => by
    refine FrR.congr (fun m => by rw [ev]) ?_
    cases slot r i <;> first | exact FrR.bad | exact FrR.pure _
  | .c d, r => FrR.congr (fun m => by rw [ev]) (FrR.pure d)
  | .bin o x y, r => FrR.congr (fun m => by rw [ev]) (FrR.bind (fr_E hF x r) fun a => FrR.bind (fr_E hF y r) fun b => FrR.upL fun d h m => by
      rw [look_nil, look_nil] at h
      obtain ⟨h1, h2⟩ := nb_binD h
      rw [look_nb h1, look_nb h2]
      exact h)
  | .neg x, r => FrR.congr (fun m => by rw [e_neg]) (FrR.bind (fr_E hF x r) fun a => FrR.up _)
  | .not x, r => FrR.congr (fun m => by rw [ev]) (FrR.bind (fr_E hF x r) fun a => FrR.bind (FrR.tst a) fun b => FrR.pure _)
  | .and x y, r => FrR.congr (fun m => by rw [ev]) (FrR.bind (fr_E hF x r) fun a => FrR.bind (FrR.tst a) fun b => FrR.cond b (fr_E hF y r) (FrR.pure _))
  | .or x y, r => FrR.congr (fun m => by rw [ev]) (FrR.bind (fr_E hF x r) fun a => FrR.bind (FrR.tst a) fun b => FrR.cond b (FrR.pure _) (fr_E hF y r))
  | .ife t x y, r => FrR.congr (fun m => by rw [ev]) (FrR.bind (fr_E hF t r) fun a => FrR.bind (FrR.tst a) fun b => FrR.cond b (fr_E hF x r) (fr_E hF y r))
  | .cmp o x y, r => FrR.congr (fun m => by rw [ev]) (FrR.bind (fr_E hF x r) fun a => FrR.bind (fr_E hF y r) fun b => FrR.upL fun d h m => by
      rw [look_nil, look_nil] at h
      obtain ⟨h1, h2⟩ := nb_cmpD h
      rw [look_nb h1, look_nb h2]
      exact h)
  | .ch2 o p x y z, r => FrR.congr (fun m => by rw [ev]) (FrR.bind (fr_E hF x r) fun a => FrR.bind (fr_E hF y r) fun b => FrR.bind (FrR.upL fun d h m => by
      rw [look_nil, look_nil] at h
      obtain ⟨h1, h2⟩ := nb_cmpD h
      rw [look_nb h1, look_nb h2]
      exact h) fun q => FrR.bind (FrR.tst q) fun k => FrR.cond k (FrR.bind (fr_E hF z r) fun c => FrR.upL fun d h m => by
      rw [look_nil, look_nil] at h
      obtain ⟨h1, h2⟩ := nb_cmpD h
      rw [look_nb h1, look_nb h2]
      exact h) (FrR.pure _))
  | .tup es, r => FrR.congr (fun m => by rw [ev]) (FrR.bind (fr_Es hF es r) fun ds => FrR.pure _)
  | .lst es, r => FrR.congr (fun m => by rw [ev]) (FrR.bind (fr_Es hF es r) fun ds => FrR.pure _)
  | .dict ks es, r => FrR.congr (fun m => by rw [ev]) (FrR.bind (fr_Es hF es r) fun ds => FrR.ite _ (FrR.pure _) FrR.bad)
  | .idx x y, r => FrR.congr (fun m => by rw [ev]) (FrR.bind (fr_E hF x r) fun a => FrR.bind (fr_E hF y r) fun b => FrR.upL fun d h m => by
      rw [look_nil] at h
      have h1 : nb a = true := by cases a <;> first | rfl | (simp [idxD] at h)
      rw [look_nb h1]
      exact h)
  | .sl x lo hi, r => FrR.congr (fun m => by rw [ev]) (FrR.bind (fr_E hF x r) fun a => FrR.bind (fr_E hF lo r) fun l => FrR.bind (FrR.up _) fun _ => FrR.bind (fr_E hF hi r) fun h' => FrR.upL fun d h m => by
      rw [look_nil] at h
      have h1 : nb a = true := by cases a <;> first | rfl | (simp [slD] at h)
      rw [look_nb h1]
      exact h)
  | .rev x, r => by
    refine FrR.congr (g := fun m => (ev F x r m).bind fun a m => up (match look m a with
      | .lst xs => some (.lst xs.reverse)
      | .tup xs => some (.tup xs.reverse)
      | _ => none) m) (fun m => ?_) ?_
    · rw [ev]; congr 1; funext a m; cases look m a <;> rfl
    · refine FrR.bind (fr_E hF x r) fun a => FrR.upL fun d h m => ?_
      rw [look_nil] at h
      cases a <;> first | (cases h; done) | exact h
  | .fld x f, r => FrR.congr (fun m => by rw [e_fld]) (FrR.bind (fr_E hF x r) fun a => FrR.upL fun d h m => by
      rw [look_nil] at h
      have h1 : nb a = true := by cases a <;> first | rfl | (simp [fldD] at h)
      rw [look_nb h1]
      exact h)
  | .call f es, r => FrR.congr (fun m => by rw [ev]) (FrR.bind (fr_Es hF es r) fun ds => hF f ds)
  | .meth x n cs es, r => FrR.congr (fun m => by rw [e_meth]) (FrR.bind (fr_E hF x r) fun a => FrR.bind (FrR.upL fun d h m => by
      rw [look_nil] at h
      have h1 : nb a = true := by cases a <;> first | rfl | (simp [metD] at h)
      rw [look_nb h1]
      exact h) fun f => FrR.bind (fr_Es hF es r) fun ds => hF f (a :: ds))
  | .new c es, r => FrR.congr (fun m => by rw [ev]) (FrR.bind (fr_Es hF es r) fun ds => FrR.calm (hF c ds))
  | .bi f es, r => FrR.congr (fun m => by rw [ev]) (FrR.bind (fr_Es hF es r) fun ds => FrR.upL fun d h m => by
      rw [map_look0] at h
      rw [map_look (nb_biD h)]
      exact h)
  | .isi x t, r => FrR.congr (fun m => by rw [ev]) (FrR.bind (fr_E hF x r) fun a => FrR.upL fun d h m => by
      rw [look_nil] at h
      have h1 : nb a = true := by cases a <;> first | rfl | (simp [isiD] at h)
      rw [look_nb h1]
      exact h)
  | .comp el tg k es cs own, r => by
    refine FrR.congr (fun m => by rw [e_comp]) (FrR.bind (fr_Es hF es r) fun ds => ?_)
    have st : ∀ x, FrR (turnC F el cs tg (wipeE r own) x) := fun x => by
      refine FrR.bind (FrR.up _) fun r' => FrR.calm (FrR.bind (fr_C hF cs r') fun b => FrR.cond b (FrR.bind (fr_E hF el r') fun d => FrR.pure _) (FrR.pure _))
    have lp := fun items => fr_loopC st items
    refine ⟨fun m d m' h => ?_, fun m c m' h => ?_, fun d h m => ?_, fun c h m => ?_⟩
    · obtain ⟨items, m1, e1, h1⟩ := bind_some' h
      obtain rfl : m1 = m := up_keep e1
      obtain ⟨xs, m2, e2, h2⟩ := bind_some' h1
      cases h2
      cases e3 : loopC (turnC F el cs tg (wipeE r own)) items (lockO (lkOf ds m1) m1) with
      | bad => rw [e3] at e2; cases e2
      | exc c m3 => rw [e3] at e2; cases e2
      | ok ys m3 =>
        rw [e3] at e2
        cases e2
        have := (lp items).g1 _ _ _ e3
        have l1 : (lockO (lkOf ds m1) m1).length = m1.length := by unfold lockO; split <;> simp
        have l2 : (unlockO (lkOf ds m1) m3).length = m3.length := by unfold unlockO; split <;> simp
        omega
    · cases e1 : srcM k ds m with
      | none => rw [e1] at h; cases h
      | some items =>
        rw [e1] at h
        cases e3 : loopC (turnC F el cs tg (wipeE r own)) items (lockO (lkOf ds m) m) with
        | bad => simp only [up_some, bind_ok, e3] at h; cases h
        | ok ys m3 => simp only [up_some, bind_ok, e3] at h; cases h
        | exc c2 m3 =>
          simp only [up_some, bind_ok, e3] at h
          cases h
          have := (lp items).g2 _ _ _ e3
          have l1 : (lockO (lkOf ds m) m).length = m.length := by unfold lockO; split <;> simp
          have l2 : (unlockO (lkOf ds m) m3).length = m3.length := by unfold unlockO; split <;> simp
          omega
    · obtain ⟨items, m1, e1, h⟩ := bind_some' h
      have e0 : srcM k ds [] = some items := by
        cases q : srcM k ds [] with
        | none => rw [q] at e1; cases e1
        | some z => rw [q] at e1; cases e1; rfl
      obtain rfl := up_keep e1
      obtain ⟨hn, hs⟩ := srcM_nb e0
      obtain ⟨xs, m2, e2, h⟩ := bind_some' h
      cases h
      rw [lkOf_nil, lock_no] at e2
      cases e3 : loopC (turnC F el cs tg (wipeE r own)) items [] with
      | bad => rw [e3] at e2; cases e2
      | exc c m3 => rw [e3] at e2; cases e2
      | ok ys m3 =>
        rw [e3] at e2
        cases e2
        rw [hs m, up_some, bind_ok, lkOf_nb hn, lock_no]
        show ((loopC (turnC F el cs tg (wipeE r own)) items m).mapMu (unlockO none)).bind _ = _
        rw [(lp items).ok _ e3 m]
        rfl
    · cases e1 : srcM k ds [] with
      | none => rw [e1] at h; cases h
      | some items =>
        obtain ⟨hn, hs⟩ := srcM_nb e1
        rw [e1] at h
        simp only [up_some, bind_ok, lkOf_nil, lock_no] at h
        cases e3 : loopC (turnC F el cs tg (wipeE r own)) items [] with
        | bad => rw [e3] at h; cases h
        | ok ys m3 => rw [e3] at h; cases h
        | exc c2 m3 =>
          rw [e3] at h
          cases h
          rw [hs m, up_some, bind_ok, lkOf_nb hn, lock_no]
          show ((loopC (turnC F el cs tg (wipeE r own)) items m).mapMu (unlockO none)).bind _ = _
          rw [(lp items).exc _ e3 m]
          rfl
  | .box x, r => by
    refine FrR.congr (fun m => by rw [e_box]) (FrR.bind (fr_E hF x r) fun d => ?_)
    unfold boxR
    refine FrR.ite _ ⟨fun m d' m' h => ?_, fun m c m' h => (by cases h), fun d' h m => ?_, fun c h m => (by cases h)⟩ FrR.bad
    · cases h
      simp
    · cases h
  | .pop x k, r => by
    refine FrR.congr (fun m => by rw [ev]) (FrR.bind (fr_E hF x r) fun a => FrR.bind (fr_E hF k r) fun b => ?_)
    cases a <;> first | exact FrR.bad | skip
    rename_i n
    have at0 : ∀ (d : D), (match ([] : Mu)[n]? with
        | some (false, .lst xs) => match b with
          | .int i => match ixN xs.length i with
            | some j => (up (xs[j]?) []).bind fun d m => Res.ok d (m.set n (false, .lst (xs.eraseIdx j)))
            | none => .bad
          | _ => .bad
        | some (false, .dic kvs) => (up ((keyOf b).bind fun k => (lookK kvs k).map fun d => (k, d)) []).bind fun p m => .ok p.2 (m.set n (false, .dic (delK kvs p.1)))
        | _ => .bad) = .bad := fun d => by rw [List.getElem?_nil]
    refine ⟨fun m d m' h => ?_, fun m c m' h => ?_, fun d h m => ?_, fun c h m => ?_⟩
    · simp only at h
      split at h
      · split at h
        · split at h
          · obtain ⟨z, m1, e1, h⟩ := bind_some' h
            cases h
            rw [up_keep e1]
            simp
          · cases h
        · cases h
      · obtain ⟨z, m1, e1, h⟩ := bind_some' h
        cases h
        rw [up_keep e1]
        simp
      · cases h
    · simp only at h
      split at h
      · split at h
        · split at h
          · exact absurd h (up_bind_ne _ _ _ _ _ fun _ _ => by intro hh; cases hh)
          · cases h
        · cases h
      · exact absurd h (up_bind_ne _ _ _ _ _ fun _ _ => by intro hh; cases hh)
      · cases h
    · simp only [List.getElem?_nil] at h
      cases h
    · simp only [List.getElem?_nil] at h
      cases h
  | .bm f x ys, r => by
    refine FrR.congr (fun m => by rw [ev]) (FrR.bind (fr_E hF x r) fun a => ?_)
    cases ha : nb a with
    | true =>
      simp only [look_nb ha]
      refine FrR.ite _ (FrR.bind (fr_Es hF ys r) fun bs => FrR.upL fun d h m => ?_) FrR.bad
      rw [map_look0] at h
      rw [map_look fun z hz => nb_biD h z (List.mem_cons_of_mem _ hz)]
      exact h
    | false =>
      cases a <;> first | (cases ha; done) | skip
      rename_i n
      have q := fr_Es hF ys r
      refine ⟨fun m d m' h => ?_, fun m c m' h => ?_, fun d h m => ?_, fun c h m => ?_⟩
      · split at h
        · obtain ⟨bs, m1, e1, h⟩ := bind_some' h
          rw [up_keep h]
          exact q.g1 m bs m1 e1
        · cases h
      · split at h
        · cases e : evs F ys r m with
          | bad => rw [e] at h; cases h
          | exc c2 m2 => rw [e] at h; cases h; exact q.g2 m _ _ e
          | ok bs m1 =>
            rw [e] at h
            exfalso
            have h : up (biD f (look m1 (.box n) :: bs.map (look m1))) m1 = .exc c m' := h
            cases z : biD f (look m1 (.box n) :: bs.map (look m1)) with
            | none => rw [z] at h; cases h
            | some z' => rw [z] at h; cases h
        · cases h
      · have : kdOk f (look [] (.box n)) = false := by cases f <;> rfl
        rw [this, if_neg Bool.false_ne_true] at h
        cases h
      · have : kdOk f (look [] (.box n)) = false := by cases f <;> rfl
        rw [this, if_neg Bool.false_ne_true] at h
        cases h
  | .isx x c, r => FrR.congr (fun m => by rw [e_isx]) (FrR.bind (fr_E hF x r) fun a => FrR.up _)
theorem fr_Es (hF : FrF F) : ∀ (es : List E) (r : Env), FrR (evs F es r)
  | [], r => FrR.congr (fun m => by rw [evs]) (FrR.pure [])
  | e :: es, r => FrR.congr (fun m => by rw [evs]) (FrR.bind (fr_E hF e r) fun d => FrR.bind (fr_Es hF es r) fun ds => FrR.pure _)
theorem fr_C (hF : FrF F) : ∀ (es : List E) (r : Env), FrR (evc F es r)
  | [], r => FrR.congr (fun m => by rw [evc]) (FrR.pure true)
  | e :: es, r => FrR.congr (fun m => by rw [evc]) (FrR.bind (fr_E hF e r) fun a => FrR.bind (FrR.tst a) fun b => FrR.cond b (fr_C hF es r) (FrR.pure _))
end
end
/-! ### statements -/
inductive Oc where
  | nx (r : Env) | rt (d : D) (r : Env) | exc (c : String) (r : Env)
def enc : Rs → Option (Oc × Mu)
  | .nx r m => some (.nx r, m)
  | .rt d r m => some (.rt d r, m)
  | .exc c r m => some (.exc c r, m)
  | .bad => none
structure FrS (f : Mu → Rs) : Prop where
  g : ∀ m o m', enc (f m) = some (o, m') → m.length ≤ m'.length
  ok : ∀ o, enc (f []) = some (o, []) → ∀ m, enc (f m) = some (o, m)
namespace FrS
theorem bad : FrS (fun _ => .bad) := ⟨fun m o m' h => (by cases h), fun o h m => (by cases h)⟩
theorem nx (r : Env) : FrS (fun m => .nx r m) := ⟨fun m o m' h => (by cases h; exact Nat.le_refl _), fun o h m => (by cases h; rfl)⟩
theorem rt (d : D) (r : Env) : FrS (fun m => .rt d r m) := ⟨fun m o m' h => (by cases h; exact Nat.le_refl _), fun o h m => (by cases h; rfl)⟩
theorem exc (c : String) (r : Env) : FrS (fun m => .exc c r m) := ⟨fun m o m' h => (by cases h; exact Nat.le_refl _), fun o h m => (by cases h; rfl)⟩
theorem congr {f g : Mu → Rs} (h : ∀ m, f m = g m) (hg : FrS g) : FrS f := by
  have : f = g := funext h
  rw [this]
  exact hg
theorem on {α : Type} {f : Mu → Res α} {k : α → Mu → Rs} {r : Env} (hf : FrR f) (hk : ∀ a, FrS (k a)) : FrS (fun m => (f m).on r k) := by
  refine ⟨fun m o m' h => ?_, fun o h m => ?_⟩
  · cases e : f m with
    | bad => rw [e] at h; cases h
    | exc c m1 => rw [e] at h; cases h; exact hf.g2 _ _ _ e
    | ok a m1 =>
      rw [e] at h
      exact Nat.le_trans (hf.g1 _ _ _ e) ((hk a).g m1 o m' h)
  · show enc ((f m).on r k) = _
    cases e : f [] with
    | bad => rw [e] at h; cases h
    | exc c m1 => rw [e] at h; cases h; rw [hf.exc _ e m]; rfl
    | ok a m1 =>
      rw [e] at h
      obtain rfl := nil_of_le ((hk a).g m1 o [] h)
      rw [hf.ok _ e m]
      exact (hk a).ok o h m
theorem thn {f : Mu → Rs} {k : Env → Mu → Rs} (hf : FrS f) (hk : ∀ a, FrS (k a)) : FrS (fun m => (f m).then k) := by
  refine ⟨fun m o m' h => ?_, fun o h m => ?_⟩
  · cases e : f m with
    | bad => rw [e] at h; cases h
    | exc c r m1 => rw [e] at h; cases h; exact hf.g m _ _ (by rw [e]; rfl)
    | rt d r m1 => rw [e] at h; cases h; exact hf.g m _ _ (by rw [e]; rfl)
    | nx r m1 =>
      rw [e] at h
      exact Nat.le_trans (hf.g m _ _ (by rw [e]; rfl)) ((hk r).g m1 o m' h)
  · show enc ((f m).then k) = _
    cases e : f [] with
    | bad => rw [e] at h; cases h
    | exc c r m1 =>
      rw [e] at h; cases h
      have := hf.ok (.exc c r) (by rw [e]; rfl) m
      cases e2 : f m <;> rw [e2] at this <;> cases this
      rfl
    | rt d r m1 =>
      rw [e] at h; cases h
      have := hf.ok (.rt d r) (by rw [e]; rfl) m
      cases e2 : f m <;> rw [e2] at this <;> cases this
      rfl
    | nx r m1 =>
      rw [e] at h
      obtain rfl := nil_of_le ((hk r).g m1 o [] h)
      have := hf.ok (.nx r) (by rw [e]; rfl) m
      cases e2 : f m <;> rw [e2] at this <;> cases this
      exact (hk r).ok o h m
theorem ite {f g : Mu → Rs} (p : Prop) [Decidable p] (hf : FrS f) (hg : FrS g) : FrS (fun m => if p then f m else g m) := by
  by_cases h : p
  · simp only [if_pos h]; exact hf
  · simp only [if_neg h]; exact hg
end FrS
theorem fr_chgB (d : D) (r : Env) (f : Mu → D → Option D) : FrS (fun m => chgB d r m (f m)) := by
  refine ⟨fun m o m' h => ?_, fun o h m => ?_⟩
  · unfold chgB at h
    split at h
    · split at h
      · split at h
        · cases h; simp
        · cases h
      · cases h
    · cases h
  · unfold chgB at h
    cases d <;> simp [enc] at h
theorem fr_chg {F : Fn} (o : Pl) (r : Env) (f : Mu → D → Option D) (hf : ∀ d d', f [] d = some d' → ∀ m, f m d = some d') : FrS (fun m => chg F o r m (f m)) := by
  unfold chg
  cases o with
  | bx d => exact fr_chgB d r f
  | sl i =>
    simp only
    cases slot r i with
    | no => exact FrS.bad
    | val d => exact fr_chgB d r f
    | own d =>
      simp only
      refine ⟨fun m o m' h => ?_, fun o h m => ?_⟩
      · split at h
        · cases h; exact Nat.le_refl _
        · cases h
      · cases e : f [] d with
        | none => rw [e] at h; cases h
        | some d' => rw [e] at h; cases h; rw [hf d d' e m]; rfl
theorem fr_if {f g : Mu → Rs} {p : Mu → Bool} (h0 : p [] = true → ∀ m, p m = true) (hf : FrS f) : FrS (fun m => if p m = true then f m else .bad) := by
  refine ⟨fun m o m' h => ?_, fun o h m => ?_⟩
  · split at h
    · exact hf.g m o m' h
    · cases h
  · by_cases e : p [] = true
    · rw [if_pos e] at h
      show enc (if p m = true then f m else .bad) = _
      rw [if_pos (h0 e m)]
      exact hf.ok o h m
    · rw [if_neg e] at h; cases h
theorem fr_loopF {step : D → Env → Mu → Rs} (hs : ∀ x r, FrS (step x r)) : ∀ items r, FrS (loopF step items r)
  | [], r => FrS.nx r
  | x :: xs, r => FrS.congr (fun m => by rw [loopF]) (FrS.thn (hs x r) fun r => fr_loopF hs xs r)
theorem fr_loopW {step : Env → Mu → Res Bool} {body : Env → Mu → Rs} (hs : ∀ r, FrR (step r)) (hb : ∀ r, FrS (body r)) : ∀ n r, FrS (loopW step body n r)
  | 0, r => FrS.bad
  | n + 1, r => FrS.congr (fun m => by rw [loopW]) (FrS.on (hs r) fun b => FrS.ite _ (FrS.thn (hb r) fun r => fr_loopW hs hb n r) (FrS.nx r))
theorem isL_nb {m : Mu} {a : D} (h : isL (look [] a) = true) : isL (look m a) = true := by
  rw [look_nil] at h
  cases a <;> first | exact h | (cases h; done)
theorem isDc_nb {m : Mu} {a : D} (h : isDc (look [] a) = true) : isDc (look m a) = true := by
  rw [look_nil] at h
  cases a <;> first | exact h | (cases h; done)
theorem srcF_nb {k : Sk} {ds items : List D} (h : srcF k ds [] = some items) (m : Mu) : srcF k ds m = some items := by
  unfold srcF at h ⊢
  split at h
  · cases h
  · cases h
  · exact (srcM_nb h).2 m
theorem fr_bindTg {F : Fn} {tg : Tg} {x : D} {r : Env} {k : Env → Mu → Rs} (hk : ∀ r, FrS (k r)) : FrS (fun m => match bindTg tg x r with
    | some r => k r m
    | none => .bad) := by
  cases bindTg tg x r with
  | none => exact FrS.bad
  | some r => exact hk r
section
variable {F : Fn}
theorem fr_try {c : String} {ks : List String} {nm : Option Nat} {su : List Wh.St} {f : Mu → Rs} (hf : FrS f) (hs : ∀ r, FrS (exs F su r)) : FrS (fun m => tryR F c ks nm su (f m)) := by
  have key : ∀ x r, FrS (fun m => tryR F c ks nm su (.exc x r m)) := fun x r => by
    unfold tryR
    refine FrS.ite _ FrS.bad (FrS.ite _ ?_ (FrS.exc x r))
    cases nm with
    | some i =>
      simp only
      have q := hs (r.set i (.val (.exc x)))
      refine ⟨fun m o m' h => ?_, fun o h m => ?_⟩
      · split at h
        · rename_i r2 m2 e
          split at h
          · cases h; exact q.g m _ _ (by rw [e]; rfl)
          · cases h
        · rename_i d r2 m2 e
          split at h
          · cases h; exact q.g m _ _ (by rw [e]; rfl)
          · cases h
        · cases h
      · split at h
        · rename_i r2 m2 e
          split at h
          · rename_i hn
            cases h
            have := q.ok (.nx r2) (by rw [e]; rfl) m
            cases e2 : exs F su (r.set i (.val (.exc x))) m <;> rw [e2] at this <;> cases this
            simp only [e2, if_pos hn]
            rfl
          · cases h
        · rename_i d r2 m2 e
          split at h
          · rename_i hn
            cases h
            have := q.ok (.rt d r2) (by rw [e]; rfl) m
            cases e2 : exs F su (r.set i (.val (.exc x))) m <;> rw [e2] at this <;> cases this
            simp only [e2, if_pos hn]
            rfl
          · cases h
        · cases h
    | none =>
      simp only
      have q := hs r
      refine ⟨fun m o m' h => ?_, fun o h m => ?_⟩
      · split at h
        · rename_i r2 m2 e
          split at h
          · cases h; exact q.g m _ _ (by rw [e]; rfl)
          · cases h
        · rename_i d r2 m2 e
          split at h
          · cases h; exact q.g m _ _ (by rw [e]; rfl)
          · cases h
        · cases h
      · split at h
        · rename_i r2 m2 e
          split at h
          · rename_i hn
            cases h
            have := q.ok (.nx r2) (by rw [e]; rfl) m
            cases e2 : exs F su r m <;> rw [e2] at this <;> cases this
            simp only [e2, if_pos hn]
            rfl
          · cases h
        · rename_i d r2 m2 e
          split at h
          · rename_i hn
            cases h
            have := q.ok (.rt d r2) (by rw [e]; rfl) m
            cases e2 : exs F su r m <;> rw [e2] at this <;> cases this
            simp only [e2, if_pos hn]
            rfl
          · cases h
        · cases h
  refine ⟨fun m o m' h => ?_, fun o h m => ?_⟩
  · cases e : f m with
    | bad => rw [e] at h; cases h
    | nx r m1 => rw [e] at h; cases h; exact hf.g m _ _ (by rw [e]; rfl)
    | rt d r m1 => rw [e] at h; cases h; exact hf.g m _ _ (by rw [e]; rfl)
    | exc x r m1 =>
      rw [e] at h
      exact Nat.le_trans (hf.g m _ _ (by rw [e]; rfl)) ((key x r).g m1 o m' h)
  · show enc (tryR F c ks nm su (f m)) = _
    cases e : f [] with
    | bad => rw [e] at h; cases h
    | nx r m1 =>
      rw [e] at h; cases h
      have := hf.ok (.nx r) (by rw [e]; rfl) m
      cases e2 : f m <;> rw [e2] at this <;> cases this
      rfl
    | rt d r m1 =>
      rw [e] at h; cases h
      have := hf.ok (.rt d r) (by rw [e]; rfl) m
      cases e2 : f m <;> rw [e2] at this <;> cases this
      rfl
    | exc x r m1 =>
      rw [e] at h
      obtain rfl := nil_of_le ((key x r).g m1 o [] h)
      have := hf.ok (.exc x r) (by rw [e]; rfl) m
      cases e2 : f m <;> rw [e2] at this <;> cases this
      exact (key x r).ok o h m
mutual
theorem fr_S (hF : FrF F) : ∀ (s : Wh.St) (r : Env), FrS (ex F s r)
  | .asg i ow e, r => FrS.congr (fun m => by rw [ex]) (FrS.on (fr_E hF e r) fun d => FrS.nx _)
  | .unp is e, r => FrS.congr (g := fun m => (ev F e r m).on r fun d m => unpR is d r m) (fun m => by rw [s_unp]) (FrS.on (fr_E hF e r) fun d => fr_bindTg (F := F) fun r => FrS.nx r)
  | .par i j a b, r => FrS.congr (fun m => by rw [ex]) (FrS.on (fr_E hF a r) fun x => FrS.on (fr_E hF b r) fun y => FrS.nx _)
  | .setf o f e, r => FrS.congr (fun m => by rw [ex]) (FrS.on (fr_E hF e r) fun d => FrS.on (fr_E hF o r) fun a => fr_chg (F := F) (plc o a) r (fun _ => setfD f d) fun _ _ h _ => h)
  | .seti o k e, r => FrS.congr (fun m => by rw [ex]) (FrS.on (fr_E hF e r) fun d => FrS.on (fr_E hF o r) fun a => FrS.on (fr_E hF k r) fun k => fr_chg (F := F) (plc o a) r (fun _ => setiD k d) fun _ _ h _ => h)
  | .app o e, r => FrS.congr (fun m => by rw [ex]) (FrS.on (fr_E hF o r) fun a => fr_if (g := fun _ => .bad) (p := fun m => isL (look m a)) (fun h m => isL_nb h) (FrS.on (fr_E hF e r) fun d => fr_chg (F := F) (plc o a) r (fun _ => appD d) fun _ _ h _ => h))
  | .ext o e, r => FrS.congr (fun m => by rw [ex]) (FrS.on (fr_E hF o r) fun a => fr_if (g := fun _ => .bad) (p := fun m => isL (look m a)) (fun h m => isL_nb h) (FrS.on (fr_E hF e r) fun d => fr_chg (F := F) (plc o a) r (fun m => extD (look m d)) fun x x' h m => by
      rw [look_nil] at h
      have h1 : nb d = true := by
        cases d <;> first | rfl | (cases x <;> simp [extD] at h)
      rw [look_nb h1]
      exact h))
  | .spop o k, r => FrS.congr (fun m => by rw [ex]) (FrS.on (fr_E hF o r) fun a => fr_if (g := fun _ => .bad) (p := fun m => isDc (look m a)) (fun h m => isDc_nb h) (FrS.on (fr_E hF k r) fun d => fr_chg (F := F) (plc o a) r (fun _ => spopD d) fun _ _ h _ => h))
  | .expr e, r => FrS.congr (fun m => by rw [ex]) (FrS.on (fr_E hF e r) fun d => FrS.nx _)
  | .ret e, r => FrS.congr (fun m => by rw [ex]) (FrS.on (fr_E hF e r) fun d => FrS.rt d r)
  | .ife t a b, r => FrS.congr (fun m => by rw [ex]) (FrS.on (fr_E hF t r) fun d => FrS.on (FrR.tst d) fun c => FrS.ite _ (fr_Ss hF a r) (fr_Ss hF b r))
  | .for_ tg k es bd, r => FrS.congr (g := fun m => (evs F es r m).on r fun ds m => (up (srcF k ds m) m).on r fun items m => loopF (stepF F tg bd) items r m) (fun m => by rw [s_for]) (FrS.on (fr_Es hF es r) fun ds => FrS.on (FrR.upL fun items h m => srcF_nb h m) fun items => fr_loopF (fun x r => fr_bindTg (F := F) fun r => fr_Ss hF bd r) items r)
  | .whl t bd, r => FrS.congr (fun m => by rw [s_whl]) (fr_loopW (step := tstW F t) (body := bodW F bd) (fun r => FrR.bind (fr_E hF t r) fun d => FrR.tst d) (fun r => fr_Ss hF bd r) fuelW r)
  | .raise c, r => FrS.congr (fun m => by rw [ex]) (FrS.exc c r)
  | .try_ bd c ks nm su, r => FrS.congr (fun m => by rw [s_try]) (fr_try (fr_Ss hF bd r) fun r => fr_Ss hF su r)
  | .fz is s, r => FrS.congr (fun m => by rw [ex]) (fr_S hF s (freeze r is))
  | .flds _, _ => FrS.congr (fun m => by rw [ex]) FrS.bad
  | .pass, r => FrS.congr (fun m => by rw [ex]) (FrS.nx r)
theorem fr_Ss (hF : FrF F) : ∀ (ss : List Wh.St) (r : Env), FrS (exs F ss r)
  | [], r => FrS.congr (fun m => by rw [exs]) (FrS.nx r)
  | s :: ss, r => FrS.congr (fun m => by rw [exs]) (FrS.thn (fr_S hF s r) fun r => fr_Ss hF ss r)
end
theorem fr_iniF (hF : FrF F) (r : Env) : ∀ (fs : List (String × E)) (acc : List (String × D)), FrR (iniF F r fs acc)
  | [], acc => FrR.pure acc
  | (f, e) :: fs, acc => FrR.congr (fun m => by rw [iniF]) (FrR.bind (FrR.calm (fr_E hF e r)) fun d => fr_iniF hF r fs (setFd f d acc))
theorem fr_endR {f : Mu → Rs} (hf : FrS f) : FrR (fun m => endR (f m)) := by
  refine ⟨fun m d m' h => ?_, fun m c m' h => ?_, fun d h m => ?_, fun c h m => ?_⟩
  · cases e : f m <;> rw [e] at h <;> cases h <;> exact hf.g m _ _ (by rw [e]; rfl)
  · cases e : f m <;> rw [e] at h <;> cases h <;> exact hf.g m _ _ (by rw [e]; rfl)
  · cases e : f [] <;> rw [e] at h <;> cases h
    · rename_i r
      have := hf.ok (.nx r) (by rw [e]; rfl) m
      cases e2 : f m <;> rw [e2] at this <;> cases this
      rfl
    · rename_i r
      have := hf.ok (.rt d r) (by rw [e]; rfl) m
      cases e2 : f m <;> rw [e2] at this <;> cases this
      rfl
  · cases e : f [] <;> rw [e] at h <;> cases h
    rename_i r
    have := hf.ok (.exc c r) (by rw [e]; rfl) m
    cases e2 : f m <;> rw [e2] at this <;> cases this
    rfl
theorem fr_runFd (hF : FrF F) (f : String) (fd : Fd) (ds : List D) : FrR (runFd F f fd ds) := by
  unfold runFd
  refine FrR.ite _ (FrR.ite _ (FrR.bind (fr_iniF hF _ _ _) fun fs => FrR.pure _) FrR.bad) (FrR.ite _ (FrR.congr (g := fun m => endR (exs F fd.bd (startE fd ds) m)) (fun m => ?_) (fr_endR (fr_Ss hF _ _))) FrR.bad)
  cases exs F fd.bd (startE fd ds) m <;> rfl
end
theorem fr_Phi (T : String → Option Fd) : ∀ k, FrF (Phi T k)
  | 0, f, ds => FrR.bad
  | 1, f, ds => by
    show FrR (fun m => match T f with
      | some fd => if fd.ini = true then .bad else runFd (Phi T 0) f fd ds m
      | none => .bad)
    cases T f with
    | none => exact FrR.bad
    | some fd => exact FrR.ite _ FrR.bad (fr_runFd (fr_Phi T 0) f fd ds)
  | n + 2, f, ds => by
    show FrR (fun m => match T f with
      | some fd => if fd.ini = true then runFd (Phi T n) f fd ds m else runFd (Phi T (n + 1)) f fd ds m
      | none => .bad)
    cases T f with
    | none => exact FrR.bad
    | some fd => exact FrR.ite _ (fr_runFd (fr_Phi T n) f fd ds) (fr_runFd (fr_Phi T (n + 1)) f fd ds)
/-- what runs without boxes runs so beside any -/
theorem phi_fr {T : String → Option Fd} {k : Nat} {f : String} {ds : List D} {d : D} (h : Phi T k f ds [] = .ok d []) (m : Mu) : Phi T k f ds m = .ok d m := (fr_Phi T k f ds).ok d h m
theorem phi_frX {T : String → Option Fd} {k : Nat} {f : String} {ds : List D} {c : String} (h : Phi T k f ds [] = .exc c []) (m : Mu) : Phi T k f ds m = .exc c m := (fr_Phi T k f ds).exc c h m
end Wh
/-! Runs beside memory. -/
namespace Wh
open PySem L2
theorem lk_i {m : Mu} {i : Int} : look m (.int i) = .int i := rfl
theorem lk_l {m : Mu} {xs : List D} : look m (.lst xs) = .lst xs := rfl
theorem lk_t {m : Mu} {xs : List D} : look m (.tup xs) = .tup xs := rfl
theorem lk_b {m : Mu} {b : Bool} : look m (.bl b) = .bl b := rfl
theorem lk_n {m : Mu} : look m .non = .non := rfl
theorem lk_s {m : Mu} {s : Str} : look m (.str s) = .str s := rfl
theorem lk_box {m : Mu} {n : Nat} {l : Bool} {d : D} (h : m[n]? = some (l, d)) : look m (.box n) = d := by unfold look; simp only [h]
theorem plc_f {x : E} {f : String} {d : D} : plc (.fld x f) d = .bx d := rfl
theorem plc_i {x y : E} {d : D} : plc (.idx x y) d = .bx d := rfl
theorem chg_bx {F : Fn} {d : D} {r : Env} {m : Mu} {f : D → Option D} : chg F (.bx d) r m f = chgB d r m f := rfl
theorem chgS_val {d : D} {i : Nat} {r : Env} {m : Mu} {f : D → Option D} : chgS (.val d) i r m f = chgB d r m f := rfl
theorem chgB_to {n : Nat} {d d' : D} {r : Env} {m : Mu} {f : D → Option D} (h : m[n]? = some (false, d)) (h2 : f d = some d') : chgB (.box n) r m f = .nx r (m.set n (false, d')) := by
  unfold chgB
  simp only [h, h2]
theorem set_same {α : Type} {l : List α} {n : Nat} {x : α} (h : l[n]? = some x) : l.set n x = l := by
  apply List.ext_getElem?
  intro i
  by_cases e : n = i
  · subst e
    rw [List.getElem?_set_self (List.getElem?_eq_some_iff.mp h).1, h]
  · rw [List.getElem?_set_ne e]
theorem loopF_inv' {step : D → Env → Mu → Rs} (P : Nat → Env → Mu → Prop) : ∀ (items : List D) (i : Nat) (r : Env) (m : Mu), P i r m → (∀ j x r m, items[j]? = some x → P (i + j) r m → ∃ r' m', step x r m = .nx r' m' ∧ P (i + j + 1) r' m') → ∃ r' m', loopF step items r m = .nx r' m' ∧ P (i + items.length) r' m'
  | [], i, r, m, h, _ => ⟨r, m, rfl, h⟩
  | x :: xs, i, r, m, h, hs => by
    obtain ⟨r1, m1, e1, p1⟩ := hs 0 x r m rfl h
    obtain ⟨r2, m2, e2, p2⟩ := loopF_inv' P xs (i + 1) r1 m1 p1 fun j y r m hy hp => by
      have := hs (j + 1) y r m hy (by rw [show i + (j + 1) = i + 1 + j by omega]; exact hp)
      rw [show i + 1 + j + 1 = i + (j + 1) + 1 by omega]
      exact this
    refine ⟨r2, m2, ?_, by rw [List.length_cons, show i + (xs.length + 1) = i + 1 + xs.length by omega]; exact p2⟩
    rw [loopF, e1]
    exact e2
theorem for_srcM {F : Fn} {tg : Tg} {k : Sk} {es : List E} {bd : List Wh.St} {r : Env} {m m' : Mu} {ds items : List D} {x : Rs} (h1 : evs F es r m = .ok ds m') (h2 : srcF k ds m' = some items) (h3 : loopF (stepF F tg bd) items r m' = x) : ex F (.for_ tg k es bd) r m = x := by
  rw [s_for, h1, on_ok, h2, up_some, on_ok, h3]
theorem comp_srcM {F : Fn} {x : E} {cs es : List E} {t : Tg} {k : Sk} {own : List Nat} {r : Env} {m m' : Mu} {ds items L : List D} (h1 : evs F es r m = .ok ds m') (h0 : lkOf ds m' = none) (h2 : srcM k ds m' = some items) (h3 : loopC (turnC F x cs t (wipeE r own)) items m' = .ok L m') : ev F (.comp x t k es cs own) r m = .ok (.lst L) m' := by
  rw [e_comp, h1, bind_ok, h2, up_some, bind_ok, h0, lock_no, h3]
  rfl
theorem ss_step {F : Fn} {s : Wh.St} {ss : List Wh.St} {r r' : Env} {m m' : Mu} {x : Rs} (h : ex F s r m = .nx r' m') (h2 : exs F ss r' m' = x) : exs F (s :: ss) r m = x := by
  rw [ss_cons, h, then_nx, h2]
theorem end_rt {F : Fn} {ss : List Wh.St} {r r' : Env} {m m' : Mu} {d : D} (h : exs F ss r m = .rt d r' m') : endR (exs F ss r m) = .ok d m' := by
  rw [h, endR_rt]
theorem ife_yes {F : Fn} {t : E} {a b : List Wh.St} {r : Env} {m m' : Mu} {x : Rs} (h : ev F t r m = .ok (.bl true) m') (h2 : exs F a r m' = x) : ex F (.ife t a b) r m = x := by
  rw [s_ife, h, on_ok, tst_bl, on_ok, if_pos rfl, h2]
theorem ife_no {F : Fn} {t : E} {a b : List Wh.St} {r : Env} {m m' : Mu} {x : Rs} (h : ev F t r m = .ok (.bl false) m') (h2 : exs F b r m' = x) : ex F (.ife t a b) r m = x := by
  rw [s_ife, h, on_ok, tst_bl, on_ok, if_neg Bool.false_ne_true, h2]
theorem rng_get {a : Int} {n j : Nat} {x : D} (h : (rngL a 1 n)[j]? = some x) : x = .int (a + j) ∧ j < n := by
  unfold rngL at h
  rw [List.getElem?_map] at h
  obtain ⟨k, e, rfl⟩ := Option.map_eq_some_iff.mp h
  obtain ⟨h1, h2⟩ := List.getElem?_eq_some_iff.mp e
  rw [List.getElem_range] at h2
  subst h2
  rw [List.length_range] at h1
  exact ⟨by simp, h1⟩
section
variable {T : String → Option Fd} {k : Nat}
theorem ev_fr {e : E} {r : Env} {d : D} (h : ev (Phi T k) e r [] = .ok d []) (m : Mu) : ev (Phi T k) e r m = .ok d m := (fr_E (fr_Phi T k) e r).ok d h m
theorem evs_fr {es : List E} {r : Env} {ds : List D} (h : evs (Phi T k) es r [] = .ok ds []) (m : Mu) : evs (Phi T k) es r m = .ok ds m := (fr_Es (fr_Phi T k) es r).ok ds h m
theorem ex_fr {s : Wh.St} {r r' : Env} (h : ex (Phi T k) s r [] = .nx r' []) (m : Mu) : ex (Phi T k) s r m = .nx r' m := by
  have := (fr_S (fr_Phi T k) s r).ok (.nx r') (by rw [h]; rfl) m
  cases e : ex (Phi T k) s r m <;> rw [e] at this <;> cases this
  rfl
theorem exs_fr {ss : List Wh.St} {r r' : Env} (h : exs (Phi T k) ss r [] = .nx r' []) (m : Mu) : exs (Phi T k) ss r m = .nx r' m := by
  have := (fr_Ss (fr_Phi T k) ss r).ok (.nx r') (by rw [h]; rfl) m
  cases e : exs (Phi T k) ss r m <;> rw [e] at this <;> cases this
  rfl
theorem exs_frT {ss : List Wh.St} {r r' : Env} {d : D} (h : exs (Phi T k) ss r [] = .rt d r' []) (m : Mu) : exs (Phi T k) ss r m = .rt d r' m := by
  have := (fr_Ss (fr_Phi T k) ss r).ok (.rt d r') (by rw [h]; rfl) m
  cases e : exs (Phi T k) ss r m <;> rw [e] at this <;> cases this
  rfl
end
theorem s_app_box {F : Fn} {r : Env} {i : Nat} {x : E} {xs : List D} {d : D} {m m' : Mu} (h1 : slot r i = .own (.lst xs)) (h2 : ev F x r m = .ok d m') (h3 : isObj d = true) (h4 : xs.length < 1000000) : ex F (.app (.b i) (.box x)) r m = .nx (r.set i (.own (.lst (xs ++ [.box m'.length])))) (m' ++ [(false, d)]) := by
  have hb : boxR d m' = .ok (.box m'.length) (m' ++ [(false, d)]) := by unfold boxR; rw [if_pos h3]
  have ha : appD (.box m'.length) (.lst xs) = some (.lst (xs ++ [.box m'.length])) := by
    show (if xs.length < 1000000 then _ else _) = _
    rw [if_pos h4]
  rw [s_app, e_b, h1, rdB_own, on_ok, lk_l, show isL (.lst xs) = true from rfl, if_pos rfl, e_box, h2, bind_ok, hb, on_ok, plc_b, chg_sl, h1]
  exact chgS_own ha
end Wh
namespace Wh.K42
open PySem L2
def fd__wall : Fd := ⟨false, 1, 1, [(.whl (.c (.bl true)) [.pass])]⟩
def fd_is_whole : Fd := ⟨false, 3, 3, [(.ret (.and (.isi (.v 0) "int") (.and (.not (.isi (.v 0) "bool")) (.ch2 .le .le (.v 1) (.v 0) (.v 2)))))]⟩
def fd_begun : Fd := ⟨false, 2, 2, [(.ret (.bin .fdiv (.bin .sub (.bin .add (.v 0) (.v 1)) (.c (.int (1)))) (.v 1)))]⟩
def fd_day_price : Fd := ⟨false, 2, 11, [(.unp [2, 3, 4, 5, 6] (.v 0)), (.ife (.cmp .le (.v 1) (.v 2)) [(.ret (.c (.int (0))))] []), (.par 7 8 (.v 2) (.c (.int (0)))), (.for_ (.many [9, 10]) .it [(.v 3)] [(.ife (.cmp .gt (.v 1) (.v 7)) [(.par 7 8 (.v 9) (.v 10))] [])]), (.ife (.cmp .gt (.v 1) (.v 7)) [(.asg 8 false (.bin .add (.v 8) (.bin .mul (.v 5) (.call "begun" [(.bin .sub (.v 1) (.v 7)), (.v 4)]))))] []), (.ret (.ife (.cmp .is_ (.v 6) (.c .non)) (.v 8) (.bi .mn2 [(.v 8), (.v 6)])))]⟩
def fd_price_of : Fd := ⟨false, 2, 2, [(.ret (.bin .add (.bin .mul (.bin .fdiv (.v 1) (.c (.int (1440)))) (.call "day_price" [(.v 0), (.c (.int (1440)))])) (.call "day_price" [(.v 0), (.bin .mod (.v 1) (.c (.int (1440))))])))]⟩
def fd_best_of : Fd := ⟨false, 1, 2, [(.asg 1 false (.bi .mx1 [(.v 0)])), (.ret (.ife (.cmp .gt (.v 1) (.c (.int (0)))) (.bm .index (.v 0) [(.v 1)]) (.c .non)))]⟩
def fd_is_shut_behind : Fd := ⟨false, 3, 4, [(.asg 3 false (.bi .sum [(.v 1)])), (.ret (.or (.cmp .eq (.v 3) (.c (.int (0)))) (.and (.v 0) (.cmp .lt (.v 3) (.v 2)))))]⟩
def fd_day_stretches : Fd := ⟨false, 2, 6, [(.asg 2 true (.lst [])), (.for_ (.many [3, 4, 5]) .it [(.v 0)] [(.ife (.cmp .isin (.bin .mod (.v 1) (.c (.int (7)))) (.v 3)) [(.app (.b 2) (.tup [(.bin .add (.bin .mul (.v 1) (.c (.int (1440)))) (.v 4)), (.bin .add (.bin .mul (.v 1) (.c (.int (1440)))) (.v 5))]))] [])]), (.fz [2] (.ret (.v 2)))]⟩
def fd_open_stretches : Fd := ⟨false, 3, 8, [(.asg 3 true (.lst [])), (.for_ (.one 4) .rng [(.bin .fdiv (.v 1) (.c (.int (1440)))), (.bin .add (.bin .fdiv (.v 2) (.c (.int (1440)))) (.c (.int (1))))] [(.ext (.b 3) (.comp (.tup [(.bi .mx2 [(.v 1), (.v 5)]), (.bi .mn2 [(.v 2), (.v 6)])]) (.many [5, 6]) .it [(.call "day_stretches" [(.v 0), (.v 4)])] [] [5, 6]))]), (.asg 7 true (.lst [])), (.for_ (.many [5, 6]) .it [(.bi .sorted [(.b 3)])] [(.ife (.cmp .lt (.v 5) (.v 6)) [(.ife (.and (.cmp .ne (.b 7) (.lst [])) (.cmp .le (.v 5) (.idx (.idx (.b 7) (.neg (.c (.int (1))))) (.c (.int (1)))))) [(.seti (.b 7) (.neg (.c (.int (1)))) (.tup [(.idx (.idx (.b 7) (.neg (.c (.int (1))))) (.c (.int (0)))), (.bi .mx2 [(.v 6), (.idx (.idx (.b 7) (.neg (.c (.int (1))))) (.c (.int (1))))])]))] [(.app (.b 7) (.tup [(.v 5), (.v 6)]))])] [])]), (.fz [7] (.ret (.v 7)))]⟩
def fd_open_minutes : Fd := ⟨false, 3, 5, [(.ret (.bi .sum [(.comp (.bin .sub (.v 4) (.v 3)) (.many [3, 4]) .it [(.call "open_stretches" [(.v 0), (.v 1), (.v 2)])] [] [3, 4])]))]⟩
def fd__law_cell : Fd := ⟨false, 2, 2, [(.ife (.cmp .eq (.v 0) (.lst [])) [(.ret (.bin .mul (.c (.int (7))) (.v 1)))] []), (.ret (.bin .add (.idx (.v 0) (.bin .mod (.v 1) (.bi .len [(.v 0)]))) (.bin .mul (.c (.int (6553))) (.bin .fdiv (.v 1) (.bi .len [(.v 0)])))))]⟩
def fd__law_drawn : Fd := ⟨false, 3, 4, [(.asg 3 false (.bin .mod (.bin .add (.bin .mul (.bin .mod (.call "_law_cell" [(.v 0), (.v 1)]) (.c (.int (2147483563)))) (.c (.int (69069)))) (.bin .mul (.c (.int (104723))) (.bin .add (.v 1) (.c (.int (1)))))) (.c (.int (2147483563))))), (.asg 3 false (.bin .mod (.bin .add (.bin .mul (.v 3) (.v 3)) (.bin .fdiv (.v 3) (.c (.int (3))))) (.c (.int (2147483399))))), (.ret (.bin .mod (.bin .fdiv (.bin .mod (.bin .add (.bin .mul (.v 3) (.v 3)) (.bin .fdiv (.v 3) (.c (.int (7))))) (.c (.int (2147483647)))) (.c (.int (11)))) (.v 2)))]⟩
def fd__law_tariff : Fd := ⟨false, 2, 10, [(.asg 2 false (.idx (.lst [(.c (.int (0))), (.c (.int (1))), (.c (.int (15))), (.c (.int (60)))]) (.call "_law_drawn" [(.v 0), (.v 1), (.c (.int (4)))]))), (.par 3 4 (.v 2) (.c (.int (0)))), (.asg 5 true (.lst [])), (.for_ (.one 6) .rng [(.call "_law_drawn" [(.v 0), (.bin .add (.v 1) (.c (.int (1)))), (.c (.int (6)))])] [(.asg 3 false (.bin .add (.bin .add (.v 3) (.c (.int (1)))) (.call "_law_drawn" [(.v 0), (.bin .add (.bin .add (.v 1) (.c (.int (5)))) (.bin .mul (.c (.int (3))) (.v 6))), (.idx (.lst [(.c (.int (5))), (.c (.int (60))), (.c (.int (300)))]) (.call "_law_drawn" [(.v 0), (.bin .add (.v 1) (.c (.int (2)))), (.c (.int (3)))]))]))), (.asg 4 false (.bin .add (.v 4) (.bin .mul (.call "_law_drawn" [(.v 0), (.bin .add (.bin .add (.v 1) (.c (.int (6)))) (.bin .mul (.c (.int (3))) (.v 6))), (.c (.int (400)))]) (.bi .int [(.cmp .gt (.call "_law_drawn" [(.v 0), (.bin .add (.bin .add (.v 1) (.c (.int (7)))) (.bin .mul (.c (.int (3))) (.v 6))), (.c (.int (4)))]) (.c (.int (0))))])))), (.ife (.cmp .lt (.v 3) (.c (.int (1441)))) [(.app (.b 5) (.tup [(.v 3), (.v 4)]))] [])]), (.asg 7 false (.call "_law_drawn" [(.v 0), (.bin .add (.v 1) (.c (.int (25)))), (.idx (.lst [(.c (.int (3000))), (.c (.int (30))), (.c (.int (90000)))]) (.call "_law_drawn" [(.v 0), (.bin .add (.v 1) (.c (.int (26)))), (.c (.int (3)))]))])), (.asg 8 false (.idx (.lst [(.c (.int (1))), (.c (.int (7))), (.c (.int (60))), (.c (.int (1440)))]) (.call "_law_drawn" [(.v 0), (.bin .add (.v 1) (.c (.int (27)))), (.c (.int (4)))]))), (.asg 9 false (.idx (.lst [(.c (.int (0))), (.c (.int (1))), (.c (.int (150))), (.c (.int (999)))]) (.call "_law_drawn" [(.v 0), (.bin .add (.v 1) (.c (.int (28)))), (.c (.int (4)))]))), (.ret (.tup [(.v 2), (.bi .tup [(.b 5)]), (.v 8), (.v 9), (.ife (.cmp .eq (.call "_law_drawn" [(.v 0), (.bin .add (.v 1) (.c (.int (3)))), (.c (.int (3)))]) (.c (.int (0)))) (.c .non) (.v 7))]))]⟩
def fd__law_refused : Fd := ⟨false, 1, 2, [(.asg 1 false (.lst [(.isx (.v 0) "NoTime"), (.isx (.v 0) "NoTicket"), (.isx (.v 0) "NoSum"), (.isx (.v 0) "Owes")])), (.asg 1 false (.bin .add (.v 1) (.lst [(.isx (.v 0) "NoFloor"), (.isx (.v 0) "Full"), (.isx (.v 0) "Shut"), (.isx (.v 0) "NoCard")]))), (.asg 1 false (.bin .add (.v 1) (.lst [(.isx (.v 0) "Taken"), (.isx (.v 0) "Inside"), (.isx (.v 0) "NotOpen"), (.isx (.v 0) "NoBack")]))), (.ife (.or (.cmp .ne (.bm .count (.v 1) [(.c (.bl true))]) (.c (.int (1)))) (.not (.isx (.v 0) "ValueError"))) [(.ret (.tup [(.c (.str (S "refused"))), (.neg (.c (.int (1))))]))] []), (.ret (.tup [(.c (.str (S "refused"))), (.bm .index (.v 1) [(.c (.bl true))])]))]⟩
def fd__law_done : Fd := ⟨false, 2, 3, [(.try_ [(.ife (.cmp .eq (.idx (.v 1) (.c (.int (0)))) (.c (.str (S "come")))) [(.ret (.meth (.v 0) "come" ["House"] [(.idx (.v 1) (.c (.int (1))))]))] []), (.ife (.cmp .eq (.idx (.v 1) (.c (.int (0)))) (.c (.str (S "pay")))) [(.ret (.meth (.v 0) "pay" ["House"] [(.idx (.v 1) (.c (.int (1)))), (.idx (.v 1) (.c (.int (2)))), (.idx (.v 1) (.c (.int (3))))]))] []), (.ife (.cmp .eq (.idx (.v 1) (.c (.int (0)))) (.c (.str (S "shift")))) [(.ret (.meth (.v 0) "shift" ["House"] [(.idx (.v 1) (.c (.int (1)))), (.idx (.v 1) (.c (.int (2)))), (.idx (.v 1) (.c (.int (3))))]))] []), (.ife (.cmp .eq (.idx (.v 1) (.c (.int (0)))) (.c (.str (S "leave")))) [(.ret (.meth (.v 0) "leave" ["House"] [(.idx (.v 1) (.c (.int (1)))), (.idx (.v 1) (.c (.int (2))))]))] []), (.ret (.meth (.v 0) "due" ["House"] [(.idx (.v 1) (.c (.int (1)))), (.idx (.v 1) (.c (.int (2))))]))] "StayError" ["StayError", "NoTime", "NoTicket", "NoSum", "Owes", "NoFloor", "Full", "Shut", "NoCard", "Taken", "Inside", "NotOpen", "NoBack"] (some 2) [(.ret (.call "_law_refused" [(.v 2)]))])]⟩
def fd_law : Fd := ⟨false, 1, 14, [(.asg 1 false (.call "_law_tariff" [(.v 0), (.c (.int (0)))])), (.asg 2 false (.call "_law_drawn" [(.v 0), (.c (.int (40))), (.idx (.lst [(.c (.int (1))), (.c (.int (20))), (.c (.int (200)))]) (.call "_law_drawn" [(.v 0), (.c (.int (41))), (.c (.int (3)))]))])), (.asg 3 false (.box (.new "House" [(.tup [(.c (.int (2)))]), (.v 1), (.v 2), (.c (.int (1)))]))), (.asg 4 false (.call "_law_drawn" [(.v 0), (.c (.int (42))), (.c (.int (3000)))])), (.expr (.meth (.v 3) "come" ["House"] [(.v 4)])), (.asg 5 false (.c (.int (0)))), (.asg 6 false (.v 4)), (.for_ (.one 7) .rng [(.c (.int (4)))] [(.asg 6 false (.bin .add (.v 6) (.call "_law_drawn" [(.v 0), (.bin .add (.c (.int (50))) (.bin .mul (.c (.int (5))) (.v 7))), (.idx (.lst [(.c (.int (30))), (.c (.int (400))), (.c (.int (3000)))]) (.call "_law_drawn" [(.v 0), (.bin .add (.c (.int (51))) (.bin .mul (.c (.int (5))) (.v 7))), (.c (.int (3)))]))]))), (.asg 8 false (.meth (.v 3) "due" ["House"] [(.c (.int (0))), (.v 6)])), (.ife (.cmp .ne (.v 8) (.bin .sub (.call "price_of" [(.v 1), (.bin .sub (.v 6) (.v 4))]) (.v 5))) [(.ret (.c (.bl false)))] []), (.ife (.cmp .eq (.v 8) (.c (.int (0)))) [(.ife (.cmp .ne (.call "_law_done" [(.v 3), (.tup [(.c (.str (S "pay"))), (.c (.int (0))), (.v 6), (.c (.int (1)))])]) (.tup [(.c (.str (S "refused"))), (.c (.int (2)))])) [(.ret (.c (.bl false)))] [])] [(.ife (.cmp .ne (.call "_law_done" [(.v 3), (.tup [(.c (.str (S "leave"))), (.c (.int (0))), (.v 6)])]) (.tup [(.c (.str (S "refused"))), (.c (.int (3)))])) [(.ret (.c (.bl false)))] []), (.ife (.cmp .ne (.meth (.v 3) "pay" ["House"] [(.c (.int (0))), (.v 6), (.v 8)]) (.c (.int (0)))) [(.ret (.c (.bl false)))] []), (.asg 5 false (.bin .add (.v 5) (.v 8))), (.asg 9 false (.comp (.meth (.v 3) "due" ["House"] [(.c (.int (0))), (.bin .add (.v 6) (.v 12))]) (.one 12) .it [(.tup [(.c (.int (0))), (.bin .fdiv (.v 2) (.c (.int (2)))), (.v 2)])] [] [12])), (.asg 10 false (.meth (.v 3) "due" ["House"] [(.c (.int (0))), (.bin .add (.bin .add (.v 6) (.v 2)) (.c (.int (1))))])), (.ife (.or (.cmp .ne (.v 9) (.lst [(.c (.int (0))), (.c (.int (0))), (.c (.int (0)))])) (.cmp .ne (.v 10) (.bin .sub (.call "price_of" [(.v 1), (.bin .sub (.bin .add (.bin .add (.v 6) (.v 2)) (.c (.int (1)))) (.v 4))]) (.v 5)))) [(.ret (.c (.bl false)))] []), (.ife (.cmp .ne (.meth (.meth (.v 3) "twin" ["House"] []) "leave" ["House"] [(.c (.int (0))), (.bin .add (.v 6) (.v 2))]) (.bin .sub (.bin .add (.v 6) (.v 2)) (.v 4))) [(.ret (.c (.bl false)))] []), (.asg 11 false (.ife (.cmp .gt (.v 10) (.c (.int (0)))) (.tup [(.c (.str (S "refused"))), (.c (.int (3)))]) (.bin .sub (.bin .add (.bin .add (.v 6) (.v 2)) (.c (.int (1)))) (.v 4)))), (.ife (.cmp .ne (.call "_law_done" [(.meth (.v 3) "twin" ["House"] []), (.tup [(.c (.str (S "leave"))), (.c (.int (0))), (.bin .add (.bin .add (.v 6) (.v 2)) (.c (.int (1))))])]) (.v 11)) [(.ret (.c (.bl false)))] []), (.asg 6 false (.bin .add (.bin .add (.v 6) (.v 2)) (.c (.int (1)))))])]), (.ret (.and (.cmp .eq (.bi .sum [(.comp (.idx (.v 13) (.c (.int (3)))) (.one 13) .it [(.meth (.v 3) "book" ["House"] [])] [(.cmp .eq (.idx (.v 13) (.c (.int (1)))) (.c (.str (S "pay"))))] [13])]) (.v 5)) (.cmp .eq (.meth (.v 3) "inside" ["House"] []) (.lst [(.tup [(.c (.int (0))), (.c (.int (0)))])]))))]⟩
def fd_Car : Fd := ⟨true, 6, 6, [(.flds [("came", (.v 1)), ("floor", (.v 2)), ("paid", (.v 3)), ("quiet", (.v 4)), ("name", (.v 5))])]⟩
def fd_State : Fd := ⟨true, 6, 6, [(.flds [("last", (.v 1)), ("cars", (.v 2)), ("names", (.v 3)), ("stands", (.v 4)), ("rows", (.v 5))])]⟩
def fd_House : Fd := ⟨true, 5, 5, [(.flds [("floors", (.v 1)), ("tariff", (.v 2)), ("grace", (.v 3)), ("again", (.v 4)), ("here", (.new "State" [(.c (.int (0))), (.dict [] []), (.dict [] []), (.c (.bl false)), (.tup [])])), ("gone", (.lst [])), ("coming", (.lst []))])]⟩
def fd_House_turn_to : Fd := ⟨false, 3, 3, [(.setf (.b 0) "gone" (.bin .add (.fld (.b 0) "gone") (.lst [(.tup [(.v 1), (.fld (.b 0) "here")])]))), (.setf (.b 0) "coming" (.lst [])), (.setf (.b 0) "here" (.v 2))]⟩
def fd_House_moved : Fd := ⟨false, 4, 5, [(.asg 4 false (.call "is_shut_behind" [(.fld (.fld (.v 0) "here") "stands"), (.meth (.v 0) "free_by" ["House"] [(.v 2)]), (.fld (.v 0) "again")])), (.ret (.new "State" [(.v 1), (.v 2), (.fld (.fld (.v 0) "here") "names"), (.v 4), (.bin .add (.fld (.fld (.v 0) "here") "rows") (.tup [(.v 3)]))]))]⟩
def fd_House_free_by : Fd := ⟨false, 2, 6, [(.asg 2 false (.comp (.fld (.idx (.v 1) (.v 3)) "floor") (.one 3) .it [(.v 1)] [] [3])), (.ret (.comp (.bin .sub (.v 5) (.bm .count (.v 2) [(.v 4)])) (.many [4, 5]) .enum [(.fld (.v 0) "floors")] [] [4, 5]))]⟩
def fd_House_need_time : Fd := ⟨false, 2, 2, [(.ife (.cmp .lt (.v 1) (.fld (.fld (.v 0) "here") "last")) [(.raise "NoTime")] [])]⟩
def fd_House_need_car : Fd := ⟨false, 2, 2, [(.ife (.cmp .notin (.v 1) (.fld (.fld (.v 0) "here") "cars")) [(.raise "NoTicket")] []), (.ret (.idx (.fld (.fld (.v 0) "here") "cars") (.v 1)))]⟩
def fd_House_tickets_given : Fd := ⟨false, 1, 2, [(.ret (.bi .len [(.comp (.v 1) (.one 1) .it [(.fld (.fld (.v 0) "here") "rows")] [(.cmp .isin (.idx (.v 1) (.c (.int (1)))) (.tup [(.c (.str (S "come"))), (.c (.str (S "card")))]))] [1])]))]⟩
def fd_House_enter : Fd := ⟨false, 4, 7, [(.ife (.fld (.fld (.v 0) "here") "stands") [(.raise "Shut")] []), (.asg 4 false (.call "best_of" [(.meth (.v 0) "free_by" ["House"] [(.fld (.fld (.v 0) "here") "cars")])])), (.asg 5 false (.meth (.v 0) "tickets_given" ["House"] [])), (.asg 6 true (.bi .dict [(.fld (.fld (.v 0) "here") "cars")])), (.seti (.b 6) (.v 5) (.new "Car" [(.v 1), (.v 4), (.c (.int (0))), (.neg (.c (.int (1)))), (.v 3)])), (.fz [6] (.expr (.meth (.v 0) "turn_to" ["House"] [(.v 2), (.meth (.v 0) "moved" ["House"] [(.v 1), (.v 6), (.tup [(.v 1), (.v 2), (.v 5), (.v 4)])])]))), (.ret (.tup [(.v 5), (.v 4)]))]⟩
def fd_House_come : Fd := ⟨false, 2, 2, [(.expr (.meth (.v 0) "need_time" ["House"] [(.v 1)])), (.ret (.meth (.v 0) "enter" ["House"] [(.v 1), (.c (.str (S "come"))), (.c .non)]))]⟩
def fd_House_come_by : Fd := ⟨false, 3, 3, [(.expr (.call "_wall" [(.c (.int (0)))]))]⟩
def fd_House_is_in : Fd := ⟨false, 2, 2, [(.expr (.call "_wall" [(.c (.int (1)))]))]⟩
def fd_House_counted : Fd := ⟨false, 3, 3, [(.ife (.cmp .is_ (.fld (.v 1) "name") (.c .non)) [(.ret (.bin .sub (.v 2) (.fld (.v 1) "came")))] []), (.ret (.bin .sub (.bin .sub (.v 2) (.fld (.v 1) "came")) (.call "open_minutes" [(.idx (.fld (.fld (.v 0) "here") "names") (.fld (.v 1) "name")), (.fld (.v 1) "came"), (.v 2)])))]⟩
def fd_House_due : Fd := ⟨false, 3, 4, [(.asg 3 false (.meth (.v 0) "need_car" ["House"] [(.v 1)])), (.expr (.meth (.v 0) "need_time" ["House"] [(.v 2)])), (.ife (.cmp .le (.v 2) (.fld (.v 3) "quiet")) [(.ret (.c (.int (0))))] []), (.ret (.bin .sub (.call "price_of" [(.fld (.v 0) "tariff"), (.meth (.v 0) "counted" ["House"] [(.v 3), (.v 2)])]) (.fld (.v 3) "paid")))]⟩
def fd_House_pay : Fd := ⟨false, 4, 8, [(.asg 4 false (.meth (.v 0) "due" ["House"] [(.v 1), (.v 2)])), (.ife (.not (.call "is_whole" [(.v 3), (.c (.int (1))), (.v 4)])) [(.raise "NoSum")] []), (.asg 5 false (.idx (.fld (.fld (.v 0) "here") "cars") (.v 1))), (.asg 6 false (.ife (.cmp .eq (.v 3) (.v 4)) (.bin .add (.v 2) (.fld (.v 0) "grace")) (.fld (.v 5) "quiet"))), (.asg 7 true (.bi .dict [(.fld (.fld (.v 0) "here") "cars")])), (.seti (.b 7) (.v 1) (.new "Car" [(.fld (.v 5) "came"), (.fld (.v 5) "floor"), (.bin .add (.fld (.v 5) "paid") (.v 3)), (.v 6), (.fld (.v 5) "name")])), (.fz [7] (.expr (.meth (.v 0) "turn_to" ["House"] [(.c (.str (S "pay"))), (.meth (.v 0) "moved" ["House"] [(.v 2), (.v 7), (.tup [(.v 2), (.c (.str (S "pay"))), (.v 1), (.v 3)])])]))), (.ret (.bin .sub (.v 4) (.v 3)))]⟩
def fd_House_shift : Fd := ⟨false, 4, 6, [(.asg 4 false (.meth (.v 0) "need_car" ["House"] [(.v 1)])), (.expr (.meth (.v 0) "need_time" ["House"] [(.v 2)])), (.ife (.not (.call "is_whole" [(.v 3), (.c (.int (0))), (.bin .sub (.bi .len [(.fld (.v 0) "floors")]) (.c (.int (1))))])) [(.raise "NoFloor")] []), (.ife (.and (.cmp .ne (.v 3) (.fld (.v 4) "floor")) (.cmp .eq (.idx (.meth (.v 0) "free_by" ["House"] [(.fld (.fld (.v 0) "here") "cars")]) (.v 3)) (.c (.int (0))))) [(.raise "Full")] []), (.asg 5 true (.bi .dict [(.fld (.fld (.v 0) "here") "cars")])), (.seti (.b 5) (.v 1) (.new "Car" [(.fld (.v 4) "came"), (.v 3), (.fld (.v 4) "paid"), (.fld (.v 4) "quiet"), (.fld (.v 4) "name")])), (.fz [5] (.expr (.meth (.v 0) "turn_to" ["House"] [(.c (.str (S "shift"))), (.meth (.v 0) "moved" ["House"] [(.v 2), (.v 5), (.tup [(.v 2), (.c (.str (S "shift"))), (.v 1), (.v 3)])])]))), (.ret (.fld (.v 4) "floor"))]⟩
def fd_House_leave : Fd := ⟨false, 3, 6, [(.ife (.cmp .gt (.meth (.v 0) "due" ["House"] [(.v 1), (.v 2)]) (.c (.int (0)))) [(.raise "Owes")] []), (.asg 3 false (.bin .sub (.v 2) (.fld (.idx (.fld (.fld (.v 0) "here") "cars") (.v 1)) "came"))), (.asg 4 false (.bi .dict [(.comp (.tup [(.v 5), (.idx (.fld (.fld (.v 0) "here") "cars") (.v 5))]) (.one 5) .it [(.fld (.fld (.v 0) "here") "cars")] [(.cmp .ne (.v 5) (.v 1))] [5])])), (.expr (.meth (.v 0) "turn_to" ["House"] [(.c (.str (S "leave"))), (.meth (.v 0) "moved" ["House"] [(.v 2), (.v 4), (.tup [(.v 2), (.c (.str (S "leave"))), (.v 1), (.v 3)])])])), (.ret (.v 3))]⟩
def fd_House_with_names : Fd := ⟨false, 3, 3, [(.expr (.call "_wall" [(.c (.int (2)))]))]⟩
def fd_House_give_card : Fd := ⟨false, 3, 3, [(.expr (.call "_wall" [(.c (.int (3)))]))]⟩
def fd_House_take_card : Fd := ⟨false, 2, 2, [(.expr (.call "_wall" [(.c (.int (4)))]))]⟩
def fd_House_cards : Fd := ⟨false, 1, 1, [(.expr (.call "_wall" [(.c (.int (5)))]))]⟩
def fd_House_inside : Fd := ⟨false, 1, 2, [(.ret (.comp (.tup [(.v 1), (.fld (.idx (.fld (.fld (.v 0) "here") "cars") (.v 1)) "floor")]) (.one 1) .it [(.bi .sorted [(.fld (.fld (.v 0) "here") "cars")])] [] [1]))]⟩
def fd_House_free : Fd := ⟨false, 1, 1, [(.ret (.bi .tup [(.meth (.v 0) "free_by" ["House"] [(.fld (.fld (.v 0) "here") "cars")])]))]⟩
def fd_House_is_shut : Fd := ⟨false, 1, 1, [(.expr (.call "_wall" [(.c (.int (6)))]))]⟩
def fd_House_book : Fd := ⟨false, 1, 1, [(.ret (.bi .list [(.fld (.fld (.v 0) "here") "rows")]))]⟩
def fd_House_clock : Fd := ⟨false, 1, 1, [(.expr (.call "_wall" [(.c (.int (7)))]))]⟩
def fd_House_back : Fd := ⟨false, 1, 1, [(.expr (.call "_wall" [(.c (.int (8)))]))]⟩
def fd_House_forth : Fd := ⟨false, 1, 1, [(.expr (.call "_wall" [(.c (.int (9)))]))]⟩
def fd_House_counts : Fd := ⟨false, 1, 1, [(.expr (.call "_wall" [(.c (.int (10)))]))]⟩
def fd_House_twin : Fd := ⟨false, 1, 2, [(.asg 1 false (.box (.new "House" [(.fld (.v 0) "floors"), (.fld (.v 0) "tariff"), (.fld (.v 0) "grace"), (.fld (.v 0) "again")]))), (.setf (.b 1) "here" (.fld (.v 0) "here")), (.setf (.b 1) "gone" (.bi .list [(.fld (.v 0) "gone")])), (.setf (.b 1) "coming" (.bi .list [(.fld (.v 0) "coming")])), (.fz [1] (.ret (.v 1)))]⟩
def tbl : List (String × Fd) := [("_wall", fd__wall), ("is_whole", fd_is_whole), ("begun", fd_begun), ("day_price", fd_day_price), ("price_of", fd_price_of), ("best_of", fd_best_of), ("is_shut_behind", fd_is_shut_behind), ("day_stretches", fd_day_stretches), ("open_stretches", fd_open_stretches), ("open_minutes", fd_open_minutes), ("_law_cell", fd__law_cell), ("_law_drawn", fd__law_drawn), ("_law_tariff", fd__law_tariff), ("_law_refused", fd__law_refused), ("_law_done", fd__law_done), ("law", fd_law), ("Car", fd_Car), ("State", fd_State), ("House", fd_House), ("House.turn_to", fd_House_turn_to), ("House.moved", fd_House_moved), ("House.free_by", fd_House_free_by), ("House.need_time", fd_House_need_time), ("House.need_car", fd_House_need_car), ("House.tickets_given", fd_House_tickets_given), ("House.enter", fd_House_enter), ("House.come", fd_House_come), ("House.come_by", fd_House_come_by), ("House.is_in", fd_House_is_in), ("House.counted", fd_House_counted), ("House.due", fd_House_due), ("House.pay", fd_House_pay), ("House.shift", fd_House_shift), ("House.leave", fd_House_leave), ("House.with_names", fd_House_with_names), ("House.give_card", fd_House_give_card), ("House.take_card", fd_House_take_card), ("House.cards", fd_House_cards), ("House.inside", fd_House_inside), ("House.free", fd_House_free), ("House.is_shut", fd_House_is_shut), ("House.book", fd_House_book), ("House.clock", fd_House_clock), ("House.back", fd_House_back), ("House.forth", fd_House_forth), ("House.counts", fd_House_counts), ("House.twin", fd_House_twin)]


abbrev T : String → Option Fd := fun f => tbl.lookup f
theorem hc : T "_law_cell" = some fdCell := rfl
theorem hd : T "_law_drawn" = some fdDrawn := rfl
/-! ### tariffs, plainly -/
inductive Rise : Int → Int → List (Int × Int) → Prop where
  | nil {a b} : Rise a b []
  | cons {a b x y l} (h1 : a < x) (h2 : x ≤ 1440) (h3 : b ≤ y) (h4 : y ≤ 9999) (t : Rise x y l) : Rise a b ((x, y) :: l)
structure Tar where
  f : Int
  l : List (Int × Int)
  z : Int
  m : Int
  t : Option Int
structure GT (a : Tar) : Prop where
  gf : 0 ≤ a.f ∧ a.f ≤ 60
  gl : Rise a.f 0 a.l
  gn : a.l.length ≤ 5
  gz : 1 ≤ a.z ∧ a.z ≤ 1440
  gm : 0 ≤ a.m ∧ a.m ≤ 2000
  gt : ∀ i, a.t = some i → 0 ≤ i ∧ i ≤ 99999
def dpl (n : Int) : List (Int × Int) → Int → Int → Int × Int
  | [], la, pr => (la, pr)
  | (x, y) :: l, la, pr => if la < n then dpl n l x y else dpl n l la pr
def rawQ (m z n : Int) (q : Int × Int) : Int := if q.1 < n then q.2 + m * ((n - q.1 + z - 1) / z) else q.2
def capO (t : Option Int) (p : Int) : Int := match t with
  | none => p
  | some i => if i < p then i else p
def dayP (a : Tar) (n : Int) : Int := if n ≤ a.f then 0 else capO a.t (rawQ a.m a.z n (dpl n a.l a.f 0))
def price (a : Tar) (n : Int) : Int := n / 1440 * dayP a 1440 + dayP a (n % 1440)
theorem dpl_stay {n : Int} : ∀ {l : List (Int × Int)} {la pr : Int}, n ≤ la → dpl n l la pr = (la, pr)
  | [], _, _, _ => rfl
  | (x, y) :: l, la, pr, h => by
    rw [dpl, if_neg (by omega)]
    exact dpl_stay h
theorem ceil_nonneg {z a : Int} (hz : 1 ≤ z) (h : 0 ≤ a) : 0 ≤ (a + z - 1) / z := Int.ediv_nonneg (by omega) (by omega)
theorem ceil_mono {z a b : Int} (hz : 1 ≤ z) (h : a ≤ b) : (a + z - 1) / z ≤ (b + z - 1) / z := Int.ediv_le_ediv (by omega) (by omega)
theorem rawQ_hi {m z n la pr : Int} (h : la < n) : rawQ m z n (la, pr) = pr + m * ((n - la + z - 1) / z) := if_pos h
theorem rawQ_ge {m z n : Int} (hm : 0 ≤ m) (hz : 1 ≤ z) (q : Int × Int) : q.2 ≤ rawQ m z n q := by
  unfold rawQ
  split
  · have h1 := ceil_nonneg (z := z) (a := n - q.1) hz (by omega)
    have h2 := Int.mul_nonneg hm h1
    omega
  · exact Int.le_refl _
theorem rawQ_ge' {m z n : Int} (hm : 0 ≤ m) (hz : 1 ≤ z) : ∀ {l : List (Int × Int)} {la pr : Int}, Rise la pr l → pr ≤ rawQ m z n (dpl n l la pr)
  | [], la, pr, _ => rawQ_ge hm hz (la, pr)
  | (x, y) :: l, la, pr, h => by
    cases h with
    | cons h1 h2 h3 h4 t =>
      rw [dpl]
      split
      · exact Int.le_trans h3 (rawQ_ge' hm hz t)
      · rw [dpl_stay (by omega)]
        exact rawQ_ge hm hz (la, pr)
theorem rawQ_mono {m z n n' : Int} (hm : 0 ≤ m) (hz : 1 ≤ z) (hn : n ≤ n') : ∀ {l : List (Int × Int)} {la pr : Int}, Rise la pr l → la < n → rawQ m z n (dpl n l la pr) ≤ rawQ m z n' (dpl n' l la pr)
  | [], la, pr, _, h => by
    show rawQ m z n (la, pr) ≤ rawQ m z n' (la, pr)
    rw [rawQ_hi h, rawQ_hi (show la < n' by omega)]
    have h1 := ceil_mono (z := z) (a := n - la) (b := n' - la) hz (by omega)
    have h2 := Int.mul_le_mul_of_nonneg_left h1 hm
    omega
  | (x, y) :: l, la, pr, h, hla => by
    cases h with
    | cons h1 h2 h3 h4 t =>
      rw [dpl, dpl, if_pos hla, if_pos (by omega)]
      by_cases hx : n ≤ x
      · rw [dpl_stay hx]
        have : rawQ m z n (x, y) = y := by
          unfold rawQ
          rw [if_neg]
          show ¬ x < n
          omega
        rw [this]
        exact rawQ_ge' hm hz t
      · exact rawQ_mono hm hz hn t (by omega)
theorem capO_mono {t : Option Int} {p q : Int} (h : p ≤ q) : capO t p ≤ capO t q := by
  cases t with
  | none => exact h
  | some i =>
    simp only [capO]
    split <;> split <;> omega
theorem capO_le {t : Option Int} {p : Int} : capO t p ≤ p := by
  cases t with
  | none => exact Int.le_refl _
  | some i =>
    simp only [capO]
    split <;> omega
theorem capO_lo {t : Option Int} {p : Int} (h : 0 ≤ p) (ht : ∀ i, t = some i → 0 ≤ i) : 0 ≤ capO t p := by
  cases t with
  | none => exact h
  | some i =>
    have := ht i rfl
    simp only [capO]
    split <;> omega
section
variable {a : Tar} (g : GT a)
include g
theorem dayP_nonneg (n : Int) : 0 ≤ dayP a n := by
  unfold dayP
  split
  · exact Int.le_refl _
  · exact capO_lo (rawQ_ge' g.gm.1 g.gz.1 g.gl) fun i h => (g.gt i h).1
theorem dayP_mono {n n' : Int} (h : n ≤ n') : dayP a n ≤ dayP a n' := by
  by_cases h1 : n ≤ a.f
  · have : dayP a n = 0 := by unfold dayP; rw [if_pos h1]
    rw [this]
    exact dayP_nonneg g n'
  · unfold dayP
    rw [if_neg h1, if_neg (by omega)]
    exact capO_mono (rawQ_mono g.gm.1 g.gz.1 h g.gl (by omega))
omit g in
theorem dayP_zero {n : Int} (h : n ≤ a.f) : dayP a n = 0 := by unfold dayP; rw [if_pos h]
theorem price_zero {n : Int} (h0 : 0 ≤ n) (h : n ≤ a.f) : price a n = 0 := by
  have := g.gf
  unfold price
  rw [show n / 1440 = 0 by omega, show n % 1440 = n by omega, dayP_zero h]
  omega
theorem price_next {n : Int} (h0 : 0 ≤ n) : price a n ≤ price a (n + 1) := by
  unfold price
  by_cases h : n % 1440 = 1439
  · rw [show (n + 1) / 1440 = n / 1440 + 1 by omega, show (n + 1) % 1440 = 0 by omega, dayP_zero (n := 0) (by have := g.gf; omega), Int.add_mul]
    have := dayP_mono g (n := n % 1440) (n' := 1440) (by omega)
    omega
  · rw [show (n + 1) / 1440 = n / 1440 by omega, show (n + 1) % 1440 = n % 1440 + 1 by omega]
    have := dayP_mono g (n := n % 1440) (n' := n % 1440 + 1) (by omega)
    omega
theorem price_nonneg {n : Int} (h : 0 ≤ n) : 0 ≤ price a n := by
  unfold price
  have h1 := dayP_nonneg g 1440
  have h2 := dayP_nonneg g (n % 1440)
  have := Int.mul_nonneg (a := n / 1440) (by omega) h1
  omega
theorem price_day (n k : Int) : price a (n + 1440 * k) = price a n + k * price a 1440 := by
  have e : price a 1440 = dayP a 1440 := by
    unfold price
    rw [show (1440 : Int) / 1440 = 1 by decide, show (1440 : Int) % 1440 = 0 by decide, dayP_zero (n := 0) (by have := g.gf; omega)]
    omega
  rw [e]
  unfold price
  rw [show (n + 1440 * k) / 1440 = n / 1440 + k by omega, show (n + 1440 * k) % 1440 = n % 1440 by omega, Int.add_mul]
  omega
theorem dayP_top {i : Int} (h : a.t = some i) (n : Int) : dayP a n ≤ i := by
  have := (g.gt i h).1
  unfold dayP
  split
  · exact this
  · rw [h]
    simp only [capO]
    split <;> omega
theorem price_top {i : Int} (h : a.t = some i) {n : Int} (h0 : 0 ≤ n) : price a n ≤ i * (n / 1440 + 1) := by
  have h1 := dayP_top g h 1440
  have h2 := dayP_top g h (n % 1440)
  have h3 := Int.mul_le_mul_of_nonneg_left (c := n / 1440) h1 (by omega)
  unfold price
  rw [Int.mul_add, Int.mul_comm i]
  omega
end
theorem price_loose (a : Tar) {n : Int} (h0 : 0 ≤ n) : price a n ≤ price { a with t := none } n := by
  have q : ∀ k, dayP a k ≤ dayP { a with t := none } k := fun k => by
    unfold dayP
    split
    · exact Int.le_refl _
    · exact capO_le
  unfold price
  have h3 := Int.mul_le_mul_of_nonneg_left (c := n / 1440) (q 1440) (by omega)
  have := q (n % 1440)
  omega
def dbl (a : Tar) : Tar := ⟨a.f, a.l.map fun p => (p.1, 2 * p.2), a.z, 2 * a.m, a.t.map fun i => 2 * i⟩
theorem dpl_dbl (n : Int) : ∀ (l : List (Int × Int)) (la pr : Int), dpl n (l.map fun p => (p.1, 2 * p.2)) la (2 * pr) = ((dpl n l la pr).1, 2 * (dpl n l la pr).2)
  | [], _, _ => rfl
  | (x, y) :: l, la, pr => by
    rw [List.map_cons, dpl, dpl]
    split
    · exact dpl_dbl n l x y
    · exact dpl_dbl n l la pr
theorem dayP_dbl (a : Tar) (n : Int) : dayP (dbl a) n = 2 * dayP a n := by
  unfold dayP dbl
  split
  · rfl
  · have e := dpl_dbl n a.l a.f 0
    rw [show (2 * 0 : Int) = 0 from rfl] at e
    simp only [e]
    have hr : rawQ (2 * a.m) a.z n ((dpl n a.l a.f 0).1, 2 * (dpl n a.l a.f 0).2) = 2 * rawQ a.m a.z n (dpl n a.l a.f 0) := by
      unfold rawQ
      simp only
      split
      · rw [Int.mul_add, Int.mul_assoc]
      · rfl
    rw [hr]
    cases a.t with
    | none => rfl
    | some i =>
      simp only [Option.map_some, capO]
      split <;> split <;> omega
theorem price_dbl (a : Tar) (n : Int) : price (dbl a) n = 2 * price a n := by
  unfold price
  rw [dayP_dbl, dayP_dbl, Int.mul_add, ← Int.mul_assoc, Int.mul_comm (n / 1440) 2, Int.mul_assoc]
theorem price_mono {a : Tar} (g : GT a) {n : Int} (h0 : 0 ≤ n) : ∀ (k : Nat), price a n ≤ price a (n + k)
  | 0 => by simp
  | k + 1 => by
    have h1 := price_mono g h0 k
    have h2 := price_next g (n := n + k) (by omega)
    rw [show n + (k : Int) + 1 = n + ((k + 1 : Nat) : Int) by omega] at h2
    omega
theorem price_le {a : Tar} (g : GT a) {n n' : Int} (h0 : 0 ≤ n) (h : n ≤ n') : price a n ≤ price a n' := by
  have := price_mono g h0 (n' - n).toNat
  rw [show n + ((n' - n).toNat : Int) = n' by omega] at this
  exact this
/-- without free minutes nothing costs less -/
theorem dpl_free {n f : Int} (hf : f < n) : ∀ (l : List (Int × Int)), l ≠ [] → 0 ≤ f → dpl n l 0 0 = dpl n l f 0
  | [], h, _ => absurd rfl h
  | (x, y) :: l, _, h0 => by rw [dpl, dpl, if_pos (by omega), if_pos hf]
theorem price_free {a : Tar} (g : GT a) {n : Int} (h0 : 0 ≤ n) : price a n ≤ price { a with f := 0 } n := by
  have gf := g.gf
  have q : ∀ k, dayP a k ≤ dayP { a with f := 0 } k := fun k => by
    by_cases h1 : k ≤ a.f
    · rw [dayP_zero h1]
      unfold dayP
      split
      · exact Int.le_refl _
      · refine capO_lo ?_ fun i h => (g.gt i h).1
        refine rawQ_ge' g.gm.1 g.gz.1 ?_
        have gl := g.gl
        cases hl : a.l with
        | nil => exact .nil
        | cons p l =>
          rw [hl] at gl
          cases gl with
          | cons k1 k2 k3 k4 t => exact .cons (by show (0 : Int) < _; omega) k2 k3 k4 t
    · unfold dayP
      rw [if_neg h1, if_neg (by show ¬ k ≤ 0; omega)]
      refine capO_mono ?_
      show rawQ a.m a.z k (dpl k a.l a.f 0) ≤ rawQ a.m a.z k (dpl k a.l 0 0)
      by_cases hl : a.l = []
      · rw [hl]
        show rawQ a.m a.z k (a.f, 0) ≤ rawQ a.m a.z k (0, 0)
        rw [rawQ_hi (show a.f < k by omega), rawQ_hi (show (0 : Int) < k by omega)]
        have h1 := ceil_mono (z := a.z) (a := k - a.f) (b := k - 0) g.gz.1 (by omega)
        have h2 := Int.mul_le_mul_of_nonneg_left h1 g.gm.1
        omega
      · rw [dpl_free (by omega) a.l hl gf.1]
        exact Int.le_refl _
  unfold price
  have h3 := Int.mul_le_mul_of_nonneg_left (c := n / 1440) (q 1440) (by omega)
  have := q (n % 1440)
  omega
/-- what a day costs, by the law's own words -/
theorem dpl_law {n : Int} : ∀ {l : List (Int × Int)} {la pr : Int}, Rise la pr l → la < n →
    dpl n l la pr = (((l.filter fun p => decide (n ≤ p.1)).head?).getD ((la, pr) :: l).getLast!) ∧ ((l.filter fun p => decide (n ≤ p.1)) = [] → (dpl n l la pr).1 < n)  ∧ ((l.filter fun p => decide (n ≤ p.1)) ≠ [] → n ≤ (dpl n l la pr).1)
  | [], la, pr, _, h => ⟨rfl, fun _ => h, fun z => absurd rfl z⟩
  | (x, y) :: l, la, pr, h, hla => by
    cases h with
    | cons h1 h2 h3 h4 t =>
      rw [dpl, if_pos hla]
      by_cases hx : n ≤ x
      · rw [dpl_stay hx, List.filter_cons_of_pos (by simpa using hx)]
        exact ⟨rfl, fun z => by simp at z, fun _ => hx⟩
      · rw [List.filter_cons_of_neg (by simpa using hx)]
        obtain ⟨e1, e2, e3⟩ := dpl_law t (show x < n by omega)
        exact ⟨by rw [e1]; simp [List.getLast!], e2, e3⟩

def encP (p : Int × Int) : D := .tup [.int p.1, .int p.2]
theorem Rise.snoc {f c x y : Int} : ∀ {l : List (Int × Int)}, Rise f c l → (∀ p ∈ l, p.1 < x ∧ p.2 ≤ y) → f < x → c ≤ y → x ≤ 1440 → y ≤ 9999 → Rise f c (l ++ [(x, y)])
  | [], _, _, h1, h2, h3, h4 => .cons h1 h3 h2 h4 .nil
  | (a, b) :: l, h, hp, h1, h2, h3, h4 => by
    cases h with
    | cons k1 k2 k3 k4 t =>
      obtain ⟨p1, p2⟩ := hp (a, b) List.mem_cons_self
      exact .cons k1 k2 k3 k4 (Rise.snoc t (fun p hp' => hp p (List.mem_cons_of_mem _ hp')) p1 p2 h3 h4)
def tbody : List Wh.St := match fd__law_tariff.bd with
  | [_, _, _, .for_ _ _ _ b, _, _, _, _] => b
  | _ => []
theorem pick3 {a b c : Int} {ns : List Int} (k : Int) : ∃ s, (s = a ∨ s = b ∨ s = c) ∧ idxD (.lst [.int a, .int b, .int c]) (.int (drawn ns k 3)) = some (.int s) := by
  have q0 := drawn_lo ns k (many := 3) (by decide)
  have q1 := drawn_hi ns k (many := 3) (by decide)
  have : drawn ns k 3 = 0 ∨ drawn ns k 3 = 1 ∨ drawn ns k 3 = 2 := by omega
  rcases this with e | e | e <;> rw [e]
  · exact ⟨a, .inl rfl, rfl⟩
  · exact ⟨b, .inr (.inl rfl), rfl⟩
  · exact ⟨c, .inr (.inr rfl), rfl⟩
theorem pick4 {a b c d : Int} {ns : List Int} (k : Int) : ∃ s, (s = a ∨ s = b ∨ s = c ∨ s = d) ∧ idxD (.lst [.int a, .int b, .int c, .int d]) (.int (drawn ns k 4)) = some (.int s) := by
  have q0 := drawn_lo ns k (many := 4) (by decide)
  have q1 := drawn_hi ns k (many := 4) (by decide)
  have : drawn ns k 4 = 0 ∨ drawn ns k 4 = 1 ∨ drawn ns k 4 = 2 ∨ drawn ns k 4 = 3 := by omega
  rcases this with e | e | e | e <;> rw [e]
  · exact ⟨a, .inl rfl, rfl⟩
  · exact ⟨b, .inr (.inl rfl), rfl⟩
  · exact ⟨c, .inr (.inr (.inl rfl)), rfl⟩
  · exact ⟨d, .inr (.inr (.inr rfl)), rfl⟩
theorem pick2 {a b : Int} {ns : List Int} (k : Int) : ∃ s, (s = a ∨ s = b) ∧ idxD (.lst [.int a, .int b]) (.int (drawn ns k 2)) = some (.int s) := by
  have q0 := drawn_lo ns k (many := 2) (by decide)
  have q1 := drawn_hi ns k (many := 2) (by decide)
  have : drawn ns k 2 = 0 ∨ drawn ns k 2 = 1 := by omega
  rcases this with e | e <;> rw [e]
  · exact ⟨a, .inl rfl, rfl⟩
  · exact ⟨b, .inr rfl, rfl⟩
theorem app_ok {α : Type} {enc : α → D} {l : List α} (h : l.length ≤ 100) {i : Nat} {x : α} {r : Env} : chgS (.own (.lst (l.map enc))) i r [] (appD (enc x)) = .nx (r.set i (.own (.lst ((l ++ [x]).map enc)))) [] := by
  refine chgS_own ?_
  show (if (l.map enc).length < 1000000 then _ else _) = _
  rw [if_pos (by rw [List.length_map]; omega), List.map_append]
  rfl
theorem int_bl (b : Bool) : biD .int [.bl b] = some (.int (if b then 1 else 0)) := rfl
theorem tstep {ns : List Int} (hl : ns.length ≤ 1000) (n : Nat) (at_ kk f : Int) (l : List (Int × Int)) (la pr : Int) (c6 c7 c8 c9 : Sl) (i : Nat) (h1 : Rise f 0 l) (h2 : ∀ p ∈ l, p.1 ≤ la ∧ p.2 ≤ pr) (h3 : f ≤ la) (h4 : 0 ≤ pr) (h5 : pr ≤ 399 * i) (h6 : l.length ≤ i) (hi : i ≤ 5) :
    ∃ l' la' pr', stepF (Phi T (n + 2)) (.one 6) tbody (.int kk) [.val (.lst (ns.map .int)), .val (.int at_), .val (.int f), .val (.int la), .val (.int pr), .own (.lst (l.map encP)), c6, c7, c8, c9] [] =
      .nx [.val (.lst (ns.map .int)), .val (.int at_), .val (.int f), .val (.int la'), .val (.int pr'), .own (.lst (l'.map encP)), .val (.int kk), c7, c8, c9] [] ∧
      Rise f 0 l' ∧ (∀ p ∈ l', p.1 ≤ la' ∧ p.2 ≤ pr') ∧ f ≤ la' ∧ 0 ≤ pr' ∧ pr' ≤ 399 * (i + 1 : Nat) ∧ l'.length ≤ i + 1 := by
  have dr := fun k many (hm : (0 : Int) < many) => r_drawn hc hd hl k hm n
  obtain ⟨s, hs, ex⟩ := pick3 (a := 5) (b := 60) (c := 300) (ns := ns) (at_ + 2)
  have s0 : 0 < s := by omega
  have d2 := dr (at_ + 2) 3 (by decide)
  have d5 := dr (at_ + 5 + 3 * kk) s s0
  have d6 := dr (at_ + 6 + 3 * kk) 400 (by decide)
  have d7 := dr (at_ + 7 + 3 * kk) 4 (by decide)
  have m3 : binD .mul (.int 3) (.int kk) = some (.int (3 * kk)) := by simp [binD]
  have p5 := drawn_lo ns (at_ + 5 + 3 * kk) s0
  have p6 := drawn_lo ns (at_ + 6 + 3 * kk) (many := 400) (by decide)
  have q6 := drawn_hi ns (at_ + 6 + 3 * kk) (many := 400) (by decide)
  obtain ⟨la', ela⟩ : ∃ x, x = la + 1 + drawn ns (at_ + 5 + 3 * kk) s := ⟨_, rfl⟩
  obtain ⟨fac, efac⟩ : ∃ x : Int, x = (if (decide (0 < drawn ns (at_ + 7 + 3 * kk) 4)) = true then 1 else 0) := ⟨_, rfl⟩
  have hfac : fac = 0 ∨ fac = 1 := by rw [efac]; split <;> omega
  obtain ⟨g, eg⟩ : ∃ x, x = drawn ns (at_ + 6 + 3 * kk) 400 * fac := ⟨_, rfl⟩
  have hg : 0 ≤ g ∧ g ≤ 399 := by
    rcases hfac with e | e <;> rw [eg, e] <;> omega
  have mg : binD .mul (.int (drawn ns (at_ + 6 + 3 * kk) 400)) (.int fac) = some (.int g) := by
    rw [eg]
    exact if_pos (.inl ⟨by omega, by omega⟩)
  have st : ∀ b : Bool, decide (la' < 1441) = b → stepF (Phi T (n + 2)) (.one 6) tbody (.int kk) [.val (.lst (ns.map .int)), .val (.int at_), .val (.int f), .val (.int la), .val (.int pr), .own (.lst (l.map encP)), c6, c7, c8, c9] [] =
      .nx [.val (.lst (ns.map .int)), .val (.int at_), .val (.int f), .val (.int la'), .val (.int (pr + g)), .own (.lst ((if b = true then l ++ [(la', pr + g)] else l).map encP)), .val (.int kk), c7, c8, c9] [] := fun b hb => by
    have il : ∀ xs, isL (.lst xs) = true := fun _ => rfl
    have ap : ∀ r : Env, chgS (.own (.lst (l.map encP))) 5 r [] (appD (.tup [.int la', .int (pr + g)])) = .nx (r.set 5 (.own (.lst ((l ++ [(la', pr + g)]).map encP)))) [] := fun r => app_ok (enc := encP) (x := (la', pr + g)) (by omega)
    simp only [stepF, bindTg, tbody, fd__law_tariff, bi_addI, m3, d2, ex, d5, d6, d7, bi_gtI, int_bl, e_v, e_b, e_c, e_bin, e_neg, e_not, e_and, e_or, e_ife, e_cmp, e_ch2, e_tup, e_lst, e_idx, e_sl, e_call, e_bi, e_isi, e_comp, e_bm, e_fld, e_rev, e_new, e_meth, e_box, e_isx, es_nil, es_cons, ec_nil, ec_cons, bind_ok, on_ok, then_nx, then_rt, then_exc, bind_exc, on_exc, up_some, tst_bl, mapMu_ok, calm_ok, lkOf_nil, lock_no, unlock_no, s_asg, s_asgO, s_unp, s_par, s_app, s_ext, s_seti, s_setf, s_raise, s_try, s_expr, s_ret, s_ife, s_for, s_whl, s_fz, s_pass, ss_nil, ss_cons, slot_0, slot_s, plc_b, chg_sl, rdV_val, rdB_val, rdB_own, endR_rt, endR_nx, endR_exc, List.map_cons, List.map_nil, List.cons_append, List.nil_append, List.replicate, List.set_cons_zero, List.set_cons_succ, look_nil, Bool.not_true, Bool.not_false, if_true, if_false, Bool.false_eq_true, reduceIte, List.length_cons, List.length_nil, Nat.reduceAdd, Nat.reduceSub, wipeE, List.foldl_cons, List.foldl_nil, Option.map_some]
    rw [← efac] at *
    simp only [mg, bi_addI, bi_ltI, e_v, e_b, e_c, e_bin, e_neg, e_not, e_and, e_or, e_ife, e_cmp, e_ch2, e_tup, e_lst, e_idx, e_sl, e_call, e_bi, e_isi, e_comp, e_bm, e_fld, e_rev, e_new, e_meth, e_box, e_isx, es_nil, es_cons, ec_nil, ec_cons, bind_ok, on_ok, then_nx, then_rt, then_exc, bind_exc, on_exc, up_some, tst_bl, mapMu_ok, calm_ok, lkOf_nil, lock_no, unlock_no, s_asg, s_asgO, s_unp, s_par, s_app, s_ext, s_seti, s_setf, s_raise, s_try, s_expr, s_ret, s_ife, s_for, s_whl, s_fz, s_pass, ss_nil, ss_cons, slot_0, slot_s, plc_b, chg_sl, rdV_val, rdB_val, rdB_own, endR_rt, endR_nx, endR_exc, List.map_cons, List.map_nil, List.cons_append, List.nil_append, List.replicate, List.set_cons_zero, List.set_cons_succ, look_nil, Bool.not_true, Bool.not_false, if_true, if_false, Bool.false_eq_true, reduceIte, List.length_cons, List.length_nil, Nat.reduceAdd, Nat.reduceSub, wipeE, List.foldl_cons, List.foldl_nil, Option.map_some]
    rw [← ela] at *
    rw [hb]
    cases b
    · simp only [e_v, e_b, e_c, e_bin, e_neg, e_not, e_and, e_or, e_ife, e_cmp, e_ch2, e_tup, e_lst, e_idx, e_sl, e_call, e_bi, e_isi, e_comp, e_bm, e_fld, e_rev, e_new, e_meth, e_box, e_isx, es_nil, es_cons, ec_nil, ec_cons, bind_ok, on_ok, then_nx, then_rt, then_exc, bind_exc, on_exc, up_some, tst_bl, mapMu_ok, calm_ok, lkOf_nil, lock_no, unlock_no, s_asg, s_asgO, s_unp, s_par, s_app, s_ext, s_seti, s_setf, s_raise, s_try, s_expr, s_ret, s_ife, s_for, s_whl, s_fz, s_pass, ss_nil, ss_cons, slot_0, slot_s, plc_b, chg_sl, rdV_val, rdB_val, rdB_own, endR_rt, endR_nx, endR_exc, List.map_cons, List.map_nil, List.cons_append, List.nil_append, List.replicate, List.set_cons_zero, List.set_cons_succ, look_nil, Bool.not_true, Bool.not_false, if_true, if_false, Bool.false_eq_true, reduceIte, List.length_cons, List.length_nil, Nat.reduceAdd, Nat.reduceSub, wipeE, List.foldl_cons, List.foldl_nil, Option.map_some]
    · simp only [il, ap, e_v, e_b, e_c, e_bin, e_neg, e_not, e_and, e_or, e_ife, e_cmp, e_ch2, e_tup, e_lst, e_idx, e_sl, e_call, e_bi, e_isi, e_comp, e_bm, e_fld, e_rev, e_new, e_meth, e_box, e_isx, es_nil, es_cons, ec_nil, ec_cons, bind_ok, on_ok, then_nx, then_rt, then_exc, bind_exc, on_exc, up_some, tst_bl, mapMu_ok, calm_ok, lkOf_nil, lock_no, unlock_no, s_asg, s_asgO, s_unp, s_par, s_app, s_ext, s_seti, s_setf, s_raise, s_try, s_expr, s_ret, s_ife, s_for, s_whl, s_fz, s_pass, ss_nil, ss_cons, slot_0, slot_s, plc_b, chg_sl, rdV_val, rdB_val, rdB_own, endR_rt, endR_nx, endR_exc, List.map_cons, List.map_nil, List.cons_append, List.nil_append, List.replicate, List.set_cons_zero, List.set_cons_succ, look_nil, Bool.not_true, Bool.not_false, if_true, if_false, Bool.false_eq_true, reduceIte, List.length_cons, List.length_nil, Nat.reduceAdd, Nat.reduceSub, wipeE, List.foldl_cons, List.foldl_nil, Option.map_some]
  cases hb : decide (la' < 1441) with
  | true =>
    have hla : la' < 1441 := of_decide_eq_true hb
    refine ⟨l ++ [(la', pr + g)], la', pr + g, st true hb, h1.snoc (fun p hp => ?_) (by omega) (by omega) (by omega) (by omega), fun p hp => ?_, by omega, by omega, by omega, by rw [List.length_append]; simp; omega⟩
    · have := h2 p hp
      omega
    · rcases List.mem_append.mp hp with z | z
      · have := h2 p z; omega
      · obtain rfl := List.mem_singleton.mp z
        exact ⟨Int.le_refl _, Int.le_refl _⟩
  | false =>
    refine ⟨l, la', pr + g, st false hb, h1, fun p hp => ?_, by omega, by omega, by omega, by omega⟩
    have := h2 p hp
    omega
structure GoodT (f : Int) (l : List (Int × Int)) (z m : Int) (t : D) : Prop where
  gf : 0 ≤ f ∧ f ≤ 60
  gl : Rise f 0 l
  gn : l.length ≤ 5
  gz : 1 ≤ z ∧ z ≤ 1440
  gm : 0 ≤ m ∧ m ≤ 999
  gt : t = .non ∨ ∃ i, t = .int i ∧ 0 ≤ i ∧ i ≤ 99999
theorem r_tariff {ns : List Int} (hl : ns.length ≤ 1000) (at_ : Int) (n : Nat) : ∃ f l z m t, Phi T (n + 3) "_law_tariff" [.lst (ns.map .int), .int at_] [] = .ok (.tup [.int f, .tup (l.map encP), .int z, .int m, t]) [] ∧ GoodT f l z m t := by
  rw [phi_run (show T "_law_tariff" = some fd__law_tariff from rfl) rfl rfl]
  have dr := fun k many (hm : (0 : Int) < many) => r_drawn hc hd hl k hm n
  obtain ⟨f, hf, ef⟩ := pick4 (a := 0) (b := 1) (c := 15) (d := 60) (ns := ns) at_
  obtain ⟨s26, hs, es⟩ := pick3 (a := 3000) (b := 30) (c := 90000) (ns := ns) (at_ + 26)
  obtain ⟨z, hz, ez⟩ := pick4 (a := 1) (b := 7) (c := 60) (d := 1440) (ns := ns) (at_ + 27)
  obtain ⟨m, hm, em⟩ := pick4 (a := 0) (b := 1) (c := 150) (d := 999) (ns := ns) (at_ + 28)
  have d0 := dr at_ 4 (by decide)
  have d1 := dr (at_ + 1) 6 (by decide)
  have d3 := dr (at_ + 3) 3 (by decide)
  have d26 := dr (at_ + 26) 3 (by decide)
  have d27 := dr (at_ + 27) 4 (by decide)
  have d28 := dr (at_ + 28) 4 (by decide)
  have s0 : 0 < s26 := by omega
  have d25 := dr (at_ + 25) s26 s0
  have t0 := drawn_lo ns (at_ + 25) s0
  have t1 := drawn_hi ns (at_ + 25) s0
  have p0 := drawn_lo ns (at_ + 1) (many := 6) (by decide)
  have p1 := drawn_hi ns (at_ + 1) (many := 6) (by decide)
  have e6 : srcF .rng [.int (drawn ns (at_ + 1) 6)] [] = some (rngL 0 1 (drawn ns (at_ + 1) 6).toNat) := srcF_rng1 (by omega) (by omega)
  obtain ⟨r', el, l, la, pr, c6, er, h1, h2, h3, h4, h5, h6⟩ := loopF_inv (step := stepF (Phi T (n + 2)) (.one 6) tbody) (m := [])
    (fun i r => ∃ (l : List (Int × Int)) (la pr : Int) (c6 : Sl), r = [.val (.lst (ns.map .int)), .val (.int at_), .val (.int f), .val (.int la), .val (.int pr), .own (.lst (l.map encP)), c6, .no, .no, .no] ∧ Rise f 0 l ∧ (∀ p ∈ l, p.1 ≤ la ∧ p.2 ≤ pr) ∧ f ≤ la ∧ 0 ≤ pr ∧ pr ≤ 399 * (i : Nat) ∧ l.length ≤ i)
    (rngL 0 1 (drawn ns (at_ + 1) 6).toNat) 0 [.val (.lst (ns.map .int)), .val (.int at_), .val (.int f), .val (.int f), .val (.int 0), .own (.lst []), .no, .no, .no, .no] ⟨[], f, 0, .no, rfl, .nil, fun p hp => (by cases hp), Int.le_refl _, Int.le_refl _, by simp, Nat.le_refl _⟩ (by
      rintro j x r hj ⟨l, la, pr, c6, rfl, h1, h2, h3, h4, h5, h6⟩
      have hjx := rngL_get hj
      subst hjx
      have hjl := (List.getElem?_eq_some_iff.mp hj).1
      rw [rngL_len] at hjl
      obtain ⟨l', la', pr', e1, k1, k2, k3, k4, k5, k6⟩ := tstep hl n at_ (0 + (j : Int) * 1) f l la pr c6 .no .no .no (0 + j) h1 h2 h3 h4 h5 h6 (by omega)
      exact ⟨_, e1, l', la', pr', _, rfl, k1, k2, k3, k4, k5, k6⟩)
  rw [rngL_len] at h6
  subst er
  have eo : ownIf (.lst []) = .own (.lst []) := rfl
  simp only [tbody, fd__law_tariff] at el
  refine ⟨f, l, z, m, if (drawn ns (at_ + 3) 3 == 0) = true then .non else .int (drawn ns (at_ + 25) s26), ?_, ⟨by omega, h1, by omega, by omega, by omega, ?_⟩⟩
  · simp only [fd__law_tariff, d0, ef, d1, bi_addI, e6, eo, el, d26, es, d25, d27, ez, d28, em, bi_tupL, d3, bi_eqI, e_v, e_b, e_c, e_bin, e_neg, e_not, e_and, e_or, e_ife, e_cmp, e_ch2, e_tup, e_lst, e_idx, e_sl, e_call, e_bi, e_isi, e_comp, e_bm, e_fld, e_rev, e_new, e_meth, e_box, e_isx, es_nil, es_cons, ec_nil, ec_cons, bind_ok, on_ok, then_nx, then_rt, then_exc, bind_exc, on_exc, up_some, tst_bl, mapMu_ok, calm_ok, lkOf_nil, lock_no, unlock_no, s_asg, s_asgO, s_unp, s_par, s_app, s_ext, s_seti, s_setf, s_raise, s_try, s_expr, s_ret, s_ife, s_for, s_whl, s_fz, s_pass, ss_nil, ss_cons, slot_0, slot_s, plc_b, chg_sl, rdV_val, rdB_val, rdB_own, endR_rt, endR_nx, endR_exc, List.map_cons, List.map_nil, List.cons_append, List.nil_append, List.replicate, List.set_cons_zero, List.set_cons_succ, look_nil, Bool.not_true, Bool.not_false, if_true, if_false, Bool.false_eq_true, reduceIte, List.length_cons, List.length_nil, Nat.reduceAdd, Nat.reduceSub, wipeE, List.foldl_cons, List.foldl_nil, Option.map_some]
    cases (drawn ns (at_ + 3) 3 == 0) <;> simp only [e_v, e_b, e_c, e_bin, e_neg, e_not, e_and, e_or, e_ife, e_cmp, e_ch2, e_tup, e_lst, e_idx, e_sl, e_call, e_bi, e_isi, e_comp, e_bm, e_fld, e_rev, e_new, e_meth, e_box, e_isx, es_nil, es_cons, ec_nil, ec_cons, bind_ok, on_ok, then_nx, then_rt, then_exc, bind_exc, on_exc, up_some, tst_bl, mapMu_ok, calm_ok, lkOf_nil, lock_no, unlock_no, s_asg, s_asgO, s_unp, s_par, s_app, s_ext, s_seti, s_setf, s_raise, s_try, s_expr, s_ret, s_ife, s_for, s_whl, s_fz, s_pass, ss_nil, ss_cons, slot_0, slot_s, plc_b, chg_sl, rdV_val, rdB_val, rdB_own, endR_rt, endR_nx, endR_exc, List.map_cons, List.map_nil, List.cons_append, List.nil_append, List.replicate, List.set_cons_zero, List.set_cons_succ, look_nil, Bool.not_true, Bool.not_false, if_true, if_false, Bool.false_eq_true, reduceIte, List.length_cons, List.length_nil, Nat.reduceAdd, Nat.reduceSub, wipeE, List.foldl_cons, List.foldl_nil, Option.map_some]
  · split
    · exact .inl rfl
    · exact .inr ⟨_, rfl, t0, by omega⟩

def encO : Option Int → D
  | none => .non
  | some i => .int i
def encT (a : Tar) : D := .tup [.int a.f, .tup (a.l.map encP), .int a.z, .int a.m, encO a.t]
theorem r_tar {ns : List Int} (hl : ns.length ≤ 1000) (at_ : Int) (n : Nat) : ∃ a, Phi T (n + 3) "_law_tariff" [.lst (ns.map .int), .int at_] [] = .ok (encT a) [] ∧ GT a ∧ a.m ≤ 999 := by
  obtain ⟨f, l, z, m, t, e, g⟩ := r_tariff hl at_ n
  rcases g.gt with rfl | ⟨i, rfl, h1, h2⟩
  · exact ⟨⟨f, l, z, m, none⟩, e, ⟨g.gf, g.gl, g.gn, g.gz, ⟨g.gm.1, by have := g.gm.2; show m ≤ 2000; omega⟩, fun i hi => by cases hi⟩, g.gm.2⟩
  · exact ⟨⟨f, l, z, m, some i⟩, e, ⟨g.gf, g.gl, g.gn, g.gz, ⟨g.gm.1, by have := g.gm.2; show m ≤ 2000; omega⟩, fun j hj => by cases hj; exact ⟨h1, h2⟩⟩, g.gm.2⟩

/-! ### prices -/
theorem r_begun (a : Int) {z : Int} (hz : 1 ≤ z) (hz2 : z ≤ 1440) (n : Nat) : Phi T (n + 1) "begun" [.int a, .int z] [] = .ok (.int ((a + z - 1) / z)) [] := by
  rw [phi_run (show T "begun" = some fd_begun from rfl) rfl rfl]
  simp (disch := omega) only [fd_begun, e_v, e_b, e_c, e_bin, e_neg, e_not, e_and, e_or, e_ife, e_cmp, e_ch2, e_tup, e_lst, e_idx, e_sl, e_call, e_bi, e_isi, e_comp, e_bm, e_fld, e_rev, e_new, e_meth, e_box, e_isx, es_nil, es_cons, ec_nil, ec_cons, bind_ok, on_ok, then_nx, then_rt, then_exc, bind_exc, on_exc, up_some, tst_bl, mapMu_ok, calm_ok, lkOf_nil, lock_no, unlock_no, s_asg, s_asgO, s_unp, s_par, s_app, s_ext, s_seti, s_setf, s_raise, s_try, s_expr, s_ret, s_ife, s_for, s_whl, s_fz, s_pass, ss_nil, ss_cons, slot_0, slot_s, plc_b, chg_sl, rdV_val, rdB_val, rdB_own, endR_rt, endR_nx, endR_exc, List.map_cons, List.map_nil, List.cons_append, List.nil_append, List.replicate, List.set_cons_zero, List.set_cons_succ, look_nil, Bool.not_true, Bool.not_false, if_true, if_false, Bool.false_eq_true, reduceIte, List.length_cons, List.length_nil, Nat.reduceAdd, Nat.reduceSub, wipeE, List.foldl_cons, List.foldl_nil, Option.map_some, bi_mulA, bi_mulB, bi_fdv, bi_modI, bi_dvm, bi_rlen, kd_ix, bi_sumT, bi_mx2, bi_mn2, bi_intB, bi_lstT, bi_lstL, bi_sumI, is_nI, is_nN, isn_I, isn_N, eq_IN, eq_NI, eq_NN, ne_IN, ne_NI, ne_NN, eq_BB, ne_BB, neg_I, is_L, ow_L, it1_0, il1_0, it2_0, il2_0, it2_1, il2_1, it3_0, il3_0, it3_1, il3_1, it3_2, il3_2, it4_0, il4_0, it4_1, il4_1, it4_2, il4_2, it4_3, il4_3, it5_0, il5_0, it5_1, il5_1, it5_2, il5_2, it5_3, il5_3, it5_4, il5_4, un2, bt2, un3, bt3, un4, bt4, un5, bt5, bt1, stF, srcL, srcT, srcFL, srcFT, app_L, ext_L, add_L, add_T, src_rng1, src_rng2, srcF_rng1, srcF_rng2, bi_addI, bi_subI, bi_ltI, bi_leI, bi_gtI, bi_geI, bi_eqI, bi_neI, bi_is, bi_isnot, bi_tupL]
def dbody : List Wh.St := match fd_day_price.bd with
  | [_, _, _, .for_ _ _ _ b, _, _] => b
  | _ => []
theorem day_loop (F : Fn) (mi : Int) (s0 s2 s3 s4 s5 s6 : Sl) : ∀ (l : List (Int × Int)) (la pr : Int) (c9 c10 : Sl), ∃ c9' c10', loopF (stepF F (.many [9, 10]) dbody) (l.map encP) [s0, .val (.int mi), s2, s3, s4, s5, s6, .val (.int la), .val (.int pr), c9, c10] [] =
    .nx [s0, .val (.int mi), s2, s3, s4, s5, s6, .val (.int (dpl mi l la pr).1), .val (.int (dpl mi l la pr).2), c9', c10'] []
  | [], la, pr, c9, c10 => ⟨c9, c10, rfl⟩
  | (x, y) :: l, la, pr, c9, c10 => by
    have st : stepF F (.many [9, 10]) dbody (encP (x, y)) [s0, .val (.int mi), s2, s3, s4, s5, s6, .val (.int la), .val (.int pr), c9, c10] [] =
        .nx (if la < mi then [s0, .val (.int mi), s2, s3, s4, s5, s6, .val (.int x), .val (.int y), .val (.int x), .val (.int y)] else [s0, .val (.int mi), s2, s3, s4, s5, s6, .val (.int la), .val (.int pr), .val (.int x), .val (.int y)]) [] := by
      simp only [stF, dbody, fd_day_price, encP, e_v, e_b, e_c, e_bin, e_neg, e_not, e_and, e_or, e_ife, e_cmp, e_ch2, e_tup, e_lst, e_idx, e_sl, e_call, e_bi, e_isi, e_comp, e_bm, e_fld, e_rev, e_new, e_meth, e_box, e_isx, es_nil, es_cons, ec_nil, ec_cons, bind_ok, on_ok, then_nx, then_rt, then_exc, bind_exc, on_exc, up_some, tst_bl, mapMu_ok, calm_ok, lkOf_nil, lock_no, unlock_no, s_asg, s_asgO, s_unp, s_par, s_app, s_ext, s_seti, s_setf, s_raise, s_try, s_expr, s_ret, s_ife, s_for, s_whl, s_fz, s_pass, ss_nil, ss_cons, slot_0, slot_s, plc_b, chg_sl, rdV_val, rdB_val, rdB_own, endR_rt, endR_nx, endR_exc, List.map_cons, List.map_nil, List.cons_append, List.nil_append, List.replicate, List.set_cons_zero, List.set_cons_succ, look_nil, Bool.not_true, Bool.not_false, if_true, if_false, Bool.false_eq_true, reduceIte, List.length_cons, List.length_nil, Nat.reduceAdd, Nat.reduceSub, wipeE, List.foldl_cons, List.foldl_nil, Option.map_some, bi_mulA, bi_mulB, bi_fdv, bi_modI, bi_dvm, bi_rlen, kd_ix, bi_sumT, bi_mx2, bi_mn2, bi_intB, bi_lstT, bi_lstL, bi_sumI, is_nI, is_nN, isn_I, isn_N, eq_IN, eq_NI, eq_NN, ne_IN, ne_NI, ne_NN, eq_BB, ne_BB, neg_I, is_L, ow_L, it1_0, il1_0, it2_0, il2_0, it2_1, il2_1, it3_0, il3_0, it3_1, il3_1, it3_2, il3_2, it4_0, il4_0, it4_1, il4_1, it4_2, il4_2, it4_3, il4_3, it5_0, il5_0, it5_1, il5_1, it5_2, il5_2, it5_3, il5_3, it5_4, il5_4, un2, bt2, un3, bt3, un4, bt4, un5, bt5, bt1, stF, srcL, srcT, srcFL, srcFT, app_L, ext_L, add_L, add_T, src_rng1, src_rng2, srcF_rng1, srcF_rng2, bi_addI, bi_subI, bi_ltI, bi_leI, bi_gtI, bi_geI, bi_eqI, bi_neI, bi_is, bi_isnot, bi_tupL]
      by_cases h : la < mi
      · simp only [decY h, if_pos h, e_v, e_b, e_c, e_bin, e_neg, e_not, e_and, e_or, e_ife, e_cmp, e_ch2, e_tup, e_lst, e_idx, e_sl, e_call, e_bi, e_isi, e_comp, e_bm, e_fld, e_rev, e_new, e_meth, e_box, e_isx, es_nil, es_cons, ec_nil, ec_cons, bind_ok, on_ok, then_nx, then_rt, then_exc, bind_exc, on_exc, up_some, tst_bl, mapMu_ok, calm_ok, lkOf_nil, lock_no, unlock_no, s_asg, s_asgO, s_unp, s_par, s_app, s_ext, s_seti, s_setf, s_raise, s_try, s_expr, s_ret, s_ife, s_for, s_whl, s_fz, s_pass, ss_nil, ss_cons, slot_0, slot_s, plc_b, chg_sl, rdV_val, rdB_val, rdB_own, endR_rt, endR_nx, endR_exc, List.map_cons, List.map_nil, List.cons_append, List.nil_append, List.replicate, List.set_cons_zero, List.set_cons_succ, look_nil, Bool.not_true, Bool.not_false, if_true, if_false, Bool.false_eq_true, reduceIte, List.length_cons, List.length_nil, Nat.reduceAdd, Nat.reduceSub, wipeE, List.foldl_cons, List.foldl_nil, Option.map_some, bi_mulA, bi_mulB, bi_fdv, bi_modI, bi_dvm, bi_rlen, kd_ix, bi_sumT, bi_mx2, bi_mn2, bi_intB, bi_lstT, bi_lstL, bi_sumI, is_nI, is_nN, isn_I, isn_N, eq_IN, eq_NI, eq_NN, ne_IN, ne_NI, ne_NN, eq_BB, ne_BB, neg_I, is_L, ow_L, it1_0, il1_0, it2_0, il2_0, it2_1, il2_1, it3_0, il3_0, it3_1, il3_1, it3_2, il3_2, it4_0, il4_0, it4_1, il4_1, it4_2, il4_2, it4_3, il4_3, it5_0, il5_0, it5_1, il5_1, it5_2, il5_2, it5_3, il5_3, it5_4, il5_4, un2, bt2, un3, bt3, un4, bt4, un5, bt5, bt1, stF, srcL, srcT, srcFL, srcFT, app_L, ext_L, add_L, add_T, src_rng1, src_rng2, srcF_rng1, srcF_rng2, bi_addI, bi_subI, bi_ltI, bi_leI, bi_gtI, bi_geI, bi_eqI, bi_neI, bi_is, bi_isnot, bi_tupL]
      · simp only [decN h, if_neg h, e_v, e_b, e_c, e_bin, e_neg, e_not, e_and, e_or, e_ife, e_cmp, e_ch2, e_tup, e_lst, e_idx, e_sl, e_call, e_bi, e_isi, e_comp, e_bm, e_fld, e_rev, e_new, e_meth, e_box, e_isx, es_nil, es_cons, ec_nil, ec_cons, bind_ok, on_ok, then_nx, then_rt, then_exc, bind_exc, on_exc, up_some, tst_bl, mapMu_ok, calm_ok, lkOf_nil, lock_no, unlock_no, s_asg, s_asgO, s_unp, s_par, s_app, s_ext, s_seti, s_setf, s_raise, s_try, s_expr, s_ret, s_ife, s_for, s_whl, s_fz, s_pass, ss_nil, ss_cons, slot_0, slot_s, plc_b, chg_sl, rdV_val, rdB_val, rdB_own, endR_rt, endR_nx, endR_exc, List.map_cons, List.map_nil, List.cons_append, List.nil_append, List.replicate, List.set_cons_zero, List.set_cons_succ, look_nil, Bool.not_true, Bool.not_false, if_true, if_false, Bool.false_eq_true, reduceIte, List.length_cons, List.length_nil, Nat.reduceAdd, Nat.reduceSub, wipeE, List.foldl_cons, List.foldl_nil, Option.map_some, bi_mulA, bi_mulB, bi_fdv, bi_modI, bi_dvm, bi_rlen, kd_ix, bi_sumT, bi_mx2, bi_mn2, bi_intB, bi_lstT, bi_lstL, bi_sumI, is_nI, is_nN, isn_I, isn_N, eq_IN, eq_NI, eq_NN, ne_IN, ne_NI, ne_NN, eq_BB, ne_BB, neg_I, is_L, ow_L, it1_0, il1_0, it2_0, il2_0, it2_1, il2_1, it3_0, il3_0, it3_1, il3_1, it3_2, il3_2, it4_0, il4_0, it4_1, il4_1, it4_2, il4_2, it4_3, il4_3, it5_0, il5_0, it5_1, il5_1, it5_2, il5_2, it5_3, il5_3, it5_4, il5_4, un2, bt2, un3, bt3, un4, bt4, un5, bt5, bt1, stF, srcL, srcT, srcFL, srcFT, app_L, ext_L, add_L, add_T, src_rng1, src_rng2, srcF_rng1, srcF_rng2, bi_addI, bi_subI, bi_ltI, bi_leI, bi_gtI, bi_geI, bi_eqI, bi_neI, bi_is, bi_isnot, bi_tupL]
    rw [List.map_cons, loopF, st, then_nx, dpl]
    by_cases h : la < mi
    · rw [if_pos h, if_pos h]
      exact day_loop F mi s0 s2 s3 s4 s5 s6 l x y _ _
    · rw [if_neg h, if_neg h]
      exact day_loop F mi s0 s2 s3 s4 s5 s6 l la pr _ _
theorem r_day {a : Tar} (g : GT a) (mi : Int) (n : Nat) : Phi T (n + 2) "day_price" [encT a, .int mi] [] = .ok (.int (dayP a mi)) [] := by
  rw [phi_run (show T "day_price" = some fd_day_price from rfl) rfl rfl]
  obtain ⟨c9, c10, el⟩ := day_loop (Phi T (n + 1)) mi (.val (encT a)) (.val (.int a.f)) (.val (.tup (a.l.map encP))) (.val (.int a.z)) (.val (.int a.m)) (.val (encO a.t)) a.l a.f 0 .no .no
  have gz := g.gz
  have gm := g.gm
  have be := fun x => r_begun x gz.1 gz.2 n
  simp only [dbody, fd_day_price] at el
  simp only [encT] at el ⊢
  simp only [fd_day_price, e_v, e_b, e_c, e_bin, e_neg, e_not, e_and, e_or, e_ife, e_cmp, e_ch2, e_tup, e_lst, e_idx, e_sl, e_call, e_bi, e_isi, e_comp, e_bm, e_fld, e_rev, e_new, e_meth, e_box, e_isx, es_nil, es_cons, ec_nil, ec_cons, bind_ok, on_ok, then_nx, then_rt, then_exc, bind_exc, on_exc, up_some, tst_bl, mapMu_ok, calm_ok, lkOf_nil, lock_no, unlock_no, s_asg, s_asgO, s_unp, s_par, s_app, s_ext, s_seti, s_setf, s_raise, s_try, s_expr, s_ret, s_ife, s_for, s_whl, s_fz, s_pass, ss_nil, ss_cons, slot_0, slot_s, plc_b, chg_sl, rdV_val, rdB_val, rdB_own, endR_rt, endR_nx, endR_exc, List.map_cons, List.map_nil, List.cons_append, List.nil_append, List.replicate, List.set_cons_zero, List.set_cons_succ, look_nil, Bool.not_true, Bool.not_false, if_true, if_false, Bool.false_eq_true, reduceIte, List.length_cons, List.length_nil, Nat.reduceAdd, Nat.reduceSub, wipeE, List.foldl_cons, List.foldl_nil, Option.map_some, bi_mulA, bi_mulB, bi_fdv, bi_modI, bi_dvm, bi_rlen, kd_ix, bi_sumT, bi_mx2, bi_mn2, bi_intB, bi_lstT, bi_lstL, bi_sumI, is_nI, is_nN, isn_I, isn_N, eq_IN, eq_NI, eq_NN, ne_IN, ne_NI, ne_NN, eq_BB, ne_BB, neg_I, is_L, ow_L, it1_0, il1_0, it2_0, il2_0, it2_1, il2_1, it3_0, il3_0, it3_1, il3_1, it3_2, il3_2, it4_0, il4_0, it4_1, il4_1, it4_2, il4_2, it4_3, il4_3, it5_0, il5_0, it5_1, il5_1, it5_2, il5_2, it5_3, il5_3, it5_4, il5_4, un2, bt2, un3, bt3, un4, bt4, un5, bt5, bt1, stF, srcL, srcT, srcFL, srcFT, app_L, ext_L, add_L, add_T, src_rng1, src_rng2, srcF_rng1, srcF_rng2, bi_addI, bi_subI, bi_ltI, bi_leI, bi_gtI, bi_geI, bi_eqI, bi_neI, bi_is, bi_isnot, bi_tupL]
  by_cases h : mi ≤ a.f
  · simp only [decY h, e_v, e_b, e_c, e_bin, e_neg, e_not, e_and, e_or, e_ife, e_cmp, e_ch2, e_tup, e_lst, e_idx, e_sl, e_call, e_bi, e_isi, e_comp, e_bm, e_fld, e_rev, e_new, e_meth, e_box, e_isx, es_nil, es_cons, ec_nil, ec_cons, bind_ok, on_ok, then_nx, then_rt, then_exc, bind_exc, on_exc, up_some, tst_bl, mapMu_ok, calm_ok, lkOf_nil, lock_no, unlock_no, s_asg, s_asgO, s_unp, s_par, s_app, s_ext, s_seti, s_setf, s_raise, s_try, s_expr, s_ret, s_ife, s_for, s_whl, s_fz, s_pass, ss_nil, ss_cons, slot_0, slot_s, plc_b, chg_sl, rdV_val, rdB_val, rdB_own, endR_rt, endR_nx, endR_exc, List.map_cons, List.map_nil, List.cons_append, List.nil_append, List.replicate, List.set_cons_zero, List.set_cons_succ, look_nil, Bool.not_true, Bool.not_false, if_true, if_false, Bool.false_eq_true, reduceIte, List.length_cons, List.length_nil, Nat.reduceAdd, Nat.reduceSub, wipeE, List.foldl_cons, List.foldl_nil, Option.map_some, bi_mulA, bi_mulB, bi_fdv, bi_modI, bi_dvm, bi_rlen, kd_ix, bi_sumT, bi_mx2, bi_mn2, bi_intB, bi_lstT, bi_lstL, bi_sumI, is_nI, is_nN, isn_I, isn_N, eq_IN, eq_NI, eq_NN, ne_IN, ne_NI, ne_NN, eq_BB, ne_BB, neg_I, is_L, ow_L, it1_0, il1_0, it2_0, il2_0, it2_1, il2_1, it3_0, il3_0, it3_1, il3_1, it3_2, il3_2, it4_0, il4_0, it4_1, il4_1, it4_2, il4_2, it4_3, il4_3, it5_0, il5_0, it5_1, il5_1, it5_2, il5_2, it5_3, il5_3, it5_4, il5_4, un2, bt2, un3, bt3, un4, bt4, un5, bt5, bt1, stF, srcL, srcT, srcFL, srcFT, app_L, ext_L, add_L, add_T, src_rng1, src_rng2, srcF_rng1, srcF_rng2, bi_addI, bi_subI, bi_ltI, bi_leI, bi_gtI, bi_geI, bi_eqI, bi_neI, bi_is, bi_isnot, bi_tupL, dayP, if_pos h]
  · simp only [decN h, e_v, e_b, e_c, e_bin, e_neg, e_not, e_and, e_or, e_ife, e_cmp, e_ch2, e_tup, e_lst, e_idx, e_sl, e_call, e_bi, e_isi, e_comp, e_bm, e_fld, e_rev, e_new, e_meth, e_box, e_isx, es_nil, es_cons, ec_nil, ec_cons, bind_ok, on_ok, then_nx, then_rt, then_exc, bind_exc, on_exc, up_some, tst_bl, mapMu_ok, calm_ok, lkOf_nil, lock_no, unlock_no, s_asg, s_asgO, s_unp, s_par, s_app, s_ext, s_seti, s_setf, s_raise, s_try, s_expr, s_ret, s_ife, s_for, s_whl, s_fz, s_pass, ss_nil, ss_cons, slot_0, slot_s, plc_b, chg_sl, rdV_val, rdB_val, rdB_own, endR_rt, endR_nx, endR_exc, List.map_cons, List.map_nil, List.cons_append, List.nil_append, List.replicate, List.set_cons_zero, List.set_cons_succ, look_nil, Bool.not_true, Bool.not_false, if_true, if_false, Bool.false_eq_true, reduceIte, List.length_cons, List.length_nil, Nat.reduceAdd, Nat.reduceSub, wipeE, List.foldl_cons, List.foldl_nil, Option.map_some, bi_mulA, bi_mulB, bi_fdv, bi_modI, bi_dvm, bi_rlen, kd_ix, bi_sumT, bi_mx2, bi_mn2, bi_intB, bi_lstT, bi_lstL, bi_sumI, is_nI, is_nN, isn_I, isn_N, eq_IN, eq_NI, eq_NN, ne_IN, ne_NI, ne_NN, eq_BB, ne_BB, neg_I, is_L, ow_L, it1_0, il1_0, it2_0, il2_0, it2_1, il2_1, it3_0, il3_0, it3_1, il3_1, it3_2, il3_2, it4_0, il4_0, it4_1, il4_1, it4_2, il4_2, it4_3, il4_3, it5_0, il5_0, it5_1, il5_1, it5_2, il5_2, it5_3, il5_3, it5_4, il5_4, un2, bt2, un3, bt3, un4, bt4, un5, bt5, bt1, stF, srcL, srcT, srcFL, srcFT, app_L, ext_L, add_L, add_T, src_rng1, src_rng2, srcF_rng1, srcF_rng2, bi_addI, bi_subI, bi_ltI, bi_leI, bi_gtI, bi_geI, bi_eqI, bi_neI, bi_is, bi_isnot, bi_tupL, dayP, if_neg h, el, rawQ]
    obtain ⟨q1, hq⟩ : ∃ q, q = dpl mi a.l a.f 0 := ⟨_, rfl⟩
    rw [← hq]
    by_cases h2 : q1.1 < mi
    · simp (disch := omega) only [decY h2, if_pos h2, be, e_v, e_b, e_c, e_bin, e_neg, e_not, e_and, e_or, e_ife, e_cmp, e_ch2, e_tup, e_lst, e_idx, e_sl, e_call, e_bi, e_isi, e_comp, e_bm, e_fld, e_rev, e_new, e_meth, e_box, e_isx, es_nil, es_cons, ec_nil, ec_cons, bind_ok, on_ok, then_nx, then_rt, then_exc, bind_exc, on_exc, up_some, tst_bl, mapMu_ok, calm_ok, lkOf_nil, lock_no, unlock_no, s_asg, s_asgO, s_unp, s_par, s_app, s_ext, s_seti, s_setf, s_raise, s_try, s_expr, s_ret, s_ife, s_for, s_whl, s_fz, s_pass, ss_nil, ss_cons, slot_0, slot_s, plc_b, chg_sl, rdV_val, rdB_val, rdB_own, endR_rt, endR_nx, endR_exc, List.map_cons, List.map_nil, List.cons_append, List.nil_append, List.replicate, List.set_cons_zero, List.set_cons_succ, look_nil, Bool.not_true, Bool.not_false, if_true, if_false, Bool.false_eq_true, reduceIte, List.length_cons, List.length_nil, Nat.reduceAdd, Nat.reduceSub, wipeE, List.foldl_cons, List.foldl_nil, Option.map_some, bi_mulA, bi_mulB, bi_fdv, bi_modI, bi_dvm, bi_rlen, kd_ix, bi_sumT, bi_mx2, bi_mn2, bi_intB, bi_lstT, bi_lstL, bi_sumI, is_nI, is_nN, isn_I, isn_N, eq_IN, eq_NI, eq_NN, ne_IN, ne_NI, ne_NN, eq_BB, ne_BB, neg_I, is_L, ow_L, it1_0, il1_0, it2_0, il2_0, it2_1, il2_1, it3_0, il3_0, it3_1, il3_1, it3_2, il3_2, it4_0, il4_0, it4_1, il4_1, it4_2, il4_2, it4_3, il4_3, it5_0, il5_0, it5_1, il5_1, it5_2, il5_2, it5_3, il5_3, it5_4, il5_4, un2, bt2, un3, bt3, un4, bt4, un5, bt5, bt1, stF, srcL, srcT, srcFL, srcFT, app_L, ext_L, add_L, add_T, src_rng1, src_rng2, srcF_rng1, srcF_rng2, bi_addI, bi_subI, bi_ltI, bi_leI, bi_gtI, bi_geI, bi_eqI, bi_neI, bi_is, bi_isnot, bi_tupL]
      cases a.t with
      | none => simp only [encO, capO, e_v, e_b, e_c, e_bin, e_neg, e_not, e_and, e_or, e_ife, e_cmp, e_ch2, e_tup, e_lst, e_idx, e_sl, e_call, e_bi, e_isi, e_comp, e_bm, e_fld, e_rev, e_new, e_meth, e_box, e_isx, es_nil, es_cons, ec_nil, ec_cons, bind_ok, on_ok, then_nx, then_rt, then_exc, bind_exc, on_exc, up_some, tst_bl, mapMu_ok, calm_ok, lkOf_nil, lock_no, unlock_no, s_asg, s_asgO, s_unp, s_par, s_app, s_ext, s_seti, s_setf, s_raise, s_try, s_expr, s_ret, s_ife, s_for, s_whl, s_fz, s_pass, ss_nil, ss_cons, slot_0, slot_s, plc_b, chg_sl, rdV_val, rdB_val, rdB_own, endR_rt, endR_nx, endR_exc, List.map_cons, List.map_nil, List.cons_append, List.nil_append, List.replicate, List.set_cons_zero, List.set_cons_succ, look_nil, Bool.not_true, Bool.not_false, if_true, if_false, Bool.false_eq_true, reduceIte, List.length_cons, List.length_nil, Nat.reduceAdd, Nat.reduceSub, wipeE, List.foldl_cons, List.foldl_nil, Option.map_some, bi_mulA, bi_mulB, bi_fdv, bi_modI, bi_dvm, bi_rlen, kd_ix, bi_sumT, bi_mx2, bi_mn2, bi_intB, bi_lstT, bi_lstL, bi_sumI, is_nI, is_nN, isn_I, isn_N, eq_IN, eq_NI, eq_NN, ne_IN, ne_NI, ne_NN, eq_BB, ne_BB, neg_I, is_L, ow_L, it1_0, il1_0, it2_0, il2_0, it2_1, il2_1, it3_0, il3_0, it3_1, il3_1, it3_2, il3_2, it4_0, il4_0, it4_1, il4_1, it4_2, il4_2, it4_3, il4_3, it5_0, il5_0, it5_1, il5_1, it5_2, il5_2, it5_3, il5_3, it5_4, il5_4, un2, bt2, un3, bt3, un4, bt4, un5, bt5, bt1, stF, srcL, srcT, srcFL, srcFT, app_L, ext_L, add_L, add_T, src_rng1, src_rng2, srcF_rng1, srcF_rng2, bi_addI, bi_subI, bi_ltI, bi_leI, bi_gtI, bi_geI, bi_eqI, bi_neI, bi_is, bi_isnot, bi_tupL]
      | some i => simp only [encO, capO, e_v, e_b, e_c, e_bin, e_neg, e_not, e_and, e_or, e_ife, e_cmp, e_ch2, e_tup, e_lst, e_idx, e_sl, e_call, e_bi, e_isi, e_comp, e_bm, e_fld, e_rev, e_new, e_meth, e_box, e_isx, es_nil, es_cons, ec_nil, ec_cons, bind_ok, on_ok, then_nx, then_rt, then_exc, bind_exc, on_exc, up_some, tst_bl, mapMu_ok, calm_ok, lkOf_nil, lock_no, unlock_no, s_asg, s_asgO, s_unp, s_par, s_app, s_ext, s_seti, s_setf, s_raise, s_try, s_expr, s_ret, s_ife, s_for, s_whl, s_fz, s_pass, ss_nil, ss_cons, slot_0, slot_s, plc_b, chg_sl, rdV_val, rdB_val, rdB_own, endR_rt, endR_nx, endR_exc, List.map_cons, List.map_nil, List.cons_append, List.nil_append, List.replicate, List.set_cons_zero, List.set_cons_succ, look_nil, Bool.not_true, Bool.not_false, if_true, if_false, Bool.false_eq_true, reduceIte, List.length_cons, List.length_nil, Nat.reduceAdd, Nat.reduceSub, wipeE, List.foldl_cons, List.foldl_nil, Option.map_some, bi_mulA, bi_mulB, bi_fdv, bi_modI, bi_dvm, bi_rlen, kd_ix, bi_sumT, bi_mx2, bi_mn2, bi_intB, bi_lstT, bi_lstL, bi_sumI, is_nI, is_nN, isn_I, isn_N, eq_IN, eq_NI, eq_NN, ne_IN, ne_NI, ne_NN, eq_BB, ne_BB, neg_I, is_L, ow_L, it1_0, il1_0, it2_0, il2_0, it2_1, il2_1, it3_0, il3_0, it3_1, il3_1, it3_2, il3_2, it4_0, il4_0, it4_1, il4_1, it4_2, il4_2, it4_3, il4_3, it5_0, il5_0, it5_1, il5_1, it5_2, il5_2, it5_3, il5_3, it5_4, il5_4, un2, bt2, un3, bt3, un4, bt4, un5, bt5, bt1, stF, srcL, srcT, srcFL, srcFT, app_L, ext_L, add_L, add_T, src_rng1, src_rng2, srcF_rng1, srcF_rng2, bi_addI, bi_subI, bi_ltI, bi_leI, bi_gtI, bi_geI, bi_eqI, bi_neI, bi_is, bi_isnot, bi_tupL]
    · simp (disch := omega) only [decN h2, if_neg h2, e_v, e_b, e_c, e_bin, e_neg, e_not, e_and, e_or, e_ife, e_cmp, e_ch2, e_tup, e_lst, e_idx, e_sl, e_call, e_bi, e_isi, e_comp, e_bm, e_fld, e_rev, e_new, e_meth, e_box, e_isx, es_nil, es_cons, ec_nil, ec_cons, bind_ok, on_ok, then_nx, then_rt, then_exc, bind_exc, on_exc, up_some, tst_bl, mapMu_ok, calm_ok, lkOf_nil, lock_no, unlock_no, s_asg, s_asgO, s_unp, s_par, s_app, s_ext, s_seti, s_setf, s_raise, s_try, s_expr, s_ret, s_ife, s_for, s_whl, s_fz, s_pass, ss_nil, ss_cons, slot_0, slot_s, plc_b, chg_sl, rdV_val, rdB_val, rdB_own, endR_rt, endR_nx, endR_exc, List.map_cons, List.map_nil, List.cons_append, List.nil_append, List.replicate, List.set_cons_zero, List.set_cons_succ, look_nil, Bool.not_true, Bool.not_false, if_true, if_false, Bool.false_eq_true, reduceIte, List.length_cons, List.length_nil, Nat.reduceAdd, Nat.reduceSub, wipeE, List.foldl_cons, List.foldl_nil, Option.map_some, bi_mulA, bi_mulB, bi_fdv, bi_modI, bi_dvm, bi_rlen, kd_ix, bi_sumT, bi_mx2, bi_mn2, bi_intB, bi_lstT, bi_lstL, bi_sumI, is_nI, is_nN, isn_I, isn_N, eq_IN, eq_NI, eq_NN, ne_IN, ne_NI, ne_NN, eq_BB, ne_BB, neg_I, is_L, ow_L, it1_0, il1_0, it2_0, il2_0, it2_1, il2_1, it3_0, il3_0, it3_1, il3_1, it3_2, il3_2, it4_0, il4_0, it4_1, il4_1, it4_2, il4_2, it4_3, il4_3, it5_0, il5_0, it5_1, il5_1, it5_2, il5_2, it5_3, il5_3, it5_4, il5_4, un2, bt2, un3, bt3, un4, bt4, un5, bt5, bt1, stF, srcL, srcT, srcFL, srcFT, app_L, ext_L, add_L, add_T, src_rng1, src_rng2, srcF_rng1, srcF_rng2, bi_addI, bi_subI, bi_ltI, bi_leI, bi_gtI, bi_geI, bi_eqI, bi_neI, bi_is, bi_isnot, bi_tupL]
      cases a.t with
      | none => simp only [encO, capO, e_v, e_b, e_c, e_bin, e_neg, e_not, e_and, e_or, e_ife, e_cmp, e_ch2, e_tup, e_lst, e_idx, e_sl, e_call, e_bi, e_isi, e_comp, e_bm, e_fld, e_rev, e_new, e_meth, e_box, e_isx, es_nil, es_cons, ec_nil, ec_cons, bind_ok, on_ok, then_nx, then_rt, then_exc, bind_exc, on_exc, up_some, tst_bl, mapMu_ok, calm_ok, lkOf_nil, lock_no, unlock_no, s_asg, s_asgO, s_unp, s_par, s_app, s_ext, s_seti, s_setf, s_raise, s_try, s_expr, s_ret, s_ife, s_for, s_whl, s_fz, s_pass, ss_nil, ss_cons, slot_0, slot_s, plc_b, chg_sl, rdV_val, rdB_val, rdB_own, endR_rt, endR_nx, endR_exc, List.map_cons, List.map_nil, List.cons_append, List.nil_append, List.replicate, List.set_cons_zero, List.set_cons_succ, look_nil, Bool.not_true, Bool.not_false, if_true, if_false, Bool.false_eq_true, reduceIte, List.length_cons, List.length_nil, Nat.reduceAdd, Nat.reduceSub, wipeE, List.foldl_cons, List.foldl_nil, Option.map_some, bi_mulA, bi_mulB, bi_fdv, bi_modI, bi_dvm, bi_rlen, kd_ix, bi_sumT, bi_mx2, bi_mn2, bi_intB, bi_lstT, bi_lstL, bi_sumI, is_nI, is_nN, isn_I, isn_N, eq_IN, eq_NI, eq_NN, ne_IN, ne_NI, ne_NN, eq_BB, ne_BB, neg_I, is_L, ow_L, it1_0, il1_0, it2_0, il2_0, it2_1, il2_1, it3_0, il3_0, it3_1, il3_1, it3_2, il3_2, it4_0, il4_0, it4_1, il4_1, it4_2, il4_2, it4_3, il4_3, it5_0, il5_0, it5_1, il5_1, it5_2, il5_2, it5_3, il5_3, it5_4, il5_4, un2, bt2, un3, bt3, un4, bt4, un5, bt5, bt1, stF, srcL, srcT, srcFL, srcFT, app_L, ext_L, add_L, add_T, src_rng1, src_rng2, srcF_rng1, srcF_rng2, bi_addI, bi_subI, bi_ltI, bi_leI, bi_gtI, bi_geI, bi_eqI, bi_neI, bi_is, bi_isnot, bi_tupL]
      | some i => simp only [encO, capO, e_v, e_b, e_c, e_bin, e_neg, e_not, e_and, e_or, e_ife, e_cmp, e_ch2, e_tup, e_lst, e_idx, e_sl, e_call, e_bi, e_isi, e_comp, e_bm, e_fld, e_rev, e_new, e_meth, e_box, e_isx, es_nil, es_cons, ec_nil, ec_cons, bind_ok, on_ok, then_nx, then_rt, then_exc, bind_exc, on_exc, up_some, tst_bl, mapMu_ok, calm_ok, lkOf_nil, lock_no, unlock_no, s_asg, s_asgO, s_unp, s_par, s_app, s_ext, s_seti, s_setf, s_raise, s_try, s_expr, s_ret, s_ife, s_for, s_whl, s_fz, s_pass, ss_nil, ss_cons, slot_0, slot_s, plc_b, chg_sl, rdV_val, rdB_val, rdB_own, endR_rt, endR_nx, endR_exc, List.map_cons, List.map_nil, List.cons_append, List.nil_append, List.replicate, List.set_cons_zero, List.set_cons_succ, look_nil, Bool.not_true, Bool.not_false, if_true, if_false, Bool.false_eq_true, reduceIte, List.length_cons, List.length_nil, Nat.reduceAdd, Nat.reduceSub, wipeE, List.foldl_cons, List.foldl_nil, Option.map_some, bi_mulA, bi_mulB, bi_fdv, bi_modI, bi_dvm, bi_rlen, kd_ix, bi_sumT, bi_mx2, bi_mn2, bi_intB, bi_lstT, bi_lstL, bi_sumI, is_nI, is_nN, isn_I, isn_N, eq_IN, eq_NI, eq_NN, ne_IN, ne_NI, ne_NN, eq_BB, ne_BB, neg_I, is_L, ow_L, it1_0, il1_0, it2_0, il2_0, it2_1, il2_1, it3_0, il3_0, it3_1, il3_1, it3_2, il3_2, it4_0, il4_0, it4_1, il4_1, it4_2, il4_2, it4_3, il4_3, it5_0, il5_0, it5_1, il5_1, it5_2, il5_2, it5_3, il5_3, it5_4, il5_4, un2, bt2, un3, bt3, un4, bt4, un5, bt5, bt1, stF, srcL, srcT, srcFL, srcFT, app_L, ext_L, add_L, add_T, src_rng1, src_rng2, srcF_rng1, srcF_rng2, bi_addI, bi_subI, bi_ltI, bi_leI, bi_gtI, bi_geI, bi_eqI, bi_neI, bi_is, bi_isnot, bi_tupL]
theorem r_price {a : Tar} (g : GT a) (n : Nat) {mi : Int} (h0 : 0 ≤ mi) (h1 : mi ≤ 1000000000) : Phi T (n + 3) "price_of" [encT a, .int mi] [] = .ok (.int (price a mi)) [] := by
  rw [phi_run (show T "price_of" = some fd_price_of from rfl) rfl rfl]
  have d := fun x => r_day g x n
  simp (disch := omega) only [fd_price_of, d, e_v, e_b, e_c, e_bin, e_neg, e_not, e_and, e_or, e_ife, e_cmp, e_ch2, e_tup, e_lst, e_idx, e_sl, e_call, e_bi, e_isi, e_comp, e_bm, e_fld, e_rev, e_new, e_meth, e_box, e_isx, es_nil, es_cons, ec_nil, ec_cons, bind_ok, on_ok, then_nx, then_rt, then_exc, bind_exc, on_exc, up_some, tst_bl, mapMu_ok, calm_ok, lkOf_nil, lock_no, unlock_no, s_asg, s_asgO, s_unp, s_par, s_app, s_ext, s_seti, s_setf, s_raise, s_try, s_expr, s_ret, s_ife, s_for, s_whl, s_fz, s_pass, ss_nil, ss_cons, slot_0, slot_s, plc_b, chg_sl, rdV_val, rdB_val, rdB_own, endR_rt, endR_nx, endR_exc, List.map_cons, List.map_nil, List.cons_append, List.nil_append, List.replicate, List.set_cons_zero, List.set_cons_succ, look_nil, Bool.not_true, Bool.not_false, if_true, if_false, Bool.false_eq_true, reduceIte, List.length_cons, List.length_nil, Nat.reduceAdd, Nat.reduceSub, wipeE, List.foldl_cons, List.foldl_nil, Option.map_some, bi_mulA, bi_mulB, bi_fdv, bi_modI, bi_dvm, bi_rlen, kd_ix, bi_sumT, bi_mx2, bi_mn2, bi_intB, bi_lstT, bi_lstL, bi_sumI, is_nI, is_nN, isn_I, isn_N, eq_IN, eq_NI, eq_NN, ne_IN, ne_NI, ne_NN, eq_BB, ne_BB, neg_I, is_L, ow_L, it1_0, il1_0, it2_0, il2_0, it2_1, il2_1, it3_0, il3_0, it3_1, il3_1, it3_2, il3_2, it4_0, il4_0, it4_1, il4_1, it4_2, il4_2, it4_3, il4_3, it5_0, il5_0, it5_1, il5_1, it5_2, il5_2, it5_3, il5_3, it5_4, il5_4, un2, bt2, un3, bt3, un4, bt4, un5, bt5, bt1, stF, srcL, srcT, srcFL, srcFT, app_L, ext_L, add_L, add_T, src_rng1, src_rng2, srcF_rng1, srcF_rng2, bi_addI, bi_subI, bi_ltI, bi_leI, bi_gtI, bi_geI, bi_eqI, bi_neI, bi_is, bi_isnot, bi_tupL, price]
theorem phi_ini {T : String → Option Fd} {k : Nat} {f : String} {fd : Fd} {ds : List D} {m : Mu} (h : T f = some fd) (hi : fd.ini = true) (hl : ds.length + 1 = fd.np) : Phi T (k + 2) f ds m = (iniF (Phi T k) (.no :: (ds.map .val ++ List.replicate (fd.ns - 1 - ds.length) .no)) (fldsOf fd.bd) [] m).bind fun fs m => .ok (.ins f fs) m := by
  show (match T f with
    | some fd => if fd.ini = true then runFd (Phi T k) f fd ds m else runFd (Phi T (k + 1)) f fd ds m
    | none => .bad) = _
  rw [h]
  show (if fd.ini = true then runFd (Phi T k) f fd ds m else runFd (Phi T (k + 1)) f fd ds m) = _
  rw [if_pos hi]
  unfold runFd
  rw [if_pos hi, if_pos hl]
  rfl
theorem bx_l {m : Mu} {xs : List D} : boxR (.lst xs) m = .ok (.box m.length) (m ++ [(false, .lst xs)]) := rfl
theorem bx_i {m : Mu} {c : String} {fs : List (String × D)} : boxR (.ins c fs) m = .ok (.box m.length) (m ++ [(false, .ins c fs)]) := rfl
theorem mxI_mem : ∀ {ns : List Int}, ns ≠ [] → mxI ns ∈ ns ∧ ∀ n ∈ ns, n ≤ mxI ns
  | [], h => absurd rfl h
  | [x], _ => ⟨List.mem_cons_self, fun n hn => by obtain rfl := List.mem_singleton.mp hn; exact Int.le_refl _⟩
  | x :: y :: r, _ => by
    obtain ⟨h1, h2⟩ := mxI_mem (ns := y :: r) (by simp)
    show max x (mxI (y :: r)) ∈ _ ∧ ∀ n ∈ _, n ≤ max x (mxI (y :: r))
    by_cases h : x ≤ mxI (y :: r)
    · rw [Int.max_eq_right h]
      refine ⟨List.mem_cons_of_mem _ h1, fun n hn => ?_⟩
      rcases List.mem_cons.mp hn with rfl | hn
      · omega
      · exact h2 n hn
    · rw [Int.max_eq_left (by omega)]
      refine ⟨List.mem_cons_self, fun n hn => ?_⟩
      rcases List.mem_cons.mp hn with rfl | hn
      · exact Int.le_refl _
      · have := h2 n hn; omega
theorem mx_ints {ns : List Int} (h : ns ≠ []) : biD .mx1 [.lst (ns.map .int)] = some (.int (mxI ns)) := by
  show (asInts _).bind _ = _
  rw [asInts_map, Option.bind_some, if_neg h]
def ixP (sp : List Int) (x : Int) : Int := (sp.findIdx fun z => z == x : Nat)
theorem ix_map : ∀ (sp : List Int) (x : Int), x ∈ sp → (sp.map PyData.int).findIdx? (fun z => PyData.eqv z (.int x)) = some (sp.findIdx fun z => z == x)
  | [], x, h => by cases h
  | y :: sp, x, h => by
    have e : PyData.eqv (.int y) (.int x) = (y == x) := by simp [PyData.eqv]
    rw [List.map_cons, List.findIdx?_cons, e, List.findIdx_cons]
    cases hy : y == x with
    | true => rfl
    | false =>
      have hx : x ∈ sp := by
        rcases List.mem_cons.mp h with rfl | h
        · rw [beq_self_eq_true] at hy; cases hy
        · exact h
      simp only [Bool.false_eq_true, if_false]
      rw [ix_map sp x hx]
      rfl
theorem ix_ints {sp : List Int} {x : Int} (h : x ∈ sp) : biD .index [.lst (sp.map .int), .int x] = some (.int (ixP sp x)) := by
  simp only [biD]
  rw [toP, Option.bind_some, toPs_ints 58, Option.bind_some, ix_map sp x h]
  rfl
def bestP (sp : List Int) : D := if 0 < mxI sp then .int (ixP sp (mxI sp)) else .non

/-! ### houses -/
structure Car where
  c : Int
  f : Int
  p : Int
  q : Int
  nm : D
def insC (c : Car) : D := .ins "Car" [("came", .int c.c), ("floor", .int c.f), ("paid", .int c.p), ("quiet", .int c.q), ("name", c.nm)]
abbrev Cars := List (Int × Car)
def dC (cs : Cars) : D := .dic (cs.map fun p => (.inl p.1, insC p.2))
structure Row where
  mo : Int
  w : Str
  t : Int
  x : Int
  deriving DecidableEq
def encR (r : Row) : D := .tup [.int r.mo, .str r.w, .int r.t, .int r.x]
structure Stt where
  la : Int
  cs : Cars
  nms : List (Key × D)
  sh : Bool
  rows : List Row
def insS (s : Stt) : D := .ins "State" [("last", .int s.la), ("cars", dC s.cs), ("names", .dic s.nms), ("stands", .bl s.sh), ("rows", .tup (s.rows.map encR))]
def encG (g : Str × Stt) : D := .tup [.str g.1, insS g.2]
structure Hs where
  fl : List Int
  tf : Tar
  gr : Int
  ag : Int
  s : Stt
  gone : List (Str × Stt)
  coming : List (Str × Stt)
def insH (h : Hs) : D := .ins "House" [("floors", .tup (h.fl.map .int)), ("tariff", encT h.tf), ("grace", .int h.gr), ("again", .int h.ag), ("here", insS h.s), ("gone", .lst (h.gone.map encG)), ("coming", .lst (h.coming.map encG))]
section
variable {m : Mu} {b : Nat} {h : Hs} {s : Stt} {c : Car} {cs : Cars}
theorem lk_C : look m (insC c) = insC c := rfl
theorem lk_S : look m (insS s) = insS s := rfl
theorem lk_D : look m (dC cs) = dC cs := rfl
theorem lk_H : look m (insH h) = insH h := rfl
theorem lk_T {a : Tar} : look m (encT a) = encT a := rfl
theorem lk_R {a : Row} : look m (encR a) = encR a := rfl
theorem fc_c : fldD "came" (insC c) = some (.int c.c) := rfl
theorem fc_f : fldD "floor" (insC c) = some (.int c.f) := rfl
theorem fc_p : fldD "paid" (insC c) = some (.int c.p) := rfl
theorem fc_q : fldD "quiet" (insC c) = some (.int c.q) := rfl
theorem fc_n : fldD "name" (insC c) = some c.nm := rfl
theorem fs_la : fldD "last" (insS s) = some (.int s.la) := rfl
theorem fs_cs : fldD "cars" (insS s) = some (dC s.cs) := rfl
theorem fs_nm : fldD "names" (insS s) = some (.dic s.nms) := rfl
theorem fs_sh : fldD "stands" (insS s) = some (.bl s.sh) := rfl
theorem fs_ro : fldD "rows" (insS s) = some (.tup (s.rows.map encR)) := rfl
theorem fh_fl : fldD "floors" (insH h) = some (.tup (h.fl.map .int)) := rfl
theorem fh_tf : fldD "tariff" (insH h) = some (encT h.tf) := rfl
theorem fh_gr : fldD "grace" (insH h) = some (.int h.gr) := rfl
theorem fh_ag : fldD "again" (insH h) = some (.int h.ag) := rfl
theorem fh_he : fldD "here" (insH h) = some (insS h.s) := rfl
theorem fh_go : fldD "gone" (insH h) = some (.lst (h.gone.map encG)) := rfl
theorem fh_co : fldD "coming" (insH h) = some (.lst (h.coming.map encG)) := rfl
theorem sh_go {g : List (Str × Stt)} : setfD "gone" (.lst (g.map encG)) (insH h) = some (insH { h with gone := g }) := rfl
theorem sh_co {g : List (Str × Stt)} : setfD "coming" (.lst (g.map encG)) (insH h) = some (insH { h with coming := g }) := rfl
theorem sh_he : setfD "here" (insS s) (insH h) = some (insH { h with s := s }) := rfl
theorem mh_need_time : metD "need_time" ["House"] (insH h) = some "House.need_time" := rfl
theorem mh_need_car : metD "need_car" ["House"] (insH h) = some "House.need_car" := rfl
theorem mh_tickets_given : metD "tickets_given" ["House"] (insH h) = some "House.tickets_given" := rfl
theorem mh_enter : metD "enter" ["House"] (insH h) = some "House.enter" := rfl
theorem mh_come : metD "come" ["House"] (insH h) = some "House.come" := rfl
theorem mh_come_by : metD "come_by" ["House"] (insH h) = some "House.come_by" := rfl
theorem mh_is_in : metD "is_in" ["House"] (insH h) = some "House.is_in" := rfl
theorem mh_counted : metD "counted" ["House"] (insH h) = some "House.counted" := rfl
theorem mh_due : metD "due" ["House"] (insH h) = some "House.due" := rfl
theorem mh_pay : metD "pay" ["House"] (insH h) = some "House.pay" := rfl
theorem mh_shift : metD "shift" ["House"] (insH h) = some "House.shift" := rfl
theorem mh_leave : metD "leave" ["House"] (insH h) = some "House.leave" := rfl
theorem mh_with_names : metD "with_names" ["House"] (insH h) = some "House.with_names" := rfl
theorem mh_give_card : metD "give_card" ["House"] (insH h) = some "House.give_card" := rfl
theorem mh_take_card : metD "take_card" ["House"] (insH h) = some "House.take_card" := rfl
theorem mh_cards : metD "cards" ["House"] (insH h) = some "House.cards" := rfl
theorem mh_inside : metD "inside" ["House"] (insH h) = some "House.inside" := rfl
theorem mh_free : metD "free" ["House"] (insH h) = some "House.free" := rfl
theorem mh_is_shut : metD "is_shut" ["House"] (insH h) = some "House.is_shut" := rfl
theorem mh_book : metD "book" ["House"] (insH h) = some "House.book" := rfl
theorem mh_clock : metD "clock" ["House"] (insH h) = some "House.clock" := rfl
theorem mh_back : metD "back" ["House"] (insH h) = some "House.back" := rfl
theorem mh_forth : metD "forth" ["House"] (insH h) = some "House.forth" := rfl
theorem mh_counts : metD "counts" ["House"] (insH h) = some "House.counts" := rfl
theorem mh_twin : metD "twin" ["House"] (insH h) = some "House.twin" := rfl
theorem mh_free_by : metD "free_by" ["House"] (insH h) = some "House.free_by" := rfl
theorem mh_moved : metD "moved" ["House"] (insH h) = some "House.moved" := rfl
theorem mh_turn_to : metD "turn_to" ["House"] (insH h) = some "House.turn_to" := rfl
end
theorem set_set {α : Type} {l : List α} {n : Nat} {x y : α} : (l.set n x).set n y = l.set n y := by simp
theorem get_set {l : Mu} {n : Nat} {x y : Bool × D} (h : l[n]? = some x) : (l.set n y)[n]? = some y := by
  rw [List.getElem?_set_self (List.getElem?_eq_some_iff.mp h).1]
/-! ### dicts of cars -/
def getC (cs : Cars) (t : Int) : Option Car := (cs.find? fun p => decide (p.1 = t)).map (·.2)
def setC (cs : Cars) (t : Int) (c : Car) : Cars := if (cs.any fun p => decide (p.1 = t)) = true then cs.map (fun p => if p.1 = t then (p.1, c) else p) else cs ++ [(t, c)]
theorem look_dC {cs : Cars} {t : Int} : lookK (cs.map fun p => ((.inl p.1 : Key), insC p.2)) (.inl t) = (getC cs t).map insC := by
  unfold lookK getC
  induction cs with
  | nil => rfl
  | cons p cs ih =>
    rw [List.map_cons, List.find?_cons, List.find?_cons]
    by_cases e : p.1 = t
    · simp [e]
    · have e2 : ¬ ((.inl p.1 : Key) = .inl t) := fun z => e (Sum.inl.inj z)
      simp only [e, e2, decide_false]
      exact ih
theorem idx_dC {cs : Cars} {t : Int} {c : Car} (h : getC cs t = some c) : idxD (dC cs) (.int t) = some (insC c) := by
  show lookK _ (.inl t) = _
  rw [look_dC, h]
  rfl
theorem notin_dC {cs : Cars} {t : Int} : cmpD .notin (.int t) (dC cs) = some (.bl (getC cs t).isNone) := by
  show (Option.map (fun r => D.bl (!r)) (some (lookK _ (.inl t)).isSome)) = _
  rw [look_dC]
  cases getC cs t <;> rfl
theorem in_dC {cs : Cars} {t : Int} : cmpD .isin (.int t) (dC cs) = some (.bl (getC cs t).isSome) := by
  show (Option.map (fun r => D.bl r) (some (lookK _ (.inl t)).isSome)) = _
  rw [look_dC]
  cases getC cs t <;> rfl
theorem set_dC {cs : Cars} {t : Int} {c : Car} (hl : cs.length < 1000000) : setiD (.int t) (insC c) (dC cs) = some (dC (setC cs t c)) := by
  show (if (cs.map _).length < 1000000 then some (D.dic (setK _ (.inl t) (insC c))) else none) = _
  rw [if_pos (by rw [List.length_map]; exact hl)]
  unfold dC
  congr 2
  unfold setK setC
  have e : ((cs.map fun p => ((.inl p.1 : Key), insC p.2)).any fun kv => decide (kv.1 = .inl t)) = cs.any fun p => decide (p.1 = t) := by
    rw [List.any_map]
    congr 1
    funext p
    simp
  rw [e]
  split
  · rw [List.map_map, List.map_map]
    apply List.map_congr_left
    intro p _
    show (if (.inl p.1 : Key) = .inl t then _ else _) = _
    by_cases e : p.1 = t
    · simp [e]
    · have e2 : ¬ ((.inl p.1 : Key) = .inl t) := fun z => e (Sum.inl.inj z)
      simp [e, e2]
  · simp
theorem src_dC {cs : Cars} {m : Mu} : srcM .it [dC cs] m = some (cs.map fun p => .int p.1) := by
  show srcC .it [dC cs] = _
  unfold dC
  simp only [srcC, srcD, Option.bind_some, List.map_map]
  rw [if_neg (fun h => by cases h.1)]
  rfl
theorem getC_mem {cs : Cars} (hp : cs.Pairwise fun a b => a.1 < b.1) {p : Int × Car} (h : p ∈ cs) : getC cs p.1 = some p.2 := by
  unfold getC
  induction cs with
  | nil => cases h
  | cons q cs ih =>
    rw [List.find?_cons]
    rcases List.mem_cons.mp h with rfl | h
    · simp
    · have := (List.pairwise_cons.mp hp).1 p h
      rw [decide_eq_false (by omega)]
      exact ih (List.pairwise_cons.mp hp).2 h
theorem getC_in {cs : Cars} {t : Int} {c : Car} (h : getC cs t = some c) : (t, c) ∈ cs := by
  unfold getC at h
  obtain ⟨p, h1, rfl⟩ := Option.map_eq_some_iff.mp h
  have h2 := List.find?_some h1
  have h3 := List.mem_of_find?_eq_some h1
  simp at h2
  subst h2
  exact h3
/-! ### free places -/
def freeP (fl : List Int) (cs : Cars) : List Int := fl.zipIdx.map fun p => p.1 - ((cs.map fun q => q.2.f).countP (· == (p.2 : Int)) : Nat)
def shutP (was : Bool) (sp : List Int) (ag : Int) : Bool := (sp.sum == 0) || (was && decide (sp.sum < ag))
theorem cnt_map : ∀ (l : List Int) (x : Int), (l.map PyData.int).countP (fun z => PyData.eqv z (.int x)) = l.countP (· == x)
  | [], x => rfl
  | y :: l, x => by
    have e : PyData.eqv (.int y) (.int x) = (y == x) := by simp [PyData.eqv]
    rw [List.map_cons, List.countP_cons, List.countP_cons, cnt_map l x, e]
theorem cnt_ints {l : List Int} {x : Int} : biD .count [.lst (l.map .int), .int x] = some (.int (l.countP (· == x) : Nat)) := by
  simp only [biD]
  rw [toP, Option.bind_some, toPs_ints 58, Option.map_some, cnt_map]
theorem kd_ct {xs : List D} : kdOk .count (.lst xs) = true := rfl
theorem src_enT {l : List Int} {m : Mu} : srcM .enum [.tup (l.map .int)] m = some (l.zipIdx.map fun p => .tup [.int p.2, .int p.1]) := by
  show srcC .enum _ = _
  simp only [srcC, srcD, Option.bind_some]
  rw [if_neg (fun h => by cases h.1), List.mapIdx_eq_zipIdx_map, List.zipIdx_map, List.map_map]
  rfl
theorem lkOf_t {xs : List D} {m : Mu} : lkOf [.tup xs] m = none := rfl
theorem lkOf_l {xs : List D} {m : Mu} : lkOf [.lst xs] m = none := rfl
theorem lkOf_d {cs : Cars} {m : Mu} : lkOf [dC cs] m = none := rfl
section
variable {m : Mu} {b : Nat} {h : Hs}
theorem r_freeBy (hm : m[b]? = some (false, insH h)) {cs : Cars} (hp : cs.Pairwise fun a b => a.1 < b.1) (n : Nat) : Phi T (n + 1) "House.free_by" [.box b, dC cs] m = .ok (.lst ((freeP h.fl cs).map .int)) m := by
  rw [phi_run (show T "House.free_by" = some fd_House_free_by from rfl) rfl rfl]
  have e1 : ∀ s4 s5 : Sl, ev (Phi T n) (.comp (.fld (.idx (.v 1) (.v 3)) "floor") (.one 3) .it [(.v 1)] [] [3]) [.val (.box b), .val (dC cs), .no, .no, s4, s5] m = .ok (.lst ((cs.map fun q => q.2.f).map .int)) m := fun s4 s5 => by
    refine comp_srcM (ds := [dC cs]) (by simp only [e_v, e_b, e_c, e_bin, e_neg, e_not, e_and, e_or, e_ife, e_cmp, e_ch2, e_tup, e_lst, e_idx, e_sl, e_call, e_bi, e_isi, e_bm, e_fld, e_rev, e_new, e_meth, e_box, e_isx, es_nil, es_cons, ec_nil, ec_cons, bind_ok, on_ok, then_nx, then_rt, then_exc, bind_exc, on_exc, up_some, tst_bl, mapMu_ok, calm_ok, lkOf_nil, lock_no, unlock_no, s_asg, s_asgO, s_unp, s_par, s_app, s_ext, s_seti, s_setf, s_raise, s_try, s_expr, s_ret, s_ife, s_for, s_whl, s_fz, s_pass, ss_nil, ss_cons, slot_0, slot_s, plc_b, chg_sl, rdV_val, rdB_val, rdB_own, endR_rt, endR_nx, endR_exc, List.map_cons, List.map_nil, List.cons_append, List.nil_append, List.replicate, List.set_cons_zero, List.set_cons_succ, look_nil, Bool.not_true, Bool.not_false, if_true, if_false, Bool.false_eq_true, reduceIte, List.length_cons, List.length_nil, Nat.reduceAdd, Nat.reduceSub, wipeE, List.foldl_cons, List.foldl_nil, Option.map_some, bi_mulA, bi_mulB, bi_fdv, bi_modI, bi_dvm, bi_rlen, kd_ix, bi_sumT, bi_mx2, bi_mn2, bi_intB, bi_lstT, bi_lstL, bi_sumI, is_nI, is_nN, isn_I, isn_N, eq_IN, eq_NI, eq_NN, ne_IN, ne_NI, ne_NN, eq_BB, ne_BB, neg_I, is_L, ow_L, it1_0, il1_0, it2_0, il2_0, it2_1, il2_1, it3_0, il3_0, it3_1, il3_1, it3_2, il3_2, it4_0, il4_0, it4_1, il4_1, it4_2, il4_2, it4_3, il4_3, it5_0, il5_0, it5_1, il5_1, it5_2, il5_2, it5_3, il5_3, it5_4, il5_4, un2, bt2, un3, bt3, un4, bt4, un5, bt5, bt1, stF, srcL, srcT, srcFL, srcFT, app_L, ext_L, add_L, add_T, bi_addI, bi_subI, bi_ltI, bi_leI, bi_gtI, bi_geI, bi_eqI, bi_neI, bi_is, bi_isnot, bi_tupL]) lkOf_d src_dC ?_
    rw [List.map_map]
    refine loopC_map (enc := fun p : Int × Car => D.int p.1) fun p hpm => ?_
    have ix := idx_dC (getC_mem hp hpm)
    simp only [turnC, ix, fc_f, lk_i, lk_l, lk_t, lk_b, lk_n, lk_s, lk_C, lk_S, lk_D, lk_H, lk_T, lk_R, plc_f, plc_i, chg_bx, chgS_val, e_v, e_b, e_c, e_bin, e_neg, e_not, e_and, e_or, e_ife, e_cmp, e_ch2, e_tup, e_lst, e_idx, e_sl, e_call, e_bi, e_isi, e_bm, e_fld, e_rev, e_new, e_meth, e_box, e_isx, es_nil, es_cons, ec_nil, ec_cons, bind_ok, on_ok, then_nx, then_rt, then_exc, bind_exc, on_exc, up_some, tst_bl, mapMu_ok, calm_ok, lkOf_nil, lock_no, unlock_no, s_asg, s_asgO, s_unp, s_par, s_app, s_ext, s_seti, s_setf, s_raise, s_try, s_expr, s_ret, s_ife, s_for, s_whl, s_fz, s_pass, ss_nil, ss_cons, slot_0, slot_s, plc_b, chg_sl, rdV_val, rdB_val, rdB_own, endR_rt, endR_nx, endR_exc, List.map_cons, List.map_nil, List.cons_append, List.nil_append, List.replicate, List.set_cons_zero, List.set_cons_succ, look_nil, Bool.not_true, Bool.not_false, if_true, if_false, Bool.false_eq_true, reduceIte, List.length_cons, List.length_nil, Nat.reduceAdd, Nat.reduceSub, wipeE, List.foldl_cons, List.foldl_nil, Option.map_some, bi_mulA, bi_mulB, bi_fdv, bi_modI, bi_dvm, bi_rlen, kd_ix, bi_sumT, bi_mx2, bi_mn2, bi_intB, bi_lstT, bi_lstL, bi_sumI, is_nI, is_nN, isn_I, isn_N, eq_IN, eq_NI, eq_NN, ne_IN, ne_NI, ne_NN, eq_BB, ne_BB, neg_I, is_L, ow_L, it1_0, il1_0, it2_0, il2_0, it2_1, il2_1, it3_0, il3_0, it3_1, il3_1, it3_2, il3_2, it4_0, il4_0, it4_1, il4_1, it4_2, il4_2, it4_3, il4_3, it5_0, il5_0, it5_1, il5_1, it5_2, il5_2, it5_3, il5_3, it5_4, il5_4, un2, bt2, un3, bt3, un4, bt4, un5, bt5, bt1, stF, srcL, srcT, srcFL, srcFT, app_L, ext_L, add_L, add_T, bi_addI, bi_subI, bi_ltI, bi_leI, bi_gtI, bi_geI, bi_eqI, bi_neI, bi_is, bi_isnot, bi_tupL]
    rfl
  have e2 : ∀ s1 s3 : Sl, ev (Phi T n) (.comp (.bin .sub (.v 5) (.bm .count (.v 2) [(.v 4)])) (.many [4, 5]) .enum [(.fld (.v 0) "floors")] [] [4, 5]) [.val (.box b), s1, .val (.lst ((cs.map fun q => q.2.f).map .int)), s3, .no, .no] m = .ok (.lst ((freeP h.fl cs).map .int)) m := fun s1 s3 => by
    refine comp_srcM (ds := [.tup (h.fl.map .int)]) (by simp only [lk_box hm, fh_fl, lk_i, lk_l, lk_t, lk_b, lk_n, lk_s, lk_C, lk_S, lk_D, lk_H, lk_T, lk_R, plc_f, plc_i, chg_bx, chgS_val, e_v, e_b, e_c, e_bin, e_neg, e_not, e_and, e_or, e_ife, e_cmp, e_ch2, e_tup, e_lst, e_idx, e_sl, e_call, e_bi, e_isi, e_bm, e_fld, e_rev, e_new, e_meth, e_box, e_isx, es_nil, es_cons, ec_nil, ec_cons, bind_ok, on_ok, then_nx, then_rt, then_exc, bind_exc, on_exc, up_some, tst_bl, mapMu_ok, calm_ok, lkOf_nil, lock_no, unlock_no, s_asg, s_asgO, s_unp, s_par, s_app, s_ext, s_seti, s_setf, s_raise, s_try, s_expr, s_ret, s_ife, s_for, s_whl, s_fz, s_pass, ss_nil, ss_cons, slot_0, slot_s, plc_b, chg_sl, rdV_val, rdB_val, rdB_own, endR_rt, endR_nx, endR_exc, List.map_cons, List.map_nil, List.cons_append, List.nil_append, List.replicate, List.set_cons_zero, List.set_cons_succ, look_nil, Bool.not_true, Bool.not_false, if_true, if_false, Bool.false_eq_true, reduceIte, List.length_cons, List.length_nil, Nat.reduceAdd, Nat.reduceSub, wipeE, List.foldl_cons, List.foldl_nil, Option.map_some, bi_mulA, bi_mulB, bi_fdv, bi_modI, bi_dvm, bi_rlen, kd_ix, bi_sumT, bi_mx2, bi_mn2, bi_intB, bi_lstT, bi_lstL, bi_sumI, is_nI, is_nN, isn_I, isn_N, eq_IN, eq_NI, eq_NN, ne_IN, ne_NI, ne_NN, eq_BB, ne_BB, neg_I, is_L, ow_L, it1_0, il1_0, it2_0, il2_0, it2_1, il2_1, it3_0, il3_0, it3_1, il3_1, it3_2, il3_2, it4_0, il4_0, it4_1, il4_1, it4_2, il4_2, it4_3, il4_3, it5_0, il5_0, it5_1, il5_1, it5_2, il5_2, it5_3, il5_3, it5_4, il5_4, un2, bt2, un3, bt3, un4, bt4, un5, bt5, bt1, stF, srcL, srcT, srcFL, srcFT, app_L, ext_L, add_L, add_T, bi_addI, bi_subI, bi_ltI, bi_leI, bi_gtI, bi_geI, bi_eqI, bi_neI, bi_is, bi_isnot, bi_tupL]) lkOf_t src_enT ?_
    have ef : (freeP h.fl cs).map D.int = h.fl.zipIdx.map fun p => D.int (p.1 - ((cs.map fun q => q.2.f).countP (· == (p.2 : Int)) : Nat)) := by
      unfold freeP
      rw [List.map_map]
      rfl
    rw [ef]
    refine loopC_map (enc := fun p : Int × Nat => D.tup [.int p.2, .int p.1]) fun p _ => ?_
    simp only [turnC, kd_ct, cnt_ints, lk_i, lk_l, lk_t, lk_b, lk_n, lk_s, lk_C, lk_S, lk_D, lk_H, lk_T, lk_R, plc_f, plc_i, chg_bx, chgS_val, e_v, e_b, e_c, e_bin, e_neg, e_not, e_and, e_or, e_ife, e_cmp, e_ch2, e_tup, e_lst, e_idx, e_sl, e_call, e_bi, e_isi, e_bm, e_fld, e_rev, e_new, e_meth, e_box, e_isx, es_nil, es_cons, ec_nil, ec_cons, bind_ok, on_ok, then_nx, then_rt, then_exc, bind_exc, on_exc, up_some, tst_bl, mapMu_ok, calm_ok, lkOf_nil, lock_no, unlock_no, s_asg, s_asgO, s_unp, s_par, s_app, s_ext, s_seti, s_setf, s_raise, s_try, s_expr, s_ret, s_ife, s_for, s_whl, s_fz, s_pass, ss_nil, ss_cons, slot_0, slot_s, plc_b, chg_sl, rdV_val, rdB_val, rdB_own, endR_rt, endR_nx, endR_exc, List.map_cons, List.map_nil, List.cons_append, List.nil_append, List.replicate, List.set_cons_zero, List.set_cons_succ, look_nil, Bool.not_true, Bool.not_false, if_true, if_false, Bool.false_eq_true, reduceIte, List.length_cons, List.length_nil, Nat.reduceAdd, Nat.reduceSub, wipeE, List.foldl_cons, List.foldl_nil, Option.map_some, bi_mulA, bi_mulB, bi_fdv, bi_modI, bi_dvm, bi_rlen, kd_ix, bi_sumT, bi_mx2, bi_mn2, bi_intB, bi_lstT, bi_lstL, bi_sumI, is_nI, is_nN, isn_I, isn_N, eq_IN, eq_NI, eq_NN, ne_IN, ne_NI, ne_NN, eq_BB, ne_BB, neg_I, is_L, ow_L, it1_0, il1_0, it2_0, il2_0, it2_1, il2_1, it3_0, il3_0, it3_1, il3_1, it3_2, il3_2, it4_0, il4_0, it4_1, il4_1, it4_2, il4_2, it4_3, il4_3, it5_0, il5_0, it5_1, il5_1, it5_2, il5_2, it5_3, il5_3, it5_4, il5_4, un2, bt2, un3, bt3, un4, bt4, un5, bt5, bt1, stF, srcL, srcT, srcFL, srcFT, app_L, ext_L, add_L, add_T, bi_addI, bi_subI, bi_ltI, bi_leI, bi_gtI, bi_geI, bi_eqI, bi_neI, bi_is, bi_isnot, bi_tupL]
  simp only [fd_House_free_by, e1, e2, lk_i, lk_l, lk_t, lk_b, lk_n, lk_s, lk_C, lk_S, lk_D, lk_H, lk_T, lk_R, plc_f, plc_i, chg_bx, chgS_val, e_v, e_b, e_c, e_bin, e_neg, e_not, e_and, e_or, e_ife, e_cmp, e_ch2, e_tup, e_lst, e_idx, e_sl, e_call, e_bi, e_isi, e_bm, e_fld, e_rev, e_new, e_meth, e_box, e_isx, es_nil, es_cons, ec_nil, ec_cons, bind_ok, on_ok, then_nx, then_rt, then_exc, bind_exc, on_exc, up_some, tst_bl, mapMu_ok, calm_ok, lkOf_nil, lock_no, unlock_no, s_asg, s_asgO, s_unp, s_par, s_app, s_ext, s_seti, s_setf, s_raise, s_try, s_expr, s_ret, s_ife, s_for, s_whl, s_fz, s_pass, ss_nil, ss_cons, slot_0, slot_s, plc_b, chg_sl, rdV_val, rdB_val, rdB_own, endR_rt, endR_nx, endR_exc, List.map_cons, List.map_nil, List.cons_append, List.nil_append, List.replicate, List.set_cons_zero, List.set_cons_succ, look_nil, Bool.not_true, Bool.not_false, if_true, if_false, Bool.false_eq_true, reduceIte, List.length_cons, List.length_nil, Nat.reduceAdd, Nat.reduceSub, wipeE, List.foldl_cons, List.foldl_nil, Option.map_some, bi_mulA, bi_mulB, bi_fdv, bi_modI, bi_dvm, bi_rlen, kd_ix, bi_sumT, bi_mx2, bi_mn2, bi_intB, bi_lstT, bi_lstL, bi_sumI, is_nI, is_nN, isn_I, isn_N, eq_IN, eq_NI, eq_NN, ne_IN, ne_NI, ne_NN, eq_BB, ne_BB, neg_I, is_L, ow_L, it1_0, il1_0, it2_0, il2_0, it2_1, il2_1, it3_0, il3_0, it3_1, il3_1, it3_2, il3_2, it4_0, il4_0, it4_1, il4_1, it4_2, il4_2, it4_3, il4_3, it5_0, il5_0, it5_1, il5_1, it5_2, il5_2, it5_3, il5_3, it5_4, il5_4, un2, bt2, un3, bt3, un4, bt4, un5, bt5, bt1, stF, srcL, srcT, srcFL, srcFT, app_L, ext_L, add_L, add_T, bi_addI, bi_subI, bi_ltI, bi_leI, bi_gtI, bi_geI, bi_eqI, bi_neI, bi_is, bi_isnot, bi_tupL]
theorem r_shutB {l : List Int} {was : Bool} {ag : Int} (n : Nat) : Phi T (n + 1) "is_shut_behind" [.bl was, .lst (l.map .int), .int ag] m = .ok (.bl (shutP was l ag)) m := by
  rw [phi_run (show T "is_shut_behind" = some fd_is_shut_behind from rfl) rfl rfl]
  unfold shutP
  simp (disch := omega) only [fd_is_shut_behind, lk_i, lk_l, lk_t, lk_b, lk_n, lk_s, lk_C, lk_S, lk_D, lk_H, lk_T, lk_R, plc_f, plc_i, chg_bx, chgS_val, e_v, e_b, e_c, e_bin, e_neg, e_not, e_and, e_or, e_ife, e_cmp, e_ch2, e_tup, e_lst, e_idx, e_sl, e_call, e_bi, e_isi, e_bm, e_fld, e_rev, e_new, e_meth, e_box, e_isx, es_nil, es_cons, ec_nil, ec_cons, bind_ok, on_ok, then_nx, then_rt, then_exc, bind_exc, on_exc, up_some, tst_bl, mapMu_ok, calm_ok, lkOf_nil, lock_no, unlock_no, s_asg, s_asgO, s_unp, s_par, s_app, s_ext, s_seti, s_setf, s_raise, s_try, s_expr, s_ret, s_ife, s_for, s_whl, s_fz, s_pass, ss_nil, ss_cons, slot_0, slot_s, plc_b, chg_sl, rdV_val, rdB_val, rdB_own, endR_rt, endR_nx, endR_exc, List.map_cons, List.map_nil, List.cons_append, List.nil_append, List.replicate, List.set_cons_zero, List.set_cons_succ, look_nil, Bool.not_true, Bool.not_false, if_true, if_false, Bool.false_eq_true, reduceIte, List.length_cons, List.length_nil, Nat.reduceAdd, Nat.reduceSub, wipeE, List.foldl_cons, List.foldl_nil, Option.map_some, bi_mulA, bi_mulB, bi_fdv, bi_modI, bi_dvm, bi_rlen, kd_ix, bi_sumT, bi_mx2, bi_mn2, bi_intB, bi_lstT, bi_lstL, bi_sumI, is_nI, is_nN, isn_I, isn_N, eq_IN, eq_NI, eq_NN, ne_IN, ne_NI, ne_NN, eq_BB, ne_BB, neg_I, is_L, ow_L, it1_0, il1_0, it2_0, il2_0, it2_1, il2_1, it3_0, il3_0, it3_1, il3_1, it3_2, il3_2, it4_0, il4_0, it4_1, il4_1, it4_2, il4_2, it4_3, il4_3, it5_0, il5_0, it5_1, il5_1, it5_2, il5_2, it5_3, il5_3, it5_4, il5_4, un2, bt2, un3, bt3, un4, bt4, un5, bt5, bt1, stF, srcL, srcT, srcFL, srcFT, app_L, ext_L, add_L, add_T, bi_addI, bi_subI, bi_ltI, bi_leI, bi_gtI, bi_geI, bi_eqI, bi_neI, bi_is, bi_isnot, bi_tupL]
  cases l.sum == 0
  · cases was
    · simp only [Bool.false_or, Bool.false_and, e_v, e_b, e_c, e_bin, e_neg, e_not, e_and, e_or, e_ife, e_cmp, e_ch2, e_tup, e_lst, e_idx, e_sl, e_call, e_bi, e_isi, e_bm, e_fld, e_rev, e_new, e_meth, e_box, e_isx, es_nil, es_cons, ec_nil, ec_cons, bind_ok, on_ok, then_nx, then_rt, then_exc, bind_exc, on_exc, up_some, tst_bl, mapMu_ok, calm_ok, lkOf_nil, lock_no, unlock_no, s_asg, s_asgO, s_unp, s_par, s_app, s_ext, s_seti, s_setf, s_raise, s_try, s_expr, s_ret, s_ife, s_for, s_whl, s_fz, s_pass, ss_nil, ss_cons, slot_0, slot_s, plc_b, chg_sl, rdV_val, rdB_val, rdB_own, endR_rt, endR_nx, endR_exc, List.map_cons, List.map_nil, List.cons_append, List.nil_append, List.replicate, List.set_cons_zero, List.set_cons_succ, look_nil, Bool.not_true, Bool.not_false, if_true, if_false, Bool.false_eq_true, reduceIte, List.length_cons, List.length_nil, Nat.reduceAdd, Nat.reduceSub, wipeE, List.foldl_cons, List.foldl_nil, Option.map_some, bi_mulA, bi_mulB, bi_fdv, bi_modI, bi_dvm, bi_rlen, kd_ix, bi_sumT, bi_mx2, bi_mn2, bi_intB, bi_lstT, bi_lstL, bi_sumI, is_nI, is_nN, isn_I, isn_N, eq_IN, eq_NI, eq_NN, ne_IN, ne_NI, ne_NN, eq_BB, ne_BB, neg_I, is_L, ow_L, it1_0, il1_0, it2_0, il2_0, it2_1, il2_1, it3_0, il3_0, it3_1, il3_1, it3_2, il3_2, it4_0, il4_0, it4_1, il4_1, it4_2, il4_2, it4_3, il4_3, it5_0, il5_0, it5_1, il5_1, it5_2, il5_2, it5_3, il5_3, it5_4, il5_4, un2, bt2, un3, bt3, un4, bt4, un5, bt5, bt1, stF, srcL, srcT, srcFL, srcFT, app_L, ext_L, add_L, add_T, bi_addI, bi_subI, bi_ltI, bi_leI, bi_gtI, bi_geI, bi_eqI, bi_neI, bi_is, bi_isnot, bi_tupL]
    · simp only [Bool.false_or, Bool.true_and, lk_i, lk_l, lk_t, lk_b, lk_n, lk_s, lk_C, lk_S, lk_D, lk_H, lk_T, lk_R, plc_f, plc_i, chg_bx, chgS_val, e_v, e_b, e_c, e_bin, e_neg, e_not, e_and, e_or, e_ife, e_cmp, e_ch2, e_tup, e_lst, e_idx, e_sl, e_call, e_bi, e_isi, e_bm, e_fld, e_rev, e_new, e_meth, e_box, e_isx, es_nil, es_cons, ec_nil, ec_cons, bind_ok, on_ok, then_nx, then_rt, then_exc, bind_exc, on_exc, up_some, tst_bl, mapMu_ok, calm_ok, lkOf_nil, lock_no, unlock_no, s_asg, s_asgO, s_unp, s_par, s_app, s_ext, s_seti, s_setf, s_raise, s_try, s_expr, s_ret, s_ife, s_for, s_whl, s_fz, s_pass, ss_nil, ss_cons, slot_0, slot_s, plc_b, chg_sl, rdV_val, rdB_val, rdB_own, endR_rt, endR_nx, endR_exc, List.map_cons, List.map_nil, List.cons_append, List.nil_append, List.replicate, List.set_cons_zero, List.set_cons_succ, look_nil, Bool.not_true, Bool.not_false, if_true, if_false, Bool.false_eq_true, reduceIte, List.length_cons, List.length_nil, Nat.reduceAdd, Nat.reduceSub, wipeE, List.foldl_cons, List.foldl_nil, Option.map_some, bi_mulA, bi_mulB, bi_fdv, bi_modI, bi_dvm, bi_rlen, kd_ix, bi_sumT, bi_mx2, bi_mn2, bi_intB, bi_lstT, bi_lstL, bi_sumI, is_nI, is_nN, isn_I, isn_N, eq_IN, eq_NI, eq_NN, ne_IN, ne_NI, ne_NN, eq_BB, ne_BB, neg_I, is_L, ow_L, it1_0, il1_0, it2_0, il2_0, it2_1, il2_1, it3_0, il3_0, it3_1, il3_1, it3_2, il3_2, it4_0, il4_0, it4_1, il4_1, it4_2, il4_2, it4_3, il4_3, it5_0, il5_0, it5_1, il5_1, it5_2, il5_2, it5_3, il5_3, it5_4, il5_4, un2, bt2, un3, bt3, un4, bt4, un5, bt5, bt1, stF, srcL, srcT, srcFL, srcFT, app_L, ext_L, add_L, add_T, bi_addI, bi_subI, bi_ltI, bi_leI, bi_gtI, bi_geI, bi_eqI, bi_neI, bi_is, bi_isnot, bi_tupL]
  · simp only [Bool.true_or, e_v, e_b, e_c, e_bin, e_neg, e_not, e_and, e_or, e_ife, e_cmp, e_ch2, e_tup, e_lst, e_idx, e_sl, e_call, e_bi, e_isi, e_bm, e_fld, e_rev, e_new, e_meth, e_box, e_isx, es_nil, es_cons, ec_nil, ec_cons, bind_ok, on_ok, then_nx, then_rt, then_exc, bind_exc, on_exc, up_some, tst_bl, mapMu_ok, calm_ok, lkOf_nil, lock_no, unlock_no, s_asg, s_asgO, s_unp, s_par, s_app, s_ext, s_seti, s_setf, s_raise, s_try, s_expr, s_ret, s_ife, s_for, s_whl, s_fz, s_pass, ss_nil, ss_cons, slot_0, slot_s, plc_b, chg_sl, rdV_val, rdB_val, rdB_own, endR_rt, endR_nx, endR_exc, List.map_cons, List.map_nil, List.cons_append, List.nil_append, List.replicate, List.set_cons_zero, List.set_cons_succ, look_nil, Bool.not_true, Bool.not_false, if_true, if_false, Bool.false_eq_true, reduceIte, List.length_cons, List.length_nil, Nat.reduceAdd, Nat.reduceSub, wipeE, List.foldl_cons, List.foldl_nil, Option.map_some, bi_mulA, bi_mulB, bi_fdv, bi_modI, bi_dvm, bi_rlen, kd_ix, bi_sumT, bi_mx2, bi_mn2, bi_intB, bi_lstT, bi_lstL, bi_sumI, is_nI, is_nN, isn_I, isn_N, eq_IN, eq_NI, eq_NN, ne_IN, ne_NI, ne_NN, eq_BB, ne_BB, neg_I, is_L, ow_L, it1_0, il1_0, it2_0, il2_0, it2_1, il2_1, it3_0, il3_0, it3_1, il3_1, it3_2, il3_2, it4_0, il4_0, it4_1, il4_1, it4_2, il4_2, it4_3, il4_3, it5_0, il5_0, it5_1, il5_1, it5_2, il5_2, it5_3, il5_3, it5_4, il5_4, un2, bt2, un3, bt3, un4, bt4, un5, bt5, bt1, stF, srcL, srcT, srcFL, srcFT, app_L, ext_L, add_L, add_T, bi_addI, bi_subI, bi_ltI, bi_leI, bi_gtI, bi_geI, bi_eqI, bi_neI, bi_is, bi_isnot, bi_tupL]
def movedP (h : Hs) (mo : Int) (cs : Cars) (r : Row) : Stt := ⟨mo, cs, h.s.nms, shutP h.s.sh (freeP h.fl cs) h.ag, h.s.rows ++ [r]⟩
theorem r_car {mo fl pd qu : Int} {nm : D} (n : Nat) : Phi T (n + 2) "Car" [.int mo, .int fl, .int pd, .int qu, nm] m = .ok (insC ⟨mo, fl, pd, qu, nm⟩) m := by
  rw [phi_ini (show T "Car" = some fd_Car from rfl) rfl rfl]
  simp only [fd_Car, fldsOf, iniF, e_v, e_b, e_c, e_bin, e_neg, e_not, e_and, e_or, e_ife, e_cmp, e_ch2, e_tup, e_lst, e_idx, e_sl, e_call, e_bi, e_isi, e_bm, e_fld, e_rev, e_new, e_meth, e_box, e_isx, es_nil, es_cons, ec_nil, ec_cons, bind_ok, on_ok, then_nx, then_rt, then_exc, bind_exc, on_exc, up_some, tst_bl, mapMu_ok, calm_ok, lkOf_nil, lock_no, unlock_no, s_asg, s_asgO, s_unp, s_par, s_app, s_ext, s_seti, s_setf, s_raise, s_try, s_expr, s_ret, s_ife, s_for, s_whl, s_fz, s_pass, ss_nil, ss_cons, slot_0, slot_s, plc_b, chg_sl, rdV_val, rdB_val, rdB_own, endR_rt, endR_nx, endR_exc, List.map_cons, List.map_nil, List.cons_append, List.nil_append, List.replicate, List.set_cons_zero, List.set_cons_succ, look_nil, Bool.not_true, Bool.not_false, if_true, if_false, Bool.false_eq_true, reduceIte, List.length_cons, List.length_nil, Nat.reduceAdd, Nat.reduceSub, wipeE, List.foldl_cons, List.foldl_nil, Option.map_some, bi_mulA, bi_mulB, bi_fdv, bi_modI, bi_dvm, bi_rlen, kd_ix, bi_sumT, bi_mx2, bi_mn2, bi_intB, bi_lstT, bi_lstL, bi_sumI, is_nI, is_nN, isn_I, isn_N, eq_IN, eq_NI, eq_NN, ne_IN, ne_NI, ne_NN, eq_BB, ne_BB, neg_I, is_L, ow_L, it1_0, il1_0, it2_0, il2_0, it2_1, il2_1, it3_0, il3_0, it3_1, il3_1, it3_2, il3_2, it4_0, il4_0, it4_1, il4_1, it4_2, il4_2, it4_3, il4_3, it5_0, il5_0, it5_1, il5_1, it5_2, il5_2, it5_3, il5_3, it5_4, il5_4, un2, bt2, un3, bt3, un4, bt4, un5, bt5, bt1, stF, srcL, srcT, srcFL, srcFT, app_L, ext_L, add_L, add_T, bi_addI, bi_subI, bi_ltI, bi_leI, bi_gtI, bi_geI, bi_eqI, bi_neI, bi_is, bi_isnot, bi_tupL]
  rfl
theorem r_state {mo : Int} {cs : Cars} {nms : List (Key × D)} {sh : Bool} {rows : List Row} (n : Nat) : Phi T (n + 2) "State" [.int mo, dC cs, .dic nms, .bl sh, .tup (rows.map encR)] m = .ok (insS ⟨mo, cs, nms, sh, rows⟩) m := by
  rw [phi_ini (show T "State" = some fd_State from rfl) rfl rfl]
  simp only [fd_State, fldsOf, iniF, e_v, e_b, e_c, e_bin, e_neg, e_not, e_and, e_or, e_ife, e_cmp, e_ch2, e_tup, e_lst, e_idx, e_sl, e_call, e_bi, e_isi, e_bm, e_fld, e_rev, e_new, e_meth, e_box, e_isx, es_nil, es_cons, ec_nil, ec_cons, bind_ok, on_ok, then_nx, then_rt, then_exc, bind_exc, on_exc, up_some, tst_bl, mapMu_ok, calm_ok, lkOf_nil, lock_no, unlock_no, s_asg, s_asgO, s_unp, s_par, s_app, s_ext, s_seti, s_setf, s_raise, s_try, s_expr, s_ret, s_ife, s_for, s_whl, s_fz, s_pass, ss_nil, ss_cons, slot_0, slot_s, plc_b, chg_sl, rdV_val, rdB_val, rdB_own, endR_rt, endR_nx, endR_exc, List.map_cons, List.map_nil, List.cons_append, List.nil_append, List.replicate, List.set_cons_zero, List.set_cons_succ, look_nil, Bool.not_true, Bool.not_false, if_true, if_false, Bool.false_eq_true, reduceIte, List.length_cons, List.length_nil, Nat.reduceAdd, Nat.reduceSub, wipeE, List.foldl_cons, List.foldl_nil, Option.map_some, bi_mulA, bi_mulB, bi_fdv, bi_modI, bi_dvm, bi_rlen, kd_ix, bi_sumT, bi_mx2, bi_mn2, bi_intB, bi_lstT, bi_lstL, bi_sumI, is_nI, is_nN, isn_I, isn_N, eq_IN, eq_NI, eq_NN, ne_IN, ne_NI, ne_NN, eq_BB, ne_BB, neg_I, is_L, ow_L, it1_0, il1_0, it2_0, il2_0, it2_1, il2_1, it3_0, il3_0, it3_1, il3_1, it3_2, il3_2, it4_0, il4_0, it4_1, il4_1, it4_2, il4_2, it4_3, il4_3, it5_0, il5_0, it5_1, il5_1, it5_2, il5_2, it5_3, il5_3, it5_4, il5_4, un2, bt2, un3, bt3, un4, bt4, un5, bt5, bt1, stF, srcL, srcT, srcFL, srcFT, app_L, ext_L, add_L, add_T, bi_addI, bi_subI, bi_ltI, bi_leI, bi_gtI, bi_geI, bi_eqI, bi_neI, bi_is, bi_isnot, bi_tupL]
  rfl
theorem r_moved (hm : m[b]? = some (false, insH h)) {cs : Cars} (hp : cs.Pairwise fun a b => a.1 < b.1) (hr : h.s.rows.length ≤ 10000) (mo : Int) (r : Row) (n : Nat) : Phi T (n + 3) "House.moved" [.box b, .int mo, dC cs, encR r] m = .ok (insS (movedP h mo cs r)) m := by
  rw [phi_run (show T "House.moved" = some fd_House_moved from rfl) rfl rfl]
  have f := r_freeBy hm hp (n + 1)
  have sb := r_shutB (m := m) (l := freeP h.fl cs) (was := h.s.sh) (ag := h.ag) (n + 1)
  have ad : binD .add (.tup (h.s.rows.map encR)) (.tup [encR r]) = some (.tup ((h.s.rows ++ [r]).map encR)) := add_mapT (enc := encR) (l := h.s.rows) (l' := [r]) (by simp only [List.length_cons, List.length_nil]; omega)
  have st := r_state (m := m) (mo := mo) (cs := cs) (nms := h.s.nms) (sh := shutP h.s.sh (freeP h.fl cs) h.ag) (rows := h.s.rows ++ [r]) n
  simp only [fd_House_moved, lk_box hm, fh_he, fs_sh, mh_free_by, f, fh_ag, sb, fs_nm, fs_ro, ad, st, lk_i, lk_l, lk_t, lk_b, lk_n, lk_s, lk_C, lk_S, lk_D, lk_H, lk_T, lk_R, plc_f, plc_i, chg_bx, chgS_val, e_v, e_b, e_c, e_bin, e_neg, e_not, e_and, e_or, e_ife, e_cmp, e_ch2, e_tup, e_lst, e_idx, e_sl, e_call, e_bi, e_isi, e_bm, e_fld, e_rev, e_new, e_meth, e_box, e_isx, es_nil, es_cons, ec_nil, ec_cons, bind_ok, on_ok, then_nx, then_rt, then_exc, bind_exc, on_exc, up_some, tst_bl, mapMu_ok, calm_ok, lkOf_nil, lock_no, unlock_no, s_asg, s_asgO, s_unp, s_par, s_app, s_ext, s_seti, s_setf, s_raise, s_try, s_expr, s_ret, s_ife, s_for, s_whl, s_fz, s_pass, ss_nil, ss_cons, slot_0, slot_s, plc_b, chg_sl, rdV_val, rdB_val, rdB_own, endR_rt, endR_nx, endR_exc, List.map_cons, List.map_nil, List.cons_append, List.nil_append, List.replicate, List.set_cons_zero, List.set_cons_succ, look_nil, Bool.not_true, Bool.not_false, if_true, if_false, Bool.false_eq_true, reduceIte, List.length_cons, List.length_nil, Nat.reduceAdd, Nat.reduceSub, wipeE, List.foldl_cons, List.foldl_nil, Option.map_some, bi_mulA, bi_mulB, bi_fdv, bi_modI, bi_dvm, bi_rlen, kd_ix, bi_sumT, bi_mx2, bi_mn2, bi_intB, bi_lstT, bi_lstL, bi_sumI, is_nI, is_nN, isn_I, isn_N, eq_IN, eq_NI, eq_NN, ne_IN, ne_NI, ne_NN, eq_BB, ne_BB, neg_I, is_L, ow_L, it1_0, il1_0, it2_0, il2_0, it2_1, il2_1, it3_0, il3_0, it3_1, il3_1, it3_2, il3_2, it4_0, il4_0, it4_1, il4_1, it4_2, il4_2, it4_3, il4_3, it5_0, il5_0, it5_1, il5_1, it5_2, il5_2, it5_3, il5_3, it5_4, il5_4, un2, bt2, un3, bt3, un4, bt4, un5, bt5, bt1, stF, srcL, srcT, srcFL, srcFT, app_L, ext_L, add_L, add_T, bi_addI, bi_subI, bi_ltI, bi_leI, bi_gtI, bi_geI, bi_eqI, bi_neI, bi_is, bi_isnot, bi_tupL]
  rfl
def turnP (h : Hs) (w : Str) (s : Stt) : Hs := { h with gone := h.gone ++ [(w, h.s)], coming := [], s := s }
theorem r_turn (hm : m[b]? = some (false, insH h)) (hg : h.gone.length ≤ 10000) (w : Str) (s : Stt) (n : Nat) : Phi T (n + 1) "House.turn_to" [.box b, .str w, insS s] m = .ok .non (m.set b (false, insH (turnP h w s))) := by
  rw [phi_run (show T "House.turn_to" = some fd_House_turn_to from rfl) rfl rfl]
  have ad : binD .add (.lst (h.gone.map encG)) (.lst [.tup [.str w, insS h.s]]) = some (.lst ((h.gone ++ [(w, h.s)]).map encG)) := add_map (enc := encG) (l := h.gone) (l' := [(w, h.s)]) (by simp only [List.length_cons, List.length_nil]; omega)
  have c1 := fun (r : Env) => chgB_to (r := r) hm (sh_go (h := h) (g := h.gone ++ [(w, h.s)]))
  have h2 := get_set (y := (false, insH { h with gone := h.gone ++ [(w, h.s)] })) hm
  have c2 := fun (r : Env) => chgB_to (r := r) h2 (show setfD "coming" (.lst []) (insH { h with gone := h.gone ++ [(w, h.s)] }) = some (insH { h with gone := h.gone ++ [(w, h.s)], coming := [] }) from sh_co (g := []))
  rw [set_set] at c2
  have h3 := get_set (y := (false, insH { h with gone := h.gone ++ [(w, h.s)], coming := [] })) hm
  have c3 := fun (r : Env) => chgB_to (r := r) h3 (sh_he (s := s))
  rw [set_set] at c3
  simp only [fd_House_turn_to, lk_box hm, fh_go, fh_he, ad, c1, c2, c3, lk_i, lk_l, lk_t, lk_b, lk_n, lk_s, lk_C, lk_S, lk_D, lk_H, lk_T, lk_R, plc_f, plc_i, chg_bx, chgS_val, e_v, e_b, e_c, e_bin, e_neg, e_not, e_and, e_or, e_ife, e_cmp, e_ch2, e_tup, e_lst, e_idx, e_sl, e_call, e_bi, e_isi, e_bm, e_fld, e_rev, e_new, e_meth, e_box, e_isx, es_nil, es_cons, ec_nil, ec_cons, bind_ok, on_ok, then_nx, then_rt, then_exc, bind_exc, on_exc, up_some, tst_bl, mapMu_ok, calm_ok, lkOf_nil, lock_no, unlock_no, s_asg, s_asgO, s_unp, s_par, s_app, s_ext, s_seti, s_setf, s_raise, s_try, s_expr, s_ret, s_ife, s_for, s_whl, s_fz, s_pass, ss_nil, ss_cons, slot_0, slot_s, plc_b, chg_sl, rdV_val, rdB_val, rdB_own, endR_rt, endR_nx, endR_exc, List.map_cons, List.map_nil, List.cons_append, List.nil_append, List.replicate, List.set_cons_zero, List.set_cons_succ, look_nil, Bool.not_true, Bool.not_false, if_true, if_false, Bool.false_eq_true, reduceIte, List.length_cons, List.length_nil, Nat.reduceAdd, Nat.reduceSub, wipeE, List.foldl_cons, List.foldl_nil, Option.map_some, bi_mulA, bi_mulB, bi_fdv, bi_modI, bi_dvm, bi_rlen, kd_ix, bi_sumT, bi_mx2, bi_mn2, bi_intB, bi_lstT, bi_lstL, bi_sumI, is_nI, is_nN, isn_I, isn_N, eq_IN, eq_NI, eq_NN, ne_IN, ne_NI, ne_NN, eq_BB, ne_BB, neg_I, is_L, ow_L, it1_0, il1_0, it2_0, il2_0, it2_1, il2_1, it3_0, il3_0, it3_1, il3_1, it3_2, il3_2, it4_0, il4_0, it4_1, il4_1, it4_2, il4_2, it4_3, il4_3, it5_0, il5_0, it5_1, il5_1, it5_2, il5_2, it5_3, il5_3, it5_4, il5_4, un2, bt2, un3, bt3, un4, bt4, un5, bt5, bt1, stF, srcL, srcT, srcFL, srcFT, app_L, ext_L, add_L, add_T, bi_addI, bi_subI, bi_ltI, bi_leI, bi_gtI, bi_geI, bi_eqI, bi_neI, bi_is, bi_isnot, bi_tupL]
  rfl
theorem r_time0 (hm : m[b]? = some (false, insH h)) {mo : Int} (ht : mo < h.s.la) (n : Nat) : Phi T (n + 1) "House.need_time" [.box b, .int mo] m = .exc "NoTime" m := by
  rw [phi_run (show T "House.need_time" = some fd_House_need_time from rfl) rfl rfl]
  simp only [fd_House_need_time, lk_box hm, fh_he, fs_la, decY ht, lk_i, lk_l, lk_t, lk_b, lk_n, lk_s, lk_C, lk_S, lk_D, lk_H, lk_T, lk_R, plc_f, plc_i, chg_bx, chgS_val, e_v, e_b, e_c, e_bin, e_neg, e_not, e_and, e_or, e_ife, e_cmp, e_ch2, e_tup, e_lst, e_idx, e_sl, e_call, e_bi, e_isi, e_bm, e_fld, e_rev, e_new, e_meth, e_box, e_isx, es_nil, es_cons, ec_nil, ec_cons, bind_ok, on_ok, then_nx, then_rt, then_exc, bind_exc, on_exc, up_some, tst_bl, mapMu_ok, calm_ok, lkOf_nil, lock_no, unlock_no, s_asg, s_asgO, s_unp, s_par, s_app, s_ext, s_seti, s_setf, s_raise, s_try, s_expr, s_ret, s_ife, s_for, s_whl, s_fz, s_pass, ss_nil, ss_cons, slot_0, slot_s, plc_b, chg_sl, rdV_val, rdB_val, rdB_own, endR_rt, endR_nx, endR_exc, List.map_cons, List.map_nil, List.cons_append, List.nil_append, List.replicate, List.set_cons_zero, List.set_cons_succ, look_nil, Bool.not_true, Bool.not_false, if_true, if_false, Bool.false_eq_true, reduceIte, List.length_cons, List.length_nil, Nat.reduceAdd, Nat.reduceSub, wipeE, List.foldl_cons, List.foldl_nil, Option.map_some, bi_mulA, bi_mulB, bi_fdv, bi_modI, bi_dvm, bi_rlen, kd_ix, bi_sumT, bi_mx2, bi_mn2, bi_intB, bi_lstT, bi_lstL, bi_sumI, is_nI, is_nN, isn_I, isn_N, eq_IN, eq_NI, eq_NN, ne_IN, ne_NI, ne_NN, eq_BB, ne_BB, neg_I, is_L, ow_L, it1_0, il1_0, it2_0, il2_0, it2_1, il2_1, it3_0, il3_0, it3_1, il3_1, it3_2, il3_2, it4_0, il4_0, it4_1, il4_1, it4_2, il4_2, it4_3, il4_3, it5_0, il5_0, it5_1, il5_1, it5_2, il5_2, it5_3, il5_3, it5_4, il5_4, un2, bt2, un3, bt3, un4, bt4, un5, bt5, bt1, stF, srcL, srcT, srcFL, srcFT, app_L, ext_L, add_L, add_T, bi_addI, bi_subI, bi_ltI, bi_leI, bi_gtI, bi_geI, bi_eqI, bi_neI, bi_is, bi_isnot, bi_tupL]
theorem r_time1 (hm : m[b]? = some (false, insH h)) {mo : Int} (ht : h.s.la ≤ mo) (n : Nat) : Phi T (n + 1) "House.need_time" [.box b, .int mo] m = .ok .non m := by
  rw [phi_run (show T "House.need_time" = some fd_House_need_time from rfl) rfl rfl]
  simp only [fd_House_need_time, lk_box hm, fh_he, fs_la, decN (show ¬ mo < h.s.la by omega), lk_i, lk_l, lk_t, lk_b, lk_n, lk_s, lk_C, lk_S, lk_D, lk_H, lk_T, lk_R, plc_f, plc_i, chg_bx, chgS_val, e_v, e_b, e_c, e_bin, e_neg, e_not, e_and, e_or, e_ife, e_cmp, e_ch2, e_tup, e_lst, e_idx, e_sl, e_call, e_bi, e_isi, e_bm, e_fld, e_rev, e_new, e_meth, e_box, e_isx, es_nil, es_cons, ec_nil, ec_cons, bind_ok, on_ok, then_nx, then_rt, then_exc, bind_exc, on_exc, up_some, tst_bl, mapMu_ok, calm_ok, lkOf_nil, lock_no, unlock_no, s_asg, s_asgO, s_unp, s_par, s_app, s_ext, s_seti, s_setf, s_raise, s_try, s_expr, s_ret, s_ife, s_for, s_whl, s_fz, s_pass, ss_nil, ss_cons, slot_0, slot_s, plc_b, chg_sl, rdV_val, rdB_val, rdB_own, endR_rt, endR_nx, endR_exc, List.map_cons, List.map_nil, List.cons_append, List.nil_append, List.replicate, List.set_cons_zero, List.set_cons_succ, look_nil, Bool.not_true, Bool.not_false, if_true, if_false, Bool.false_eq_true, reduceIte, List.length_cons, List.length_nil, Nat.reduceAdd, Nat.reduceSub, wipeE, List.foldl_cons, List.foldl_nil, Option.map_some, bi_mulA, bi_mulB, bi_fdv, bi_modI, bi_dvm, bi_rlen, kd_ix, bi_sumT, bi_mx2, bi_mn2, bi_intB, bi_lstT, bi_lstL, bi_sumI, is_nI, is_nN, isn_I, isn_N, eq_IN, eq_NI, eq_NN, ne_IN, ne_NI, ne_NN, eq_BB, ne_BB, neg_I, is_L, ow_L, it1_0, il1_0, it2_0, il2_0, it2_1, il2_1, it3_0, il3_0, it3_1, il3_1, it3_2, il3_2, it4_0, il4_0, it4_1, il4_1, it4_2, il4_2, it4_3, il4_3, it5_0, il5_0, it5_1, il5_1, it5_2, il5_2, it5_3, il5_3, it5_4, il5_4, un2, bt2, un3, bt3, un4, bt4, un5, bt5, bt1, stF, srcL, srcT, srcFL, srcFT, app_L, ext_L, add_L, add_T, bi_addI, bi_subI, bi_ltI, bi_leI, bi_gtI, bi_geI, bi_eqI, bi_neI, bi_is, bi_isnot, bi_tupL]
theorem r_car0 (hm : m[b]? = some (false, insH h)) {t : Int} (ht : getC h.s.cs t = none) (n : Nat) : Phi T (n + 1) "House.need_car" [.box b, .int t] m = .exc "NoTicket" m := by
  rw [phi_run (show T "House.need_car" = some fd_House_need_car from rfl) rfl rfl]
  have e : (getC h.s.cs t).isNone = true := by rw [ht]; rfl
  simp only [fd_House_need_car, lk_box hm, fh_he, fs_cs, notin_dC, e, lk_i, lk_l, lk_t, lk_b, lk_n, lk_s, lk_C, lk_S, lk_D, lk_H, lk_T, lk_R, plc_f, plc_i, chg_bx, chgS_val, e_v, e_b, e_c, e_bin, e_neg, e_not, e_and, e_or, e_ife, e_cmp, e_ch2, e_tup, e_lst, e_idx, e_sl, e_call, e_bi, e_isi, e_bm, e_fld, e_rev, e_new, e_meth, e_box, e_isx, es_nil, es_cons, ec_nil, ec_cons, bind_ok, on_ok, then_nx, then_rt, then_exc, bind_exc, on_exc, up_some, tst_bl, mapMu_ok, calm_ok, lkOf_nil, lock_no, unlock_no, s_asg, s_asgO, s_unp, s_par, s_app, s_ext, s_seti, s_setf, s_raise, s_try, s_expr, s_ret, s_ife, s_for, s_whl, s_fz, s_pass, ss_nil, ss_cons, slot_0, slot_s, plc_b, chg_sl, rdV_val, rdB_val, rdB_own, endR_rt, endR_nx, endR_exc, List.map_cons, List.map_nil, List.cons_append, List.nil_append, List.replicate, List.set_cons_zero, List.set_cons_succ, look_nil, Bool.not_true, Bool.not_false, if_true, if_false, Bool.false_eq_true, reduceIte, List.length_cons, List.length_nil, Nat.reduceAdd, Nat.reduceSub, wipeE, List.foldl_cons, List.foldl_nil, Option.map_some, bi_mulA, bi_mulB, bi_fdv, bi_modI, bi_dvm, bi_rlen, kd_ix, bi_sumT, bi_mx2, bi_mn2, bi_intB, bi_lstT, bi_lstL, bi_sumI, is_nI, is_nN, isn_I, isn_N, eq_IN, eq_NI, eq_NN, ne_IN, ne_NI, ne_NN, eq_BB, ne_BB, neg_I, is_L, ow_L, it1_0, il1_0, it2_0, il2_0, it2_1, il2_1, it3_0, il3_0, it3_1, il3_1, it3_2, il3_2, it4_0, il4_0, it4_1, il4_1, it4_2, il4_2, it4_3, il4_3, it5_0, il5_0, it5_1, il5_1, it5_2, il5_2, it5_3, il5_3, it5_4, il5_4, un2, bt2, un3, bt3, un4, bt4, un5, bt5, bt1, stF, srcL, srcT, srcFL, srcFT, app_L, ext_L, add_L, add_T, bi_addI, bi_subI, bi_ltI, bi_leI, bi_gtI, bi_geI, bi_eqI, bi_neI, bi_is, bi_isnot, bi_tupL]
theorem r_car1 (hm : m[b]? = some (false, insH h)) {t : Int} {c : Car} (ht : getC h.s.cs t = some c) (n : Nat) : Phi T (n + 1) "House.need_car" [.box b, .int t] m = .ok (insC c) m := by
  rw [phi_run (show T "House.need_car" = some fd_House_need_car from rfl) rfl rfl]
  have e : (getC h.s.cs t).isNone = false := by rw [ht]; rfl
  simp only [fd_House_need_car, lk_box hm, fh_he, fs_cs, notin_dC, e, idx_dC ht, lk_i, lk_l, lk_t, lk_b, lk_n, lk_s, lk_C, lk_S, lk_D, lk_H, lk_T, lk_R, plc_f, plc_i, chg_bx, chgS_val, e_v, e_b, e_c, e_bin, e_neg, e_not, e_and, e_or, e_ife, e_cmp, e_ch2, e_tup, e_lst, e_idx, e_sl, e_call, e_bi, e_isi, e_bm, e_fld, e_rev, e_new, e_meth, e_box, e_isx, es_nil, es_cons, ec_nil, ec_cons, bind_ok, on_ok, then_nx, then_rt, then_exc, bind_exc, on_exc, up_some, tst_bl, mapMu_ok, calm_ok, lkOf_nil, lock_no, unlock_no, s_asg, s_asgO, s_unp, s_par, s_app, s_ext, s_seti, s_setf, s_raise, s_try, s_expr, s_ret, s_ife, s_for, s_whl, s_fz, s_pass, ss_nil, ss_cons, slot_0, slot_s, plc_b, chg_sl, rdV_val, rdB_val, rdB_own, endR_rt, endR_nx, endR_exc, List.map_cons, List.map_nil, List.cons_append, List.nil_append, List.replicate, List.set_cons_zero, List.set_cons_succ, look_nil, Bool.not_true, Bool.not_false, if_true, if_false, Bool.false_eq_true, reduceIte, List.length_cons, List.length_nil, Nat.reduceAdd, Nat.reduceSub, wipeE, List.foldl_cons, List.foldl_nil, Option.map_some, bi_mulA, bi_mulB, bi_fdv, bi_modI, bi_dvm, bi_rlen, kd_ix, bi_sumT, bi_mx2, bi_mn2, bi_intB, bi_lstT, bi_lstL, bi_sumI, is_nI, is_nN, isn_I, isn_N, eq_IN, eq_NI, eq_NN, ne_IN, ne_NI, ne_NN, eq_BB, ne_BB, neg_I, is_L, ow_L, it1_0, il1_0, it2_0, il2_0, it2_1, il2_1, it3_0, il3_0, it3_1, il3_1, it3_2, il3_2, it4_0, il4_0, it4_1, il4_1, it4_2, il4_2, it4_3, il4_3, it5_0, il5_0, it5_1, il5_1, it5_2, il5_2, it5_3, il5_3, it5_4, il5_4, un2, bt2, un3, bt3, un4, bt4, un5, bt5, bt1, stF, srcL, srcT, srcFL, srcFT, app_L, ext_L, add_L, add_T, bi_addI, bi_subI, bi_ltI, bi_leI, bi_gtI, bi_geI, bi_eqI, bi_neI, bi_is, bi_isnot, bi_tupL]
/-! ### what is owed -/
def dueP (h : Hs) (c : Car) (mo : Int) : Int := if mo ≤ c.q then 0 else price h.tf (mo - c.c) - c.p
theorem r_due0 (hm : m[b]? = some (false, insH h)) {t : Int} (ht : getC h.s.cs t = none) (mo : Int) (n : Nat) : Phi T (n + 2) "House.due" [.box b, .int t, .int mo] m = .exc "NoTicket" m := by
  rw [phi_run (show T "House.due" = some fd_House_due from rfl) rfl rfl]
  have w := r_car0 hm ht n
  simp only [fd_House_due, lk_box hm, mh_need_car, w, lk_i, lk_l, lk_t, lk_b, lk_n, lk_s, lk_C, lk_S, lk_D, lk_H, lk_T, lk_R, plc_f, plc_i, chg_bx, chgS_val, e_v, e_b, e_c, e_bin, e_neg, e_not, e_and, e_or, e_ife, e_cmp, e_ch2, e_tup, e_lst, e_idx, e_sl, e_call, e_bi, e_isi, e_bm, e_fld, e_rev, e_new, e_meth, e_box, e_isx, es_nil, es_cons, ec_nil, ec_cons, bind_ok, on_ok, then_nx, then_rt, then_exc, bind_exc, on_exc, up_some, tst_bl, mapMu_ok, calm_ok, lkOf_nil, lock_no, unlock_no, s_asg, s_asgO, s_unp, s_par, s_app, s_ext, s_seti, s_setf, s_raise, s_try, s_expr, s_ret, s_ife, s_for, s_whl, s_fz, s_pass, ss_nil, ss_cons, slot_0, slot_s, plc_b, chg_sl, rdV_val, rdB_val, rdB_own, endR_rt, endR_nx, endR_exc, List.map_cons, List.map_nil, List.cons_append, List.nil_append, List.replicate, List.set_cons_zero, List.set_cons_succ, look_nil, Bool.not_true, Bool.not_false, if_true, if_false, Bool.false_eq_true, reduceIte, List.length_cons, List.length_nil, Nat.reduceAdd, Nat.reduceSub, wipeE, List.foldl_cons, List.foldl_nil, Option.map_some, bi_mulA, bi_mulB, bi_fdv, bi_modI, bi_dvm, bi_rlen, kd_ix, bi_sumT, bi_mx2, bi_mn2, bi_intB, bi_lstT, bi_lstL, bi_sumI, is_nI, is_nN, isn_I, isn_N, eq_IN, eq_NI, eq_NN, ne_IN, ne_NI, ne_NN, eq_BB, ne_BB, neg_I, is_L, ow_L, it1_0, il1_0, it2_0, il2_0, it2_1, il2_1, it3_0, il3_0, it3_1, il3_1, it3_2, il3_2, it4_0, il4_0, it4_1, il4_1, it4_2, il4_2, it4_3, il4_3, it5_0, il5_0, it5_1, il5_1, it5_2, il5_2, it5_3, il5_3, it5_4, il5_4, un2, bt2, un3, bt3, un4, bt4, un5, bt5, bt1, stF, srcL, srcT, srcFL, srcFT, app_L, ext_L, add_L, add_T, bi_addI, bi_subI, bi_ltI, bi_leI, bi_gtI, bi_geI, bi_eqI, bi_neI, bi_is, bi_isnot, bi_tupL]
theorem r_due1 (hm : m[b]? = some (false, insH h)) {t : Int} {c : Car} (ht : getC h.s.cs t = some c) {mo : Int} (hmo : mo < h.s.la) (n : Nat) : Phi T (n + 2) "House.due" [.box b, .int t, .int mo] m = .exc "NoTime" m := by
  rw [phi_run (show T "House.due" = some fd_House_due from rfl) rfl rfl]
  have w := r_car1 hm ht n
  have w2 := r_time0 hm hmo n
  simp only [fd_House_due, lk_box hm, mh_need_car, mh_need_time, w, w2, lk_i, lk_l, lk_t, lk_b, lk_n, lk_s, lk_C, lk_S, lk_D, lk_H, lk_T, lk_R, plc_f, plc_i, chg_bx, chgS_val, e_v, e_b, e_c, e_bin, e_neg, e_not, e_and, e_or, e_ife, e_cmp, e_ch2, e_tup, e_lst, e_idx, e_sl, e_call, e_bi, e_isi, e_bm, e_fld, e_rev, e_new, e_meth, e_box, e_isx, es_nil, es_cons, ec_nil, ec_cons, bind_ok, on_ok, then_nx, then_rt, then_exc, bind_exc, on_exc, up_some, tst_bl, mapMu_ok, calm_ok, lkOf_nil, lock_no, unlock_no, s_asg, s_asgO, s_unp, s_par, s_app, s_ext, s_seti, s_setf, s_raise, s_try, s_expr, s_ret, s_ife, s_for, s_whl, s_fz, s_pass, ss_nil, ss_cons, slot_0, slot_s, plc_b, chg_sl, rdV_val, rdB_val, rdB_own, endR_rt, endR_nx, endR_exc, List.map_cons, List.map_nil, List.cons_append, List.nil_append, List.replicate, List.set_cons_zero, List.set_cons_succ, look_nil, Bool.not_true, Bool.not_false, if_true, if_false, Bool.false_eq_true, reduceIte, List.length_cons, List.length_nil, Nat.reduceAdd, Nat.reduceSub, wipeE, List.foldl_cons, List.foldl_nil, Option.map_some, bi_mulA, bi_mulB, bi_fdv, bi_modI, bi_dvm, bi_rlen, kd_ix, bi_sumT, bi_mx2, bi_mn2, bi_intB, bi_lstT, bi_lstL, bi_sumI, is_nI, is_nN, isn_I, isn_N, eq_IN, eq_NI, eq_NN, ne_IN, ne_NI, ne_NN, eq_BB, ne_BB, neg_I, is_L, ow_L, it1_0, il1_0, it2_0, il2_0, it2_1, il2_1, it3_0, il3_0, it3_1, il3_1, it3_2, il3_2, it4_0, il4_0, it4_1, il4_1, it4_2, il4_2, it4_3, il4_3, it5_0, il5_0, it5_1, il5_1, it5_2, il5_2, it5_3, il5_3, it5_4, il5_4, un2, bt2, un3, bt3, un4, bt4, un5, bt5, bt1, stF, srcL, srcT, srcFL, srcFT, app_L, ext_L, add_L, add_T, bi_addI, bi_subI, bi_ltI, bi_leI, bi_gtI, bi_geI, bi_eqI, bi_neI, bi_is, bi_isnot, bi_tupL]
theorem is_nN' {d : D} (h : d = .non) : cmpD .is_ d .non = some (.bl true) := by rw [h] <;> rfl
theorem lk_non {d : D} (h : d = .non) {m : Mu} : look m d = .non := by rw [h] <;> rfl
theorem r_due (hm : m[b]? = some (false, insH h)) (gt : GT h.tf) {t : Int} {c : Car} (ht : getC h.s.cs t = some c) (hn : c.nm = .non) {mo : Int} (hmo : h.s.la ≤ mo) (hc : c.c ≤ mo) (hmx : mo - c.c ≤ 1000000000) (n : Nat) : Phi T (n + 4) "House.due" [.box b, .int t, .int mo] m = .ok (.int (dueP h c mo)) m := by
  rw [phi_run (show T "House.due" = some fd_House_due from rfl) rfl rfl]
  have w := r_car1 hm ht (n + 2)
  have w2 := r_time1 hm hmo (n + 2)
  have w3 : Phi T (n + 3) "House.counted" [.box b, insC c, .int mo] m = .ok (.int (mo - c.c)) m := by
    rw [phi_run (show T "House.counted" = some fd_House_counted from rfl) rfl rfl]
    simp only [fd_House_counted, fc_n, hn, is_nN, fc_c, lk_i, lk_l, lk_t, lk_b, lk_n, lk_s, lk_C, lk_S, lk_D, lk_H, lk_T, lk_R, plc_f, plc_i, chg_bx, chgS_val, e_v, e_b, e_c, e_bin, e_neg, e_not, e_and, e_or, e_ife, e_cmp, e_ch2, e_tup, e_lst, e_idx, e_sl, e_call, e_bi, e_isi, e_bm, e_fld, e_rev, e_new, e_meth, e_box, e_isx, es_nil, es_cons, ec_nil, ec_cons, bind_ok, on_ok, then_nx, then_rt, then_exc, bind_exc, on_exc, up_some, tst_bl, mapMu_ok, calm_ok, lkOf_nil, lock_no, unlock_no, s_asg, s_asgO, s_unp, s_par, s_app, s_ext, s_seti, s_setf, s_raise, s_try, s_expr, s_ret, s_ife, s_for, s_whl, s_fz, s_pass, ss_nil, ss_cons, slot_0, slot_s, plc_b, chg_sl, rdV_val, rdB_val, rdB_own, endR_rt, endR_nx, endR_exc, List.map_cons, List.map_nil, List.cons_append, List.nil_append, List.replicate, List.set_cons_zero, List.set_cons_succ, look_nil, Bool.not_true, Bool.not_false, if_true, if_false, Bool.false_eq_true, reduceIte, List.length_cons, List.length_nil, Nat.reduceAdd, Nat.reduceSub, wipeE, List.foldl_cons, List.foldl_nil, Option.map_some, bi_mulA, bi_mulB, bi_fdv, bi_modI, bi_dvm, bi_rlen, kd_ix, bi_sumT, bi_mx2, bi_mn2, bi_intB, bi_lstT, bi_lstL, bi_sumI, is_nI, is_nN, isn_I, isn_N, eq_IN, eq_NI, eq_NN, ne_IN, ne_NI, ne_NN, eq_BB, ne_BB, neg_I, is_L, ow_L, it1_0, il1_0, it2_0, il2_0, it2_1, il2_1, it3_0, il3_0, it3_1, il3_1, it3_2, il3_2, it4_0, il4_0, it4_1, il4_1, it4_2, il4_2, it4_3, il4_3, it5_0, il5_0, it5_1, il5_1, it5_2, il5_2, it5_3, il5_3, it5_4, il5_4, un2, bt2, un3, bt3, un4, bt4, un5, bt5, bt1, stF, srcL, srcT, srcFL, srcFT, app_L, ext_L, add_L, add_T, bi_addI, bi_subI, bi_ltI, bi_leI, bi_gtI, bi_geI, bi_eqI, bi_neI, bi_is, bi_isnot, bi_tupL]
  have w4 := phi_fr (r_price gt n (mi := mo - c.c) (by omega) hmx) m
  unfold dueP
  by_cases hq : mo ≤ c.q
  · rw [if_pos hq]
    simp only [fd_House_due, lk_box hm, mh_need_car, mh_need_time, w, w2, fc_q, decY hq, lk_i, lk_l, lk_t, lk_b, lk_n, lk_s, lk_C, lk_S, lk_D, lk_H, lk_T, lk_R, plc_f, plc_i, chg_bx, chgS_val, e_v, e_b, e_c, e_bin, e_neg, e_not, e_and, e_or, e_ife, e_cmp, e_ch2, e_tup, e_lst, e_idx, e_sl, e_call, e_bi, e_isi, e_bm, e_fld, e_rev, e_new, e_meth, e_box, e_isx, es_nil, es_cons, ec_nil, ec_cons, bind_ok, on_ok, then_nx, then_rt, then_exc, bind_exc, on_exc, up_some, tst_bl, mapMu_ok, calm_ok, lkOf_nil, lock_no, unlock_no, s_asg, s_asgO, s_unp, s_par, s_app, s_ext, s_seti, s_setf, s_raise, s_try, s_expr, s_ret, s_ife, s_for, s_whl, s_fz, s_pass, ss_nil, ss_cons, slot_0, slot_s, plc_b, chg_sl, rdV_val, rdB_val, rdB_own, endR_rt, endR_nx, endR_exc, List.map_cons, List.map_nil, List.cons_append, List.nil_append, List.replicate, List.set_cons_zero, List.set_cons_succ, look_nil, Bool.not_true, Bool.not_false, if_true, if_false, Bool.false_eq_true, reduceIte, List.length_cons, List.length_nil, Nat.reduceAdd, Nat.reduceSub, wipeE, List.foldl_cons, List.foldl_nil, Option.map_some, bi_mulA, bi_mulB, bi_fdv, bi_modI, bi_dvm, bi_rlen, kd_ix, bi_sumT, bi_mx2, bi_mn2, bi_intB, bi_lstT, bi_lstL, bi_sumI, is_nI, is_nN, isn_I, isn_N, eq_IN, eq_NI, eq_NN, ne_IN, ne_NI, ne_NN, eq_BB, ne_BB, neg_I, is_L, ow_L, it1_0, il1_0, it2_0, il2_0, it2_1, il2_1, it3_0, il3_0, it3_1, il3_1, it3_2, il3_2, it4_0, il4_0, it4_1, il4_1, it4_2, il4_2, it4_3, il4_3, it5_0, il5_0, it5_1, il5_1, it5_2, il5_2, it5_3, il5_3, it5_4, il5_4, un2, bt2, un3, bt3, un4, bt4, un5, bt5, bt1, stF, srcL, srcT, srcFL, srcFT, app_L, ext_L, add_L, add_T, bi_addI, bi_subI, bi_ltI, bi_leI, bi_gtI, bi_geI, bi_eqI, bi_neI, bi_is, bi_isnot, bi_tupL]
  · rw [if_neg hq]
    simp only [fd_House_due, lk_box hm, mh_need_car, mh_need_time, mh_counted, w, w2, w3, w4, fh_tf, fc_p, fc_q, decN hq, lk_i, lk_l, lk_t, lk_b, lk_n, lk_s, lk_C, lk_S, lk_D, lk_H, lk_T, lk_R, plc_f, plc_i, chg_bx, chgS_val, e_v, e_b, e_c, e_bin, e_neg, e_not, e_and, e_or, e_ife, e_cmp, e_ch2, e_tup, e_lst, e_idx, e_sl, e_call, e_bi, e_isi, e_bm, e_fld, e_rev, e_new, e_meth, e_box, e_isx, es_nil, es_cons, ec_nil, ec_cons, bind_ok, on_ok, then_nx, then_rt, then_exc, bind_exc, on_exc, up_some, tst_bl, mapMu_ok, calm_ok, lkOf_nil, lock_no, unlock_no, s_asg, s_asgO, s_unp, s_par, s_app, s_ext, s_seti, s_setf, s_raise, s_try, s_expr, s_ret, s_ife, s_for, s_whl, s_fz, s_pass, ss_nil, ss_cons, slot_0, slot_s, plc_b, chg_sl, rdV_val, rdB_val, rdB_own, endR_rt, endR_nx, endR_exc, List.map_cons, List.map_nil, List.cons_append, List.nil_append, List.replicate, List.set_cons_zero, List.set_cons_succ, look_nil, Bool.not_true, Bool.not_false, if_true, if_false, Bool.false_eq_true, reduceIte, List.length_cons, List.length_nil, Nat.reduceAdd, Nat.reduceSub, wipeE, List.foldl_cons, List.foldl_nil, Option.map_some, bi_mulA, bi_mulB, bi_fdv, bi_modI, bi_dvm, bi_rlen, kd_ix, bi_sumT, bi_mx2, bi_mn2, bi_intB, bi_lstT, bi_lstL, bi_sumI, is_nI, is_nN, isn_I, isn_N, eq_IN, eq_NI, eq_NN, ne_IN, ne_NI, ne_NN, eq_BB, ne_BB, neg_I, is_L, ow_L, it1_0, il1_0, it2_0, il2_0, it2_1, il2_1, it3_0, il3_0, it3_1, il3_1, it3_2, il3_2, it4_0, il4_0, it4_1, il4_1, it4_2, il4_2, it4_3, il4_3, it5_0, il5_0, it5_1, il5_1, it5_2, il5_2, it5_3, il5_3, it5_4, il5_4, un2, bt2, un3, bt3, un4, bt4, un5, bt5, bt1, stF, srcL, srcT, srcFL, srcFT, app_L, ext_L, add_L, add_T, bi_addI, bi_subI, bi_ltI, bi_leI, bi_gtI, bi_geI, bi_eqI, bi_neI, bi_is, bi_isnot, bi_tupL]
/-! ### steps -/
def isWh (d : D) (lo hi : Int) : Bool := match d with
  | .int i => decide (lo ≤ i) && decide (i ≤ hi)
  | _ => false
theorem r_wholeI {i lo hi : Int} (n : Nat) : Phi T (n + 1) "is_whole" [.int i, .int lo, .int hi] m = .ok (.bl (decide (lo ≤ i) && decide (i ≤ hi))) m := by
  rw [phi_run (show T "is_whole" = some fd_is_whole from rfl) rfl rfl]
  have i1 : isiD (.int i) "int" = some true := rfl
  have i2 : isiD (.int i) "bool" = some false := rfl
  by_cases h1 : lo ≤ i
  · simp only [fd_is_whole, i1, i2, decY h1, Bool.true_and, lk_i, lk_l, lk_t, lk_b, lk_n, lk_s, lk_C, lk_S, lk_D, lk_H, lk_T, lk_R, plc_f, plc_i, chg_bx, chgS_val, e_v, e_b, e_c, e_bin, e_neg, e_not, e_and, e_or, e_ife, e_cmp, e_ch2, e_tup, e_lst, e_idx, e_sl, e_call, e_bi, e_isi, e_bm, e_fld, e_rev, e_new, e_meth, e_box, e_isx, es_nil, es_cons, ec_nil, ec_cons, bind_ok, on_ok, then_nx, then_rt, then_exc, bind_exc, on_exc, up_some, tst_bl, mapMu_ok, calm_ok, lkOf_nil, lock_no, unlock_no, s_asg, s_asgO, s_unp, s_par, s_app, s_ext, s_seti, s_setf, s_raise, s_try, s_expr, s_ret, s_ife, s_for, s_whl, s_fz, s_pass, ss_nil, ss_cons, slot_0, slot_s, plc_b, chg_sl, rdV_val, rdB_val, rdB_own, endR_rt, endR_nx, endR_exc, List.map_cons, List.map_nil, List.cons_append, List.nil_append, List.replicate, List.set_cons_zero, List.set_cons_succ, look_nil, Bool.not_true, Bool.not_false, if_true, if_false, Bool.false_eq_true, reduceIte, List.length_cons, List.length_nil, Nat.reduceAdd, Nat.reduceSub, wipeE, List.foldl_cons, List.foldl_nil, Option.map_some, bi_mulA, bi_mulB, bi_fdv, bi_modI, bi_dvm, bi_rlen, kd_ix, bi_sumT, bi_mx2, bi_mn2, bi_intB, bi_lstT, bi_lstL, bi_sumI, is_nI, is_nN, isn_I, isn_N, eq_IN, eq_NI, eq_NN, ne_IN, ne_NI, ne_NN, eq_BB, ne_BB, neg_I, is_L, ow_L, it1_0, il1_0, it2_0, il2_0, it2_1, il2_1, it3_0, il3_0, it3_1, il3_1, it3_2, il3_2, it4_0, il4_0, it4_1, il4_1, it4_2, il4_2, it4_3, il4_3, it5_0, il5_0, it5_1, il5_1, it5_2, il5_2, it5_3, il5_3, it5_4, il5_4, un2, bt2, un3, bt3, un4, bt4, un5, bt5, bt1, stF, srcL, srcT, srcFL, srcFT, app_L, ext_L, add_L, add_T, bi_addI, bi_subI, bi_ltI, bi_leI, bi_gtI, bi_geI, bi_eqI, bi_neI, bi_is, bi_isnot, bi_tupL]
  · simp only [fd_is_whole, i1, i2, decN h1, Bool.false_and, lk_i, lk_l, lk_t, lk_b, lk_n, lk_s, lk_C, lk_S, lk_D, lk_H, lk_T, lk_R, plc_f, plc_i, chg_bx, chgS_val, e_v, e_b, e_c, e_bin, e_neg, e_not, e_and, e_or, e_ife, e_cmp, e_ch2, e_tup, e_lst, e_idx, e_sl, e_call, e_bi, e_isi, e_bm, e_fld, e_rev, e_new, e_meth, e_box, e_isx, es_nil, es_cons, ec_nil, ec_cons, bind_ok, on_ok, then_nx, then_rt, then_exc, bind_exc, on_exc, up_some, tst_bl, mapMu_ok, calm_ok, lkOf_nil, lock_no, unlock_no, s_asg, s_asgO, s_unp, s_par, s_app, s_ext, s_seti, s_setf, s_raise, s_try, s_expr, s_ret, s_ife, s_for, s_whl, s_fz, s_pass, ss_nil, ss_cons, slot_0, slot_s, plc_b, chg_sl, rdV_val, rdB_val, rdB_own, endR_rt, endR_nx, endR_exc, List.map_cons, List.map_nil, List.cons_append, List.nil_append, List.replicate, List.set_cons_zero, List.set_cons_succ, look_nil, Bool.not_true, Bool.not_false, if_true, if_false, Bool.false_eq_true, reduceIte, List.length_cons, List.length_nil, Nat.reduceAdd, Nat.reduceSub, wipeE, List.foldl_cons, List.foldl_nil, Option.map_some, bi_mulA, bi_mulB, bi_fdv, bi_modI, bi_dvm, bi_rlen, kd_ix, bi_sumT, bi_mx2, bi_mn2, bi_intB, bi_lstT, bi_lstL, bi_sumI, is_nI, is_nN, isn_I, isn_N, eq_IN, eq_NI, eq_NN, ne_IN, ne_NI, ne_NN, eq_BB, ne_BB, neg_I, is_L, ow_L, it1_0, il1_0, it2_0, il2_0, it2_1, il2_1, it3_0, il3_0, it3_1, il3_1, it3_2, il3_2, it4_0, il4_0, it4_1, il4_1, it4_2, il4_2, it4_3, il4_3, it5_0, il5_0, it5_1, il5_1, it5_2, il5_2, it5_3, il5_3, it5_4, il5_4, un2, bt2, un3, bt3, un4, bt4, un5, bt5, bt1, stF, srcL, srcT, srcFL, srcFT, app_L, ext_L, add_L, add_T, bi_addI, bi_subI, bi_ltI, bi_leI, bi_gtI, bi_geI, bi_eqI, bi_neI, bi_is, bi_isnot, bi_tupL]
theorem r_whole0 {d : D} (hd : isiD d "int" = some false ∨ isiD d "int" = some true ∧ isiD d "bool" = some true) (hl : look m d = d) (lo hi : Int) (n : Nat) : Phi T (n + 1) "is_whole" [d, .int lo, .int hi] m = .ok (.bl false) m := by
  rw [phi_run (show T "is_whole" = some fd_is_whole from rfl) rfl rfl]
  rcases hd with i1 | ⟨i1, i2⟩
  · simp only [fd_is_whole, i1, hl, e_v, e_b, e_c, e_bin, e_neg, e_not, e_and, e_or, e_ife, e_cmp, e_ch2, e_tup, e_lst, e_idx, e_sl, e_call, e_bi, e_isi, e_bm, e_fld, e_rev, e_new, e_meth, e_box, e_isx, es_nil, es_cons, ec_nil, ec_cons, bind_ok, on_ok, then_nx, then_rt, then_exc, bind_exc, on_exc, up_some, tst_bl, mapMu_ok, calm_ok, lkOf_nil, lock_no, unlock_no, s_asg, s_asgO, s_unp, s_par, s_app, s_ext, s_seti, s_setf, s_raise, s_try, s_expr, s_ret, s_ife, s_for, s_whl, s_fz, s_pass, ss_nil, ss_cons, slot_0, slot_s, plc_b, chg_sl, rdV_val, rdB_val, rdB_own, endR_rt, endR_nx, endR_exc, List.map_cons, List.map_nil, List.cons_append, List.nil_append, List.replicate, List.set_cons_zero, List.set_cons_succ, look_nil, Bool.not_true, Bool.not_false, if_true, if_false, Bool.false_eq_true, reduceIte, List.length_cons, List.length_nil, Nat.reduceAdd, Nat.reduceSub, wipeE, List.foldl_cons, List.foldl_nil, Option.map_some, bi_mulA, bi_mulB, bi_fdv, bi_modI, bi_dvm, bi_rlen, kd_ix, bi_sumT, bi_mx2, bi_mn2, bi_intB, bi_lstT, bi_lstL, bi_sumI, is_nI, is_nN, isn_I, isn_N, eq_IN, eq_NI, eq_NN, ne_IN, ne_NI, ne_NN, eq_BB, ne_BB, neg_I, is_L, ow_L, it1_0, il1_0, it2_0, il2_0, it2_1, il2_1, it3_0, il3_0, it3_1, il3_1, it3_2, il3_2, it4_0, il4_0, it4_1, il4_1, it4_2, il4_2, it4_3, il4_3, it5_0, il5_0, it5_1, il5_1, it5_2, il5_2, it5_3, il5_3, it5_4, il5_4, un2, bt2, un3, bt3, un4, bt4, un5, bt5, bt1, stF, srcL, srcT, srcFL, srcFT, app_L, ext_L, add_L, add_T, bi_addI, bi_subI, bi_ltI, bi_leI, bi_gtI, bi_geI, bi_eqI, bi_neI, bi_is, bi_isnot, bi_tupL]
  · simp only [fd_is_whole, i1, i2, hl, e_v, e_b, e_c, e_bin, e_neg, e_not, e_and, e_or, e_ife, e_cmp, e_ch2, e_tup, e_lst, e_idx, e_sl, e_call, e_bi, e_isi, e_bm, e_fld, e_rev, e_new, e_meth, e_box, e_isx, es_nil, es_cons, ec_nil, ec_cons, bind_ok, on_ok, then_nx, then_rt, then_exc, bind_exc, on_exc, up_some, tst_bl, mapMu_ok, calm_ok, lkOf_nil, lock_no, unlock_no, s_asg, s_asgO, s_unp, s_par, s_app, s_ext, s_seti, s_setf, s_raise, s_try, s_expr, s_ret, s_ife, s_for, s_whl, s_fz, s_pass, ss_nil, ss_cons, slot_0, slot_s, plc_b, chg_sl, rdV_val, rdB_val, rdB_own, endR_rt, endR_nx, endR_exc, List.map_cons, List.map_nil, List.cons_append, List.nil_append, List.replicate, List.set_cons_zero, List.set_cons_succ, look_nil, Bool.not_true, Bool.not_false, if_true, if_false, Bool.false_eq_true, reduceIte, List.length_cons, List.length_nil, Nat.reduceAdd, Nat.reduceSub, wipeE, List.foldl_cons, List.foldl_nil, Option.map_some, bi_mulA, bi_mulB, bi_fdv, bi_modI, bi_dvm, bi_rlen, kd_ix, bi_sumT, bi_mx2, bi_mn2, bi_intB, bi_lstT, bi_lstL, bi_sumI, is_nI, is_nN, isn_I, isn_N, eq_IN, eq_NI, eq_NN, ne_IN, ne_NI, ne_NN, eq_BB, ne_BB, neg_I, is_L, ow_L, it1_0, il1_0, it2_0, il2_0, it2_1, il2_1, it3_0, il3_0, it3_1, il3_1, it3_2, il3_2, it4_0, il4_0, it4_1, il4_1, it4_2, il4_2, it4_3, il4_3, it5_0, il5_0, it5_1, il5_1, it5_2, il5_2, it5_3, il5_3, it5_4, il5_4, un2, bt2, un3, bt3, un4, bt4, un5, bt5, bt1, stF, srcL, srcT, srcFL, srcFT, app_L, ext_L, add_L, add_T, bi_addI, bi_subI, bi_ltI, bi_leI, bi_gtI, bi_geI, bi_eqI, bi_neI, bi_is, bi_isnot, bi_tupL]
def cntR (rows : List Row) : Int := (rows.countP fun r => r.w == S "come" || r.w == S "card" : Nat)
theorem r_given (hm : m[b]? = some (false, insH h)) (n : Nat) : Phi T (n + 1) "House.tickets_given" [.box b] m = .ok (.int (cntR h.s.rows)) m := by
  rw [phi_run (show T "House.tickets_given" = some fd_House_tickets_given from rfl) rfl rfl]
  have e1 : ev (Phi T n) (.comp (.v 1) (.one 1) .it [(.fld (.fld (.v 0) "here") "rows")] [(.cmp .isin (.idx (.v 1) (.c (.int (1)))) (.tup [(.c (.str (S "come"))), (.c (.str (S "card")))]))] [1]) [.val (.box b), .no] m = .ok (.lst ((h.s.rows.filter fun r => r.w == S "come" || r.w == S "card").map encR)) m := by
    refine comp_srcM (ds := [.tup (h.s.rows.map encR)]) (by simp only [lk_box hm, fh_he, fs_ro, lk_i, lk_l, lk_t, lk_b, lk_n, lk_s, lk_C, lk_S, lk_D, lk_H, lk_T, lk_R, plc_f, plc_i, chg_bx, chgS_val, e_v, e_b, e_c, e_bin, e_neg, e_not, e_and, e_or, e_ife, e_cmp, e_ch2, e_tup, e_lst, e_idx, e_sl, e_call, e_bi, e_isi, e_bm, e_fld, e_rev, e_new, e_meth, e_box, e_isx, es_nil, es_cons, ec_nil, ec_cons, bind_ok, on_ok, then_nx, then_rt, then_exc, bind_exc, on_exc, up_some, tst_bl, mapMu_ok, calm_ok, lkOf_nil, lock_no, unlock_no, s_asg, s_asgO, s_unp, s_par, s_app, s_ext, s_seti, s_setf, s_raise, s_try, s_expr, s_ret, s_ife, s_for, s_whl, s_fz, s_pass, ss_nil, ss_cons, slot_0, slot_s, plc_b, chg_sl, rdV_val, rdB_val, rdB_own, endR_rt, endR_nx, endR_exc, List.map_cons, List.map_nil, List.cons_append, List.nil_append, List.replicate, List.set_cons_zero, List.set_cons_succ, look_nil, Bool.not_true, Bool.not_false, if_true, if_false, Bool.false_eq_true, reduceIte, List.length_cons, List.length_nil, Nat.reduceAdd, Nat.reduceSub, wipeE, List.foldl_cons, List.foldl_nil, Option.map_some, bi_mulA, bi_mulB, bi_fdv, bi_modI, bi_dvm, bi_rlen, kd_ix, bi_sumT, bi_mx2, bi_mn2, bi_intB, bi_lstT, bi_lstL, bi_sumI, is_nI, is_nN, isn_I, isn_N, eq_IN, eq_NI, eq_NN, ne_IN, ne_NI, ne_NN, eq_BB, ne_BB, neg_I, is_L, ow_L, it1_0, il1_0, it2_0, il2_0, it2_1, il2_1, it3_0, il3_0, it3_1, il3_1, it3_2, il3_2, it4_0, il4_0, it4_1, il4_1, it4_2, il4_2, it4_3, il4_3, it5_0, il5_0, it5_1, il5_1, it5_2, il5_2, it5_3, il5_3, it5_4, il5_4, un2, bt2, un3, bt3, un4, bt4, un5, bt5, bt1, stF, srcL, srcT, srcFL, srcFT, app_L, ext_L, add_L, add_T, bi_addI, bi_subI, bi_ltI, bi_leI, bi_gtI, bi_geI, bi_eqI, bi_neI, bi_is, bi_isnot, bi_tupL]) lkOf_t srcT ?_
    refine loopC_filter (enc := encR) fun r _ => ?_
    have ix : idxD (encR r) (.int 1) = some (.str r.w) := rfl
    have ii : cmpD .isin (.str r.w) (.tup [.str (S "come"), .str (S "card")]) = some (.bl (r.w == S "come" || r.w == S "card")) := by
      show Option.map D.bl (if (flatD (.str r.w) && [D.str (S "come"), .str (S "card")].all flatD) = true then some ([D.str (S "come"), .str (S "card")].any fun y => eqF y (.str r.w)) else none) = _
      rw [if_pos (show (flatD (.str r.w) && [D.str (S "come"), .str (S "card")].all flatD) = true from rfl)]
      simp only [List.any_cons, List.any_nil, Bool.or_false, eqF, Option.map_some]
      congr 2
      rw [show (S "come" == r.w) = (r.w == S "come") from Bool.eq_iff_iff.mpr (by simp only [beq_iff_eq]; exact eq_comm), show (S "card" == r.w) = (r.w == S "card") from Bool.eq_iff_iff.mpr (by simp only [beq_iff_eq]; exact eq_comm)]
    simp only [turnC, ix, ii, lk_i, lk_l, lk_t, lk_b, lk_n, lk_s, lk_C, lk_S, lk_D, lk_H, lk_T, lk_R, plc_f, plc_i, chg_bx, chgS_val, e_v, e_b, e_c, e_bin, e_neg, e_not, e_and, e_or, e_ife, e_cmp, e_ch2, e_tup, e_lst, e_idx, e_sl, e_call, e_bi, e_isi, e_bm, e_fld, e_rev, e_new, e_meth, e_box, e_isx, es_nil, es_cons, ec_nil, ec_cons, bind_ok, on_ok, then_nx, then_rt, then_exc, bind_exc, on_exc, up_some, tst_bl, mapMu_ok, calm_ok, lkOf_nil, lock_no, unlock_no, s_asg, s_asgO, s_unp, s_par, s_app, s_ext, s_seti, s_setf, s_raise, s_try, s_expr, s_ret, s_ife, s_for, s_whl, s_fz, s_pass, ss_nil, ss_cons, slot_0, slot_s, plc_b, chg_sl, rdV_val, rdB_val, rdB_own, endR_rt, endR_nx, endR_exc, List.map_cons, List.map_nil, List.cons_append, List.nil_append, List.replicate, List.set_cons_zero, List.set_cons_succ, look_nil, Bool.not_true, Bool.not_false, if_true, if_false, Bool.false_eq_true, reduceIte, List.length_cons, List.length_nil, Nat.reduceAdd, Nat.reduceSub, wipeE, List.foldl_cons, List.foldl_nil, Option.map_some, bi_mulA, bi_mulB, bi_fdv, bi_modI, bi_dvm, bi_rlen, kd_ix, bi_sumT, bi_mx2, bi_mn2, bi_intB, bi_lstT, bi_lstL, bi_sumI, is_nI, is_nN, isn_I, isn_N, eq_IN, eq_NI, eq_NN, ne_IN, ne_NI, ne_NN, eq_BB, ne_BB, neg_I, is_L, ow_L, it1_0, il1_0, it2_0, il2_0, it2_1, il2_1, it3_0, il3_0, it3_1, il3_1, it3_2, il3_2, it4_0, il4_0, it4_1, il4_1, it4_2, il4_2, it4_3, il4_3, it5_0, il5_0, it5_1, il5_1, it5_2, il5_2, it5_3, il5_3, it5_4, il5_4, un2, bt2, un3, bt3, un4, bt4, un5, bt5, bt1, stF, srcL, srcT, srcFL, srcFT, app_L, ext_L, add_L, add_T, bi_addI, bi_subI, bi_ltI, bi_leI, bi_gtI, bi_geI, bi_eqI, bi_neI, bi_is, bi_isnot, bi_tupL]
    cases r.w == S "come" || r.w == S "card"
    · simp only [e_v, e_b, e_c, e_bin, e_neg, e_not, e_and, e_or, e_ife, e_cmp, e_ch2, e_tup, e_lst, e_idx, e_sl, e_call, e_bi, e_isi, e_bm, e_fld, e_rev, e_new, e_meth, e_box, e_isx, es_nil, es_cons, ec_nil, ec_cons, bind_ok, on_ok, then_nx, then_rt, then_exc, bind_exc, on_exc, up_some, tst_bl, mapMu_ok, calm_ok, lkOf_nil, lock_no, unlock_no, s_asg, s_asgO, s_unp, s_par, s_app, s_ext, s_seti, s_setf, s_raise, s_try, s_expr, s_ret, s_ife, s_for, s_whl, s_fz, s_pass, ss_nil, ss_cons, slot_0, slot_s, plc_b, chg_sl, rdV_val, rdB_val, rdB_own, endR_rt, endR_nx, endR_exc, List.map_cons, List.map_nil, List.cons_append, List.nil_append, List.replicate, List.set_cons_zero, List.set_cons_succ, look_nil, Bool.not_true, Bool.not_false, if_true, if_false, Bool.false_eq_true, reduceIte, List.length_cons, List.length_nil, Nat.reduceAdd, Nat.reduceSub, wipeE, List.foldl_cons, List.foldl_nil, Option.map_some, bi_mulA, bi_mulB, bi_fdv, bi_modI, bi_dvm, bi_rlen, kd_ix, bi_sumT, bi_mx2, bi_mn2, bi_intB, bi_lstT, bi_lstL, bi_sumI, is_nI, is_nN, isn_I, isn_N, eq_IN, eq_NI, eq_NN, ne_IN, ne_NI, ne_NN, eq_BB, ne_BB, neg_I, is_L, ow_L, it1_0, il1_0, it2_0, il2_0, it2_1, il2_1, it3_0, il3_0, it3_1, il3_1, it3_2, il3_2, it4_0, il4_0, it4_1, il4_1, it4_2, il4_2, it4_3, il4_3, it5_0, il5_0, it5_1, il5_1, it5_2, il5_2, it5_3, il5_3, it5_4, il5_4, un2, bt2, un3, bt3, un4, bt4, un5, bt5, bt1, stF, srcL, srcT, srcFL, srcFT, app_L, ext_L, add_L, add_T, bi_addI, bi_subI, bi_ltI, bi_leI, bi_gtI, bi_geI, bi_eqI, bi_neI, bi_is, bi_isnot, bi_tupL]
    · simp only [e_v, e_b, e_c, e_bin, e_neg, e_not, e_and, e_or, e_ife, e_cmp, e_ch2, e_tup, e_lst, e_idx, e_sl, e_call, e_bi, e_isi, e_bm, e_fld, e_rev, e_new, e_meth, e_box, e_isx, es_nil, es_cons, ec_nil, ec_cons, bind_ok, on_ok, then_nx, then_rt, then_exc, bind_exc, on_exc, up_some, tst_bl, mapMu_ok, calm_ok, lkOf_nil, lock_no, unlock_no, s_asg, s_asgO, s_unp, s_par, s_app, s_ext, s_seti, s_setf, s_raise, s_try, s_expr, s_ret, s_ife, s_for, s_whl, s_fz, s_pass, ss_nil, ss_cons, slot_0, slot_s, plc_b, chg_sl, rdV_val, rdB_val, rdB_own, endR_rt, endR_nx, endR_exc, List.map_cons, List.map_nil, List.cons_append, List.nil_append, List.replicate, List.set_cons_zero, List.set_cons_succ, look_nil, Bool.not_true, Bool.not_false, if_true, if_false, Bool.false_eq_true, reduceIte, List.length_cons, List.length_nil, Nat.reduceAdd, Nat.reduceSub, wipeE, List.foldl_cons, List.foldl_nil, Option.map_some, bi_mulA, bi_mulB, bi_fdv, bi_modI, bi_dvm, bi_rlen, kd_ix, bi_sumT, bi_mx2, bi_mn2, bi_intB, bi_lstT, bi_lstL, bi_sumI, is_nI, is_nN, isn_I, isn_N, eq_IN, eq_NI, eq_NN, ne_IN, ne_NI, ne_NN, eq_BB, ne_BB, neg_I, is_L, ow_L, it1_0, il1_0, it2_0, il2_0, it2_1, il2_1, it3_0, il3_0, it3_1, il3_1, it3_2, il3_2, it4_0, il4_0, it4_1, il4_1, it4_2, il4_2, it4_3, il4_3, it5_0, il5_0, it5_1, il5_1, it5_2, il5_2, it5_3, il5_3, it5_4, il5_4, un2, bt2, un3, bt3, un4, bt4, un5, bt5, bt1, stF, srcL, srcT, srcFL, srcFT, app_L, ext_L, add_L, add_T, bi_addI, bi_subI, bi_ltI, bi_leI, bi_gtI, bi_geI, bi_eqI, bi_neI, bi_is, bi_isnot, bi_tupL]
  have ln : biD .len [.lst ((h.s.rows.filter fun r => r.w == S "come" || r.w == S "card").map encR)] = some (.int (cntR h.s.rows)) := by
    rw [len_map, ← List.countP_eq_length_filter]
    rfl
  simp only [fd_House_tickets_given, e1, ln, lk_i, lk_l, lk_t, lk_b, lk_n, lk_s, lk_C, lk_S, lk_D, lk_H, lk_T, lk_R, plc_f, plc_i, chg_bx, chgS_val, e_v, e_b, e_c, e_bin, e_neg, e_not, e_and, e_or, e_ife, e_cmp, e_ch2, e_tup, e_lst, e_idx, e_sl, e_call, e_bi, e_isi, e_bm, e_fld, e_rev, e_new, e_meth, e_box, e_isx, es_nil, es_cons, ec_nil, ec_cons, bind_ok, on_ok, then_nx, then_rt, then_exc, bind_exc, on_exc, up_some, tst_bl, mapMu_ok, calm_ok, lkOf_nil, lock_no, unlock_no, s_asg, s_asgO, s_unp, s_par, s_app, s_ext, s_seti, s_setf, s_raise, s_try, s_expr, s_ret, s_ife, s_for, s_whl, s_fz, s_pass, ss_nil, ss_cons, slot_0, slot_s, plc_b, chg_sl, rdV_val, rdB_val, rdB_own, endR_rt, endR_nx, endR_exc, List.map_cons, List.map_nil, List.cons_append, List.nil_append, List.replicate, List.set_cons_zero, List.set_cons_succ, look_nil, Bool.not_true, Bool.not_false, if_true, if_false, Bool.false_eq_true, reduceIte, List.length_cons, List.length_nil, Nat.reduceAdd, Nat.reduceSub, wipeE, List.foldl_cons, List.foldl_nil, Option.map_some, bi_mulA, bi_mulB, bi_fdv, bi_modI, bi_dvm, bi_rlen, kd_ix, bi_sumT, bi_mx2, bi_mn2, bi_intB, bi_lstT, bi_lstL, bi_sumI, is_nI, is_nN, isn_I, isn_N, eq_IN, eq_NI, eq_NN, ne_IN, ne_NI, ne_NN, eq_BB, ne_BB, neg_I, is_L, ow_L, it1_0, il1_0, it2_0, il2_0, it2_1, il2_1, it3_0, il3_0, it3_1, il3_1, it3_2, il3_2, it4_0, il4_0, it4_1, il4_1, it4_2, il4_2, it4_3, il4_3, it5_0, il5_0, it5_1, il5_1, it5_2, il5_2, it5_3, il5_3, it5_4, il5_4, un2, bt2, un3, bt3, un4, bt4, un5, bt5, bt1, stF, srcL, srcT, srcFL, srcFT, app_L, ext_L, add_L, add_T, bi_addI, bi_subI, bi_ltI, bi_leI, bi_gtI, bi_geI, bi_eqI, bi_neI, bi_is, bi_isnot, bi_tupL]
def bestI (sp : List Int) : Int := ixP sp (mxI sp)
theorem r_bestof {sp : List Int} (ne : sp ≠ []) (hp : 0 < mxI sp) (n : Nat) : Phi T (n + 1) "best_of" [.lst (sp.map .int)] m = .ok (.int (bestI sp)) m := by
  rw [phi_run (show T "best_of" = some fd_best_of from rfl) rfl rfl]
  have mx := mx_ints ne
  have ix := ix_ints (mxI_mem ne).1
  unfold bestI
  simp only [fd_best_of, mx, ix, decY hp, kd_ix, lk_i, lk_l, lk_t, lk_b, lk_n, lk_s, lk_C, lk_S, lk_D, lk_H, lk_T, lk_R, plc_f, plc_i, chg_bx, chgS_val, e_v, e_b, e_c, e_bin, e_neg, e_not, e_and, e_or, e_ife, e_cmp, e_ch2, e_tup, e_lst, e_idx, e_sl, e_call, e_bi, e_isi, e_bm, e_fld, e_rev, e_new, e_meth, e_box, e_isx, es_nil, es_cons, ec_nil, ec_cons, bind_ok, on_ok, then_nx, then_rt, then_exc, bind_exc, on_exc, up_some, tst_bl, mapMu_ok, calm_ok, lkOf_nil, lock_no, unlock_no, s_asg, s_asgO, s_unp, s_par, s_app, s_ext, s_seti, s_setf, s_raise, s_try, s_expr, s_ret, s_ife, s_for, s_whl, s_fz, s_pass, ss_nil, ss_cons, slot_0, slot_s, plc_b, chg_sl, rdV_val, rdB_val, rdB_own, endR_rt, endR_nx, endR_exc, List.map_cons, List.map_nil, List.cons_append, List.nil_append, List.replicate, List.set_cons_zero, List.set_cons_succ, look_nil, Bool.not_true, Bool.not_false, if_true, if_false, Bool.false_eq_true, reduceIte, List.length_cons, List.length_nil, Nat.reduceAdd, Nat.reduceSub, wipeE, List.foldl_cons, List.foldl_nil, Option.map_some, bi_mulA, bi_mulB, bi_fdv, bi_modI, bi_dvm, bi_rlen, kd_ix, bi_sumT, bi_mx2, bi_mn2, bi_intB, bi_lstT, bi_lstL, bi_sumI, is_nI, is_nN, isn_I, isn_N, eq_IN, eq_NI, eq_NN, ne_IN, ne_NI, ne_NN, eq_BB, ne_BB, neg_I, is_L, ow_L, it1_0, il1_0, it2_0, il2_0, it2_1, il2_1, it3_0, il3_0, it3_1, il3_1, it3_2, il3_2, it4_0, il4_0, it4_1, il4_1, it4_2, il4_2, it4_3, il4_3, it5_0, il5_0, it5_1, il5_1, it5_2, il5_2, it5_3, il5_3, it5_4, il5_4, un2, bt2, un3, bt3, un4, bt4, un5, bt5, bt1, stF, srcL, srcT, srcFL, srcFT, app_L, ext_L, add_L, add_T, bi_addI, bi_subI, bi_ltI, bi_leI, bi_gtI, bi_geI, bi_eqI, bi_neI, bi_is, bi_isnot, bi_tupL]
/-! ### the plain house -/
def enterP (h : Hs) (mo : Int) (w : Str) (nm : D) : Hs := turnP h w (movedP h mo (setC h.s.cs (cntR h.s.rows) ⟨mo, bestI (freeP h.fl h.s.cs), 0, -1, nm⟩) ⟨mo, w, cntR h.s.rows, bestI (freeP h.fl h.s.cs)⟩)
def payP (h : Hs) (t : Int) (c : Car) (mo a : Int) : Hs := turnP h (S "pay") (movedP h mo (setC h.s.cs t ⟨c.c, c.f, c.p + a, if a = dueP h c mo then mo + h.gr else c.q, c.nm⟩) ⟨mo, S "pay", t, a⟩)
def shiftP (h : Hs) (t : Int) (c : Car) (mo f : Int) : Hs := turnP h (S "shift") (movedP h mo (setC h.s.cs t ⟨c.c, f, c.p, c.q, c.nm⟩) ⟨mo, S "shift", t, f⟩)
def leaveP (h : Hs) (t : Int) (c : Car) (mo : Int) : Hs := turnP h (S "leave") (movedP h mo (h.s.cs.filter fun p => p.1 != t) ⟨mo, S "leave", t, mo - c.c⟩)
/-- what holds of a house behind at most k steps -/
structure GoodH (k : Nat) (h : Hs) : Prop where
  fne : h.fl ≠ []
  fpos : ∀ f ∈ h.fl, 1 ≤ f
  gt : GT h.tf
  srt : h.s.cs.Pairwise fun a b => a.1 < b.1
  key : ∀ p ∈ h.s.cs, 0 ≤ p.1 ∧ p.1 < cntR h.s.rows
  car : ∀ p ∈ h.s.cs, 0 ≤ p.2.c ∧ p.2.c ≤ h.s.la ∧ 0 ≤ p.2.f ∧ p.2.f < h.fl.length
  free : ∀ x ∈ freeP h.fl h.s.cs, 0 ≤ x
  shut : (freeP h.fl h.s.cs).sum = 0 → h.s.sh = true
  nr : h.s.rows.length ≤ k
  ng : h.gone.length ≤ k
  nc : h.s.cs.length ≤ k
  la : 0 ≤ h.s.la
  lb : h.s.la ≤ 100000 * k
def NoNm (h : Hs) : Prop := ∀ p ∈ h.s.cs, p.2.nm = .non
/-! ### what a dict is -/
theorem setC_get {cs : Cars} (hp : cs.Pairwise fun a b => a.1 < b.1) {t : Int} {c c' : Car} (h : getC cs t = some c) : setC cs t c' = cs.map fun p => if p.1 = t then (p.1, c') else p := by
  unfold setC
  have : (cs.any fun p => decide (p.1 = t)) = true := List.any_eq_true.mpr ⟨_, getC_in h, by simp⟩
  rw [if_pos this]
theorem setC_new {cs : Cars} {t : Int} {c' : Car} (h : ∀ p ∈ cs, p.1 < t) : setC cs t c' = cs ++ [(t, c')] := by
  unfold setC
  have : ¬ (cs.any fun p => decide (p.1 = t)) = true := fun z => by
    obtain ⟨p, h1, h2⟩ := List.any_eq_true.mp z
    have := h p h1
    simp at h2
    omega
  rw [if_neg this]
theorem srt_map {cs : Cars} (hp : cs.Pairwise fun a b => a.1 < b.1) {t : Int} {c' : Car} : (cs.map fun p => if p.1 = t then (p.1, c') else p).Pairwise fun a b => a.1 < b.1 := by
  rw [List.pairwise_map]
  refine hp.imp fun {a b} hab => ?_
  have e : ∀ p : Int × Car, (if p.1 = t then (p.1, c') else p).1 = p.1 := fun p => by split <;> rfl
  rw [e, e]
  exact hab
theorem srt_new {cs : Cars} (hp : cs.Pairwise fun a b => a.1 < b.1) {t : Int} {c' : Car} (h : ∀ p ∈ cs, p.1 < t) : (cs ++ [(t, c')]).Pairwise fun a b => a.1 < b.1 := by
  rw [List.pairwise_append]
  refine ⟨hp, List.pairwise_singleton _ _, fun a ha b hb => ?_⟩
  obtain rfl := List.mem_singleton.mp hb
  exact h a ha
theorem setC_srt {cs : Cars} (hp : cs.Pairwise fun a b => a.1 < b.1) {t : Int} {c c' : Car} (h : getC cs t = some c) : (setC cs t c').Pairwise fun a b => a.1 < b.1 := by
  rw [setC_get hp h]
  exact srt_map hp
theorem setK_new {α : Type} {acc : List (Key × α)} {k : Key} {v : α} (h : ∀ p ∈ acc, p.1 ≠ k) : setK acc k v = acc ++ [(k, v)] := by
  unfold setK
  have : ¬ (acc.any fun kv => decide (kv.1 = k)) = true := fun z => by
    obtain ⟨p, h1, h2⟩ := List.any_eq_true.mp z
    simp at h2
    exact h p h1 h2
  rw [if_neg this]
theorem fold_set {α : Type} : ∀ (kvs acc : List (Key × α)), ((acc ++ kvs).map (·.1)).Nodup → kvs.foldl (fun acc kv => setK acc kv.1 kv.2) acc = acc ++ kvs
  | [], acc, _ => by simp
  | (k, v) :: kvs, acc, h => by
    rw [List.foldl_cons, setK_new (fun p hp e => by
      rw [List.map_append, List.map_cons, List.nodup_append] at h
      exact h.2.2 p.1 (List.mem_map.mpr ⟨p, hp, rfl⟩) k List.mem_cons_self e), fold_set kvs (acc ++ [(k, v)]) (by rw [List.append_assoc]; exact h), List.append_assoc]
    rfl
theorem asKvs_dC : ∀ (cs : Cars), asKvs (cs.map fun p => .tup [.int p.1, insC p.2]) = some (cs.map fun p => (.inl p.1, insC p.2))
  | [] => rfl
  | p :: cs => by
    rw [List.map_cons]
    show (some (.inl p.1 : Key)).bind (fun k => (asKvs (cs.map fun p => .tup [.int p.1, insC p.2])).map ((k, insC p.2) :: ·)) = _
    rw [asKvs_dC cs]
    rfl
theorem nodup_dC {cs : Cars} (hp : cs.Pairwise fun a b => a.1 < b.1) : ((cs.map fun p => ((.inl p.1 : Key), insC p.2)).map (·.1)).Nodup := by
  rw [List.map_map, List.Nodup, List.pairwise_map]
  refine hp.imp fun {a b} hab e => ?_
  have := Sum.inl.inj e
  omega
theorem dict_dC {cs : Cars} (hp : cs.Pairwise fun a b => a.1 < b.1) : biD .dict [.lst (cs.map fun p => .tup [.int p.1, insC p.2])] = some (dC cs) := by
  show (asKvs _).map _ = _
  rw [asKvs_dC, Option.map_some, fold_set _ [] (by rw [List.nil_append]; exact nodup_dC hp), List.nil_append]
  rfl
theorem dict_cp {cs : Cars} : biD .dict [dC cs] = some (dC cs) := rfl
theorem ow_D {cs : Cars} : ownIf (dC cs) = .own (dC cs) := rfl
theorem fz1 {r : Env} {i : Nat} {d : D} (h : slot r i = .own d) : freeze r [i] = r.set i (.val d) := by
  show (match slot r i with
    | .own d => r.set i (.val d)
    | _ => r) = _
  rw [h]
theorem setC_len {cs : Cars} {t : Int} {c : Car} : (setC cs t c).length ≤ cs.length + 1 := by
  unfold setC
  split
  · rw [List.length_map]; omega
  · rw [List.length_append]; exact Nat.le_refl _
theorem frz_s {s : Sl} {r : Env} {i : Nat} : True := trivial
theorem r_enter {k : Nat} (hm : m[b]? = some (false, insH h)) (g : GoodH k h) (hk : k ≤ 1000) (hs : h.s.sh = false) (mo : Int) (w : Str) (nm : D) (n : Nat) : Phi T (n + 4) "House.enter" [.box b, .int mo, .str w, nm] m = .ok (.tup [.int (cntR h.s.rows), .int (bestI (freeP h.fl h.s.cs))]) (m.set b (false, insH (enterP h mo w nm))) := by
  have gnr := g.nr
  have gng := g.ng
  have gnc := g.nc
  have ne : freeP h.fl h.s.cs ≠ [] := by
    unfold freeP
    intro e
    have := congrArg List.length e
    simp at this
    exact g.fne this
  have mp : 0 < mxI (freeP h.fl h.s.cs) := by
    rcases Int.lt_or_le 0 (mxI (freeP h.fl h.s.cs)) with z | z
    · exact z
    · exfalso
      have all0 : ∀ x ∈ freeP h.fl h.s.cs, x = 0 := fun x hx => by
        have := (mxI_mem ne).2 x hx
        have := g.free x hx
        omega
      have : (freeP h.fl h.s.cs).sum = 0 := by
        generalize freeP h.fl h.s.cs = l at all0
        induction l with
        | nil => rfl
        | cons x l ih =>
          rw [List.sum_cons, all0 x List.mem_cons_self, ih fun y hy => all0 y (List.mem_cons_of_mem _ hy)]
          rfl
      have := g.shut this
      rw [hs] at this
      cases this
  rw [phi_run (show T "House.enter" = some fd_House_enter from rfl) rfl rfl]
  have hnew : ∀ p ∈ h.s.cs, p.1 < cntR h.s.rows := fun p hp => (g.key p hp).2
  have f := r_freeBy hm g.srt (n + 2)
  have be := r_bestof (m := m) ne mp (n + 2)
  have gi := r_given hm (n + 2)
  have nw := r_car (m := m) (mo := mo) (fl := bestI (freeP h.fl h.s.cs)) (pd := 0) (qu := -1) (nm := nm) (n + 1)
  have sd := set_dC (cs := h.s.cs) (t := cntR h.s.rows) (c := ⟨mo, bestI (freeP h.fl h.s.cs), 0, -1, nm⟩) (by omega)
  have mv := r_moved hm (cs := setC h.s.cs (cntR h.s.rows) ⟨mo, bestI (freeP h.fl h.s.cs), 0, -1, nm⟩) (by rw [setC_new hnew]; exact srt_new g.srt hnew) (by omega) mo ⟨mo, w, cntR h.s.rows, bestI (freeP h.fl h.s.cs)⟩ n
  have mv' : Phi T (n + 3) "House.moved" [.box b, .int mo, dC (setC h.s.cs (cntR h.s.rows) ⟨mo, bestI (freeP h.fl h.s.cs), 0, -1, nm⟩), .tup [.int mo, .str w, .int (cntR h.s.rows), .int (bestI (freeP h.fl h.s.cs))]] m = _ := mv
  have tn := r_turn hm (by omega) w (movedP h mo (setC h.s.cs (cntR h.s.rows) ⟨mo, bestI (freeP h.fl h.s.cs), 0, -1, nm⟩) ⟨mo, w, cntR h.s.rows, bestI (freeP h.fl h.s.cs)⟩) (n + 2)
  have tn' : Phi T (n + 3) "House.turn_to" _ m = .ok .non (m.set b (false, insH (enterP h mo w nm))) := tn
  obtain ⟨Z, hZ⟩ : ∃ Z, Z = setC h.s.cs (cntR h.s.rows) ⟨mo, bestI (freeP h.fl h.s.cs), 0, -1, nm⟩ := ⟨_, rfl⟩
  rw [← hZ] at sd mv' tn'
  have ng : negD (.int 1) = some (.int (-1)) := rfl
  have cg := fun (r : Env) => chgS_own (r := r) (m := m) (i := 6) sd
  simp only [fd_House_enter, lk_box hm, fh_he, fs_sh, hs, fs_cs, mh_free_by, f, be, mh_tickets_given, gi, dict_cp, ow_D, ng, nw, cg, lk_i, lk_l, lk_t, lk_b, lk_n, lk_s, lk_C, lk_S, lk_D, lk_H, lk_T, lk_R, plc_f, plc_i, chg_bx, chgS_val, e_v, e_b, e_c, e_bin, e_neg, e_not, e_and, e_or, e_ife, e_cmp, e_ch2, e_tup, e_lst, e_idx, e_sl, e_call, e_bi, e_isi, e_bm, e_fld, e_rev, e_new, e_meth, e_box, e_isx, es_nil, es_cons, ec_nil, ec_cons, bind_ok, on_ok, then_nx, then_rt, then_exc, bind_exc, on_exc, up_some, tst_bl, mapMu_ok, calm_ok, lkOf_nil, lock_no, unlock_no, s_asg, s_asgO, s_unp, s_par, s_app, s_ext, s_seti, s_setf, s_raise, s_try, s_expr, s_ret, s_ife, s_for, s_whl, s_fz, s_pass, ss_nil, ss_cons, slot_0, slot_s, plc_b, chg_sl, rdV_val, rdB_val, rdB_own, endR_rt, endR_nx, endR_exc, List.map_cons, List.map_nil, List.cons_append, List.nil_append, List.replicate, List.set_cons_zero, List.set_cons_succ, look_nil, Bool.not_true, Bool.not_false, if_true, if_false, Bool.false_eq_true, reduceIte, List.length_cons, List.length_nil, Nat.reduceAdd, Nat.reduceSub, wipeE, List.foldl_cons, List.foldl_nil, Option.map_some, bi_mulA, bi_mulB, bi_fdv, bi_modI, bi_dvm, bi_rlen, kd_ix, bi_sumT, bi_mx2, bi_mn2, bi_intB, bi_lstT, bi_lstL, bi_sumI, is_nI, is_nN, isn_I, isn_N, eq_IN, eq_NI, eq_NN, ne_IN, ne_NI, ne_NN, eq_BB, ne_BB, neg_I, is_L, ow_L, it1_0, il1_0, it2_0, il2_0, it2_1, il2_1, it3_0, il3_0, it3_1, il3_1, it3_2, il3_2, it4_0, il4_0, it4_1, il4_1, it4_2, il4_2, it4_3, il4_3, it5_0, il5_0, it5_1, il5_1, it5_2, il5_2, it5_3, il5_3, it5_4, il5_4, un2, bt2, un3, bt3, un4, bt4, un5, bt5, bt1, stF, srcL, srcT, srcFL, srcFT, app_L, ext_L, add_L, add_T, bi_addI, bi_subI, bi_ltI, bi_leI, bi_gtI, bi_geI, bi_eqI, bi_neI, bi_is, bi_isnot, bi_tupL]
  rw [fz1 (d := dC Z) rfl]
  simp only [lk_box hm, mh_turn_to, mh_moved, mv', tn', lk_i, lk_l, lk_t, lk_b, lk_n, lk_s, lk_C, lk_S, lk_D, lk_H, lk_T, lk_R, plc_f, plc_i, chg_bx, chgS_val, e_v, e_b, e_c, e_bin, e_neg, e_not, e_and, e_or, e_ife, e_cmp, e_ch2, e_tup, e_lst, e_idx, e_sl, e_call, e_bi, e_isi, e_bm, e_fld, e_rev, e_new, e_meth, e_box, e_isx, es_nil, es_cons, ec_nil, ec_cons, bind_ok, on_ok, then_nx, then_rt, then_exc, bind_exc, on_exc, up_some, tst_bl, mapMu_ok, calm_ok, lkOf_nil, lock_no, unlock_no, s_asg, s_asgO, s_unp, s_par, s_app, s_ext, s_seti, s_setf, s_raise, s_try, s_expr, s_ret, s_ife, s_for, s_whl, s_fz, s_pass, ss_nil, ss_cons, slot_0, slot_s, plc_b, chg_sl, rdV_val, rdB_val, rdB_own, endR_rt, endR_nx, endR_exc, List.map_cons, List.map_nil, List.cons_append, List.nil_append, List.replicate, List.set_cons_zero, List.set_cons_succ, look_nil, Bool.not_true, Bool.not_false, if_true, if_false, Bool.false_eq_true, reduceIte, List.length_cons, List.length_nil, Nat.reduceAdd, Nat.reduceSub, wipeE, List.foldl_cons, List.foldl_nil, Option.map_some, bi_mulA, bi_mulB, bi_fdv, bi_modI, bi_dvm, bi_rlen, kd_ix, bi_sumT, bi_mx2, bi_mn2, bi_intB, bi_lstT, bi_lstL, bi_sumI, is_nI, is_nN, isn_I, isn_N, eq_IN, eq_NI, eq_NN, ne_IN, ne_NI, ne_NN, eq_BB, ne_BB, neg_I, is_L, ow_L, it1_0, il1_0, it2_0, il2_0, it2_1, il2_1, it3_0, il3_0, it3_1, il3_1, it3_2, il3_2, it4_0, il4_0, it4_1, il4_1, it4_2, il4_2, it4_3, il4_3, it5_0, il5_0, it5_1, il5_1, it5_2, il5_2, it5_3, il5_3, it5_4, il5_4, un2, bt2, un3, bt3, un4, bt4, un5, bt5, bt1, stF, srcL, srcT, srcFL, srcFT, app_L, ext_L, add_L, add_T, bi_addI, bi_subI, bi_ltI, bi_leI, bi_gtI, bi_geI, bi_eqI, bi_neI, bi_is, bi_isnot, bi_tupL]
theorem r_enter0 (hm : m[b]? = some (false, insH h)) (hs : h.s.sh = true) (mo : Int) (w : Str) (nm : D) (n : Nat) : Phi T (n + 1) "House.enter" [.box b, .int mo, .str w, nm] m = .exc "Shut" m := by
  rw [phi_run (show T "House.enter" = some fd_House_enter from rfl) rfl rfl]
  simp only [fd_House_enter, lk_box hm, fh_he, fs_sh, hs, lk_i, lk_l, lk_t, lk_b, lk_n, lk_s, lk_C, lk_S, lk_D, lk_H, lk_T, lk_R, plc_f, plc_i, chg_bx, chgS_val, e_v, e_b, e_c, e_bin, e_neg, e_not, e_and, e_or, e_ife, e_cmp, e_ch2, e_tup, e_lst, e_idx, e_sl, e_call, e_bi, e_isi, e_bm, e_fld, e_rev, e_new, e_meth, e_box, e_isx, es_nil, es_cons, ec_nil, ec_cons, bind_ok, on_ok, then_nx, then_rt, then_exc, bind_exc, on_exc, up_some, tst_bl, mapMu_ok, calm_ok, lkOf_nil, lock_no, unlock_no, s_asg, s_asgO, s_unp, s_par, s_app, s_ext, s_seti, s_setf, s_raise, s_try, s_expr, s_ret, s_ife, s_for, s_whl, s_fz, s_pass, ss_nil, ss_cons, slot_0, slot_s, plc_b, chg_sl, rdV_val, rdB_val, rdB_own, endR_rt, endR_nx, endR_exc, List.map_cons, List.map_nil, List.cons_append, List.nil_append, List.replicate, List.set_cons_zero, List.set_cons_succ, look_nil, Bool.not_true, Bool.not_false, if_true, if_false, Bool.false_eq_true, reduceIte, List.length_cons, List.length_nil, Nat.reduceAdd, Nat.reduceSub, wipeE, List.foldl_cons, List.foldl_nil, Option.map_some, bi_mulA, bi_mulB, bi_fdv, bi_modI, bi_dvm, bi_rlen, kd_ix, bi_sumT, bi_mx2, bi_mn2, bi_intB, bi_lstT, bi_lstL, bi_sumI, is_nI, is_nN, isn_I, isn_N, eq_IN, eq_NI, eq_NN, ne_IN, ne_NI, ne_NN, eq_BB, ne_BB, neg_I, is_L, ow_L, it1_0, il1_0, it2_0, il2_0, it2_1, il2_1, it3_0, il3_0, it3_1, il3_1, it3_2, il3_2, it4_0, il4_0, it4_1, il4_1, it4_2, il4_2, it4_3, il4_3, it5_0, il5_0, it5_1, il5_1, it5_2, il5_2, it5_3, il5_3, it5_4, il5_4, un2, bt2, un3, bt3, un4, bt4, un5, bt5, bt1, stF, srcL, srcT, srcFL, srcFT, app_L, ext_L, add_L, add_T, bi_addI, bi_subI, bi_ltI, bi_leI, bi_gtI, bi_geI, bi_eqI, bi_neI, bi_is, bi_isnot, bi_tupL]
def comeP (h : Hs) (mo : Int) : Hs := enterP h mo (S "come") .non
theorem r_come {k : Nat} (hm : m[b]? = some (false, insH h)) (g : GoodH k h) (hk : k ≤ 1000) (hs : h.s.sh = false) {mo : Int} (hmo : h.s.la ≤ mo) (n : Nat) : Phi T (n + 5) "House.come" [.box b, .int mo] m = .ok (.tup [.int (cntR h.s.rows), .int (bestI (freeP h.fl h.s.cs))]) (m.set b (false, insH (comeP h mo))) := by
  rw [phi_run (show T "House.come" = some fd_House_come from rfl) rfl rfl]
  have w1 := r_time1 hm hmo (n + 3)
  have w2 := r_enter hm g hk hs mo (S "come") .non n
  simp only [fd_House_come, lk_box hm, mh_need_time, w1, mh_enter, w2, lk_i, lk_l, lk_t, lk_b, lk_n, lk_s, lk_C, lk_S, lk_D, lk_H, lk_T, lk_R, plc_f, plc_i, chg_bx, chgS_val, e_v, e_b, e_c, e_bin, e_neg, e_not, e_and, e_or, e_ife, e_cmp, e_ch2, e_tup, e_lst, e_idx, e_sl, e_call, e_bi, e_isi, e_bm, e_fld, e_rev, e_new, e_meth, e_box, e_isx, es_nil, es_cons, ec_nil, ec_cons, bind_ok, on_ok, then_nx, then_rt, then_exc, bind_exc, on_exc, up_some, tst_bl, mapMu_ok, calm_ok, lkOf_nil, lock_no, unlock_no, s_asg, s_asgO, s_unp, s_par, s_app, s_ext, s_seti, s_setf, s_raise, s_try, s_expr, s_ret, s_ife, s_for, s_whl, s_fz, s_pass, ss_nil, ss_cons, slot_0, slot_s, plc_b, chg_sl, rdV_val, rdB_val, rdB_own, endR_rt, endR_nx, endR_exc, List.map_cons, List.map_nil, List.cons_append, List.nil_append, List.replicate, List.set_cons_zero, List.set_cons_succ, look_nil, Bool.not_true, Bool.not_false, if_true, if_false, Bool.false_eq_true, reduceIte, List.length_cons, List.length_nil, Nat.reduceAdd, Nat.reduceSub, wipeE, List.foldl_cons, List.foldl_nil, Option.map_some, bi_mulA, bi_mulB, bi_fdv, bi_modI, bi_dvm, bi_rlen, kd_ix, bi_sumT, bi_mx2, bi_mn2, bi_intB, bi_lstT, bi_lstL, bi_sumI, is_nI, is_nN, isn_I, isn_N, eq_IN, eq_NI, eq_NN, ne_IN, ne_NI, ne_NN, eq_BB, ne_BB, neg_I, is_L, ow_L, it1_0, il1_0, it2_0, il2_0, it2_1, il2_1, it3_0, il3_0, it3_1, il3_1, it3_2, il3_2, it4_0, il4_0, it4_1, il4_1, it4_2, il4_2, it4_3, il4_3, it5_0, il5_0, it5_1, il5_1, it5_2, il5_2, it5_3, il5_3, it5_4, il5_4, un2, bt2, un3, bt3, un4, bt4, un5, bt5, bt1, stF, srcL, srcT, srcFL, srcFT, app_L, ext_L, add_L, add_T, bi_addI, bi_subI, bi_ltI, bi_leI, bi_gtI, bi_geI, bi_eqI, bi_neI, bi_is, bi_isnot, bi_tupL]
  rfl
theorem r_come0 (hm : m[b]? = some (false, insH h)) {mo : Int} (hmo : mo < h.s.la) (n : Nat) : Phi T (n + 2) "House.come" [.box b, .int mo] m = .exc "NoTime" m := by
  rw [phi_run (show T "House.come" = some fd_House_come from rfl) rfl rfl]
  have w1 := r_time0 hm hmo n
  simp only [fd_House_come, lk_box hm, mh_need_time, w1, lk_i, lk_l, lk_t, lk_b, lk_n, lk_s, lk_C, lk_S, lk_D, lk_H, lk_T, lk_R, plc_f, plc_i, chg_bx, chgS_val, e_v, e_b, e_c, e_bin, e_neg, e_not, e_and, e_or, e_ife, e_cmp, e_ch2, e_tup, e_lst, e_idx, e_sl, e_call, e_bi, e_isi, e_bm, e_fld, e_rev, e_new, e_meth, e_box, e_isx, es_nil, es_cons, ec_nil, ec_cons, bind_ok, on_ok, then_nx, then_rt, then_exc, bind_exc, on_exc, up_some, tst_bl, mapMu_ok, calm_ok, lkOf_nil, lock_no, unlock_no, s_asg, s_asgO, s_unp, s_par, s_app, s_ext, s_seti, s_setf, s_raise, s_try, s_expr, s_ret, s_ife, s_for, s_whl, s_fz, s_pass, ss_nil, ss_cons, slot_0, slot_s, plc_b, chg_sl, rdV_val, rdB_val, rdB_own, endR_rt, endR_nx, endR_exc, List.map_cons, List.map_nil, List.cons_append, List.nil_append, List.replicate, List.set_cons_zero, List.set_cons_succ, look_nil, Bool.not_true, Bool.not_false, if_true, if_false, Bool.false_eq_true, reduceIte, List.length_cons, List.length_nil, Nat.reduceAdd, Nat.reduceSub, wipeE, List.foldl_cons, List.foldl_nil, Option.map_some, bi_mulA, bi_mulB, bi_fdv, bi_modI, bi_dvm, bi_rlen, kd_ix, bi_sumT, bi_mx2, bi_mn2, bi_intB, bi_lstT, bi_lstL, bi_sumI, is_nI, is_nN, isn_I, isn_N, eq_IN, eq_NI, eq_NN, ne_IN, ne_NI, ne_NN, eq_BB, ne_BB, neg_I, is_L, ow_L, it1_0, il1_0, it2_0, il2_0, it2_1, il2_1, it3_0, il3_0, it3_1, il3_1, it3_2, il3_2, it4_0, il4_0, it4_1, il4_1, it4_2, il4_2, it4_3, il4_3, it5_0, il5_0, it5_1, il5_1, it5_2, il5_2, it5_3, il5_3, it5_4, il5_4, un2, bt2, un3, bt3, un4, bt4, un5, bt5, bt1, stF, srcL, srcT, srcFL, srcFT, app_L, ext_L, add_L, add_T, bi_addI, bi_subI, bi_ltI, bi_leI, bi_gtI, bi_geI, bi_eqI, bi_neI, bi_is, bi_isnot, bi_tupL]
theorem r_come1 (hm : m[b]? = some (false, insH h)) (hs : h.s.sh = true) {mo : Int} (hmo : h.s.la ≤ mo) (n : Nat) : Phi T (n + 2) "House.come" [.box b, .int mo] m = .exc "Shut" m := by
  rw [phi_run (show T "House.come" = some fd_House_come from rfl) rfl rfl]
  have w1 := r_time1 hm hmo n
  have w2 := r_enter0 hm hs mo (S "come") .non n
  simp only [fd_House_come, lk_box hm, mh_need_time, w1, mh_enter, w2, lk_i, lk_l, lk_t, lk_b, lk_n, lk_s, lk_C, lk_S, lk_D, lk_H, lk_T, lk_R, plc_f, plc_i, chg_bx, chgS_val, e_v, e_b, e_c, e_bin, e_neg, e_not, e_and, e_or, e_ife, e_cmp, e_ch2, e_tup, e_lst, e_idx, e_sl, e_call, e_bi, e_isi, e_bm, e_fld, e_rev, e_new, e_meth, e_box, e_isx, es_nil, es_cons, ec_nil, ec_cons, bind_ok, on_ok, then_nx, then_rt, then_exc, bind_exc, on_exc, up_some, tst_bl, mapMu_ok, calm_ok, lkOf_nil, lock_no, unlock_no, s_asg, s_asgO, s_unp, s_par, s_app, s_ext, s_seti, s_setf, s_raise, s_try, s_expr, s_ret, s_ife, s_for, s_whl, s_fz, s_pass, ss_nil, ss_cons, slot_0, slot_s, plc_b, chg_sl, rdV_val, rdB_val, rdB_own, endR_rt, endR_nx, endR_exc, List.map_cons, List.map_nil, List.cons_append, List.nil_append, List.replicate, List.set_cons_zero, List.set_cons_succ, look_nil, Bool.not_true, Bool.not_false, if_true, if_false, Bool.false_eq_true, reduceIte, List.length_cons, List.length_nil, Nat.reduceAdd, Nat.reduceSub, wipeE, List.foldl_cons, List.foldl_nil, Option.map_some, bi_mulA, bi_mulB, bi_fdv, bi_modI, bi_dvm, bi_rlen, kd_ix, bi_sumT, bi_mx2, bi_mn2, bi_intB, bi_lstT, bi_lstL, bi_sumI, is_nI, is_nN, isn_I, isn_N, eq_IN, eq_NI, eq_NN, ne_IN, ne_NI, ne_NN, eq_BB, ne_BB, neg_I, is_L, ow_L, it1_0, il1_0, it2_0, il2_0, it2_1, il2_1, it3_0, il3_0, it3_1, il3_1, it3_2, il3_2, it4_0, il4_0, it4_1, il4_1, it4_2, il4_2, it4_3, il4_3, it5_0, il5_0, it5_1, il5_1, it5_2, il5_2, it5_3, il5_3, it5_4, il5_4, un2, bt2, un3, bt3, un4, bt4, un5, bt5, bt1, stF, srcL, srcT, srcFL, srcFT, app_L, ext_L, add_L, add_T, bi_addI, bi_subI, bi_ltI, bi_leI, bi_gtI, bi_geI, bi_eqI, bi_neI, bi_is, bi_isnot, bi_tupL]
end

def newP (fl : List Int) (tf : Tar) (gr ag : Int) : Hs := ⟨fl, tf, gr, ag, ⟨0, [], [], false, []⟩, [], []⟩
theorem e_dict0 {F : Fn} {r : Env} {m : Mu} : ev F (.dict [] []) r m = .ok (.dic []) m := by rw [ev, evs]; rfl
theorem r_house {fl : List Int} {tf : Tar} {gr ag : Int} {m : Mu} (n : Nat) : Phi T (n + 4) "House" [.tup (fl.map .int), encT tf, .int gr, .int ag] m = .ok (insH (newP fl tf gr ag)) m := by
  rw [phi_ini (show T "House" = some fd_House from rfl) rfl rfl]
  have st : Phi T (n + 2) "State" [.int 0, .dic [], .dic [], .bl false, .tup []] m = .ok (insS ⟨0, [], [], false, []⟩) m := r_state (m := m) (mo := 0) (cs := []) (nms := []) (sh := false) (rows := []) n
  simp only [fd_House, fldsOf, iniF, e_dict0, st, e_v, e_b, e_c, e_bin, e_neg, e_not, e_and, e_or, e_ife, e_cmp, e_ch2, e_tup, e_lst, e_idx, e_sl, e_call, e_bi, e_isi, e_bm, e_fld, e_rev, e_new, e_meth, e_box, e_isx, es_nil, es_cons, ec_nil, ec_cons, bind_ok, on_ok, then_nx, then_rt, then_exc, bind_exc, on_exc, up_some, tst_bl, mapMu_ok, calm_ok, lkOf_nil, lock_no, unlock_no, s_asg, s_asgO, s_unp, s_par, s_app, s_ext, s_seti, s_setf, s_raise, s_try, s_expr, s_ret, s_ife, s_for, s_whl, s_fz, s_pass, ss_nil, ss_cons, slot_0, slot_s, plc_b, chg_sl, rdV_val, rdB_val, rdB_own, endR_rt, endR_nx, endR_exc, List.map_cons, List.map_nil, List.cons_append, List.nil_append, List.replicate, List.set_cons_zero, List.set_cons_succ, look_nil, Bool.not_true, Bool.not_false, if_true, if_false, Bool.false_eq_true, reduceIte, List.length_cons, List.length_nil, Nat.reduceAdd, Nat.reduceSub, wipeE, List.foldl_cons, List.foldl_nil, Option.map_some, bi_mulA, bi_mulB, bi_fdv, bi_modI, bi_dvm, bi_rlen, kd_ix, bi_sumT, bi_mx2, bi_mn2, bi_intB, bi_lstT, bi_lstL, bi_sumI, is_nI, is_nN, isn_I, isn_N, eq_IN, eq_NI, eq_NN, ne_IN, ne_NI, ne_NN, eq_BB, ne_BB, neg_I, is_L, ow_L, it1_0, il1_0, it2_0, il2_0, it2_1, il2_1, it3_0, il3_0, it3_1, il3_1, it3_2, il3_2, it4_0, il4_0, it4_1, il4_1, it4_2, il4_2, it4_3, il4_3, it5_0, il5_0, it5_1, il5_1, it5_2, il5_2, it5_3, il5_3, it5_4, il5_4, un2, bt2, un3, bt3, un4, bt4, un5, bt5, bt1, stF, srcL, srcT, srcFL, srcFT, app_L, ext_L, add_L, add_T, bi_addI, bi_subI, bi_ltI, bi_leI, bi_gtI, bi_geI, bi_eqI, bi_neI, bi_is, bi_isnot, bi_tupL]
  rfl

section
variable {m : Mu} {b : Nat} {h : Hs}
/-! ### pay, shift, leave -/
theorem r_pay_no {c : Car} {t mo : Int} {a : D} (hm : m[b]? = some (false, insH h)) {n : Nat} (hdu : Phi T (n + 1) "House.due" [.box b, .int t, .int mo] m = .ok (.int (dueP h c mo)) m) (hw : Phi T (n + 1) "is_whole" [a, .int 1, .int (dueP h c mo)] m = .ok (.bl false) m) : Phi T (n + 2) "House.pay" [.box b, .int t, .int mo, a] m = .exc "NoSum" m := by
  rw [phi_run (show T "House.pay" = some fd_House_pay from rfl) rfl rfl]
  simp only [fd_House_pay, lk_box hm, mh_due, hdu, hw, lk_i, lk_l, lk_t, lk_b, lk_n, lk_s, lk_C, lk_S, lk_D, lk_H, lk_T, lk_R, plc_f, plc_i, chg_bx, chgS_val, e_v, e_b, e_c, e_bin, e_neg, e_not, e_and, e_or, e_ife, e_cmp, e_ch2, e_tup, e_lst, e_idx, e_sl, e_call, e_bi, e_isi, e_bm, e_fld, e_rev, e_new, e_meth, e_box, e_isx, es_nil, es_cons, ec_nil, ec_cons, bind_ok, on_ok, then_nx, then_rt, then_exc, bind_exc, on_exc, up_some, tst_bl, mapMu_ok, calm_ok, lkOf_nil, lock_no, unlock_no, s_asg, s_asgO, s_unp, s_par, s_app, s_ext, s_seti, s_setf, s_raise, s_try, s_expr, s_ret, s_ife, s_for, s_whl, s_fz, s_pass, ss_nil, ss_cons, slot_0, slot_s, plc_b, chg_sl, rdV_val, rdB_val, rdB_own, endR_rt, endR_nx, endR_exc, List.map_cons, List.map_nil, List.cons_append, List.nil_append, List.replicate, List.set_cons_zero, List.set_cons_succ, look_nil, Bool.not_true, Bool.not_false, if_true, if_false, Bool.false_eq_true, reduceIte, List.length_cons, List.length_nil, Nat.reduceAdd, Nat.reduceSub, wipeE, List.foldl_cons, List.foldl_nil, Option.map_some, bi_mulA, bi_mulB, bi_fdv, bi_modI, bi_dvm, bi_rlen, kd_ix, bi_sumT, bi_mx2, bi_mn2, bi_intB, bi_lstT, bi_lstL, bi_sumI, is_nI, is_nN, isn_I, isn_N, eq_IN, eq_NI, eq_NN, ne_IN, ne_NI, ne_NN, eq_BB, ne_BB, neg_I, is_L, ow_L, it1_0, il1_0, it2_0, il2_0, it2_1, il2_1, it3_0, il3_0, it3_1, il3_1, it3_2, il3_2, it4_0, il4_0, it4_1, il4_1, it4_2, il4_2, it4_3, il4_3, it5_0, il5_0, it5_1, il5_1, it5_2, il5_2, it5_3, il5_3, it5_4, il5_4, un2, bt2, un3, bt3, un4, bt4, un5, bt5, bt1, stF, srcL, srcT, srcFL, srcFT, app_L, ext_L, add_L, add_T, bi_addI, bi_subI, bi_ltI, bi_leI, bi_gtI, bi_geI, bi_eqI, bi_neI, bi_is, bi_isnot, bi_tupL]
theorem r_pay_ex {t mo : Int} {a : D} {e : String} (hm : m[b]? = some (false, insH h)) {n : Nat} (hdu : Phi T (n + 1) "House.due" [.box b, .int t, .int mo] m = .exc e m) : Phi T (n + 2) "House.pay" [.box b, .int t, .int mo, a] m = .exc e m := by
  rw [phi_run (show T "House.pay" = some fd_House_pay from rfl) rfl rfl]
  simp only [fd_House_pay, lk_box hm, mh_due, hdu, lk_i, lk_l, lk_t, lk_b, lk_n, lk_s, lk_C, lk_S, lk_D, lk_H, lk_T, lk_R, plc_f, plc_i, chg_bx, chgS_val, e_v, e_b, e_c, e_bin, e_neg, e_not, e_and, e_or, e_ife, e_cmp, e_ch2, e_tup, e_lst, e_idx, e_sl, e_call, e_bi, e_isi, e_bm, e_fld, e_rev, e_new, e_meth, e_box, e_isx, es_nil, es_cons, ec_nil, ec_cons, bind_ok, on_ok, then_nx, then_rt, then_exc, bind_exc, on_exc, up_some, tst_bl, mapMu_ok, calm_ok, lkOf_nil, lock_no, unlock_no, s_asg, s_asgO, s_unp, s_par, s_app, s_ext, s_seti, s_setf, s_raise, s_try, s_expr, s_ret, s_ife, s_for, s_whl, s_fz, s_pass, ss_nil, ss_cons, slot_0, slot_s, plc_b, chg_sl, rdV_val, rdB_val, rdB_own, endR_rt, endR_nx, endR_exc, List.map_cons, List.map_nil, List.cons_append, List.nil_append, List.replicate, List.set_cons_zero, List.set_cons_succ, look_nil, Bool.not_true, Bool.not_false, if_true, if_false, Bool.false_eq_true, reduceIte, List.length_cons, List.length_nil, Nat.reduceAdd, Nat.reduceSub, wipeE, List.foldl_cons, List.foldl_nil, Option.map_some, bi_mulA, bi_mulB, bi_fdv, bi_modI, bi_dvm, bi_rlen, kd_ix, bi_sumT, bi_mx2, bi_mn2, bi_intB, bi_lstT, bi_lstL, bi_sumI, is_nI, is_nN, isn_I, isn_N, eq_IN, eq_NI, eq_NN, ne_IN, ne_NI, ne_NN, eq_BB, ne_BB, neg_I, is_L, ow_L, it1_0, il1_0, it2_0, il2_0, it2_1, il2_1, it3_0, il3_0, it3_1, il3_1, it3_2, il3_2, it4_0, il4_0, it4_1, il4_1, it4_2, il4_2, it4_3, il4_3, it5_0, il5_0, it5_1, il5_1, it5_2, il5_2, it5_3, il5_3, it5_4, il5_4, un2, bt2, un3, bt3, un4, bt4, un5, bt5, bt1, stF, srcL, srcT, srcFL, srcFT, app_L, ext_L, add_L, add_T, bi_addI, bi_subI, bi_ltI, bi_leI, bi_gtI, bi_geI, bi_eqI, bi_neI, bi_is, bi_isnot, bi_tupL]
theorem r_pay {k : Nat} (hm : m[b]? = some (false, insH h)) (g : GoodH k h) (hk : k ≤ 1000) {t : Int} {c : Car} (ht : getC h.s.cs t = some c) (hn : c.nm = .non) {mo : Int} (hmo : h.s.la ≤ mo) (hmx : mo ≤ 1000000000) {a : Int} (h1 : 1 ≤ a) (h2 : a ≤ dueP h c mo) (n : Nat) : Phi T (n + 5) "House.pay" [.box b, .int t, .int mo, .int a] m = .ok (.int (dueP h c mo - a)) (m.set b (false, insH (payP h t c mo a))) := by
  have gnr := g.nr
  have gng := g.ng
  have gnc := g.nc
  have gc := g.car _ (getC_in ht)
  rw [phi_run (show T "House.pay" = some fd_House_pay from rfl) rfl rfl]
  have du := r_due hm g.gt ht hn hmo (by show c.c ≤ mo; have := gc.2.1; dsimp only at this; omega) (by have := gc.1; dsimp only at this; omega) n
  have wh := r_wholeI (m := m) (i := a) (lo := 1) (hi := dueP h c mo) (n + 3)
  rw [decY h1, decY h2] at wh
  have ix := idx_dC ht
  obtain ⟨q, hq⟩ : ∃ q, q = (if a = dueP h c mo then mo + h.gr else c.q) := ⟨_, rfl⟩
  have qe : (ev (Phi T (n + 4)) (.ife (.cmp .eq (.v 3) (.v 4)) (.bin .add (.v 2) (.fld (.v 0) "grace")) (.fld (.v 5) "quiet")) [.val (.box b), .val (.int t), .val (.int mo), .val (.int a), .val (.int (dueP h c mo)), .val (insC c), .no, .no] m) = .ok (.int q) m := by
    by_cases e : a = dueP h c mo
    · have e1 : (a == dueP h c mo) = true := beq_iff_eq.mpr e
      rw [if_pos e] at hq
      simp only [e1, lk_box hm, fh_gr, hq, lk_i, lk_l, lk_t, lk_b, lk_n, lk_s, lk_C, lk_S, lk_D, lk_H, lk_T, lk_R, plc_f, plc_i, chg_bx, chgS_val, e_v, e_b, e_c, e_bin, e_neg, e_not, e_and, e_or, e_ife, e_cmp, e_ch2, e_tup, e_lst, e_idx, e_sl, e_call, e_bi, e_isi, e_bm, e_fld, e_rev, e_new, e_meth, e_box, e_isx, es_nil, es_cons, ec_nil, ec_cons, bind_ok, on_ok, then_nx, then_rt, then_exc, bind_exc, on_exc, up_some, tst_bl, mapMu_ok, calm_ok, lkOf_nil, lock_no, unlock_no, s_asg, s_asgO, s_unp, s_par, s_app, s_ext, s_seti, s_setf, s_raise, s_try, s_expr, s_ret, s_ife, s_for, s_whl, s_fz, s_pass, ss_nil, ss_cons, slot_0, slot_s, plc_b, chg_sl, rdV_val, rdB_val, rdB_own, endR_rt, endR_nx, endR_exc, List.map_cons, List.map_nil, List.cons_append, List.nil_append, List.replicate, List.set_cons_zero, List.set_cons_succ, look_nil, Bool.not_true, Bool.not_false, if_true, if_false, Bool.false_eq_true, reduceIte, List.length_cons, List.length_nil, Nat.reduceAdd, Nat.reduceSub, wipeE, List.foldl_cons, List.foldl_nil, Option.map_some, bi_mulA, bi_mulB, bi_fdv, bi_modI, bi_dvm, bi_rlen, kd_ix, bi_sumT, bi_mx2, bi_mn2, bi_intB, bi_lstT, bi_lstL, bi_sumI, is_nI, is_nN, isn_I, isn_N, eq_IN, eq_NI, eq_NN, ne_IN, ne_NI, ne_NN, eq_BB, ne_BB, neg_I, is_L, ow_L, it1_0, il1_0, it2_0, il2_0, it2_1, il2_1, it3_0, il3_0, it3_1, il3_1, it3_2, il3_2, it4_0, il4_0, it4_1, il4_1, it4_2, il4_2, it4_3, il4_3, it5_0, il5_0, it5_1, il5_1, it5_2, il5_2, it5_3, il5_3, it5_4, il5_4, un2, bt2, un3, bt3, un4, bt4, un5, bt5, bt1, stF, srcL, srcT, srcFL, srcFT, app_L, ext_L, add_L, add_T, bi_addI, bi_subI, bi_ltI, bi_leI, bi_gtI, bi_geI, bi_eqI, bi_neI, bi_is, bi_isnot, bi_tupL]
    · have e1 : (a == dueP h c mo) = false := beq_false_of_ne e
      rw [if_neg e] at hq
      simp only [e1, fc_q, hq, lk_i, lk_l, lk_t, lk_b, lk_n, lk_s, lk_C, lk_S, lk_D, lk_H, lk_T, lk_R, plc_f, plc_i, chg_bx, chgS_val, e_v, e_b, e_c, e_bin, e_neg, e_not, e_and, e_or, e_ife, e_cmp, e_ch2, e_tup, e_lst, e_idx, e_sl, e_call, e_bi, e_isi, e_bm, e_fld, e_rev, e_new, e_meth, e_box, e_isx, es_nil, es_cons, ec_nil, ec_cons, bind_ok, on_ok, then_nx, then_rt, then_exc, bind_exc, on_exc, up_some, tst_bl, mapMu_ok, calm_ok, lkOf_nil, lock_no, unlock_no, s_asg, s_asgO, s_unp, s_par, s_app, s_ext, s_seti, s_setf, s_raise, s_try, s_expr, s_ret, s_ife, s_for, s_whl, s_fz, s_pass, ss_nil, ss_cons, slot_0, slot_s, plc_b, chg_sl, rdV_val, rdB_val, rdB_own, endR_rt, endR_nx, endR_exc, List.map_cons, List.map_nil, List.cons_append, List.nil_append, List.replicate, List.set_cons_zero, List.set_cons_succ, look_nil, Bool.not_true, Bool.not_false, if_true, if_false, Bool.false_eq_true, reduceIte, List.length_cons, List.length_nil, Nat.reduceAdd, Nat.reduceSub, wipeE, List.foldl_cons, List.foldl_nil, Option.map_some, bi_mulA, bi_mulB, bi_fdv, bi_modI, bi_dvm, bi_rlen, kd_ix, bi_sumT, bi_mx2, bi_mn2, bi_intB, bi_lstT, bi_lstL, bi_sumI, is_nI, is_nN, isn_I, isn_N, eq_IN, eq_NI, eq_NN, ne_IN, ne_NI, ne_NN, eq_BB, ne_BB, neg_I, is_L, ow_L, it1_0, il1_0, it2_0, il2_0, it2_1, il2_1, it3_0, il3_0, it3_1, il3_1, it3_2, il3_2, it4_0, il4_0, it4_1, il4_1, it4_2, il4_2, it4_3, il4_3, it5_0, il5_0, it5_1, il5_1, it5_2, il5_2, it5_3, il5_3, it5_4, il5_4, un2, bt2, un3, bt3, un4, bt4, un5, bt5, bt1, stF, srcL, srcT, srcFL, srcFT, app_L, ext_L, add_L, add_T, bi_addI, bi_subI, bi_ltI, bi_leI, bi_gtI, bi_geI, bi_eqI, bi_neI, bi_is, bi_isnot, bi_tupL]
  have nw := r_car (m := m) (mo := c.c) (fl := c.f) (pd := c.p + a) (qu := q) (nm := c.nm) (n + 2)
  have sd := set_dC (cs := h.s.cs) (t := t) (c := ⟨c.c, c.f, c.p + a, q, c.nm⟩) (by omega)
  have mv := r_moved hm (cs := setC h.s.cs t ⟨c.c, c.f, c.p + a, q, c.nm⟩) (setC_srt g.srt ht) (by omega) mo ⟨mo, S "pay", t, a⟩ (n + 1)
  have mv' : Phi T (n + 4) "House.moved" [.box b, .int mo, dC (setC h.s.cs t ⟨c.c, c.f, c.p + a, q, c.nm⟩), .tup [.int mo, .str (S "pay"), .int t, .int a]] m = _ := mv
  have tn := r_turn hm (by omega) (S "pay") (movedP h mo (setC h.s.cs t ⟨c.c, c.f, c.p + a, q, c.nm⟩) ⟨mo, S "pay", t, a⟩) (n + 3)
  have ep : payP h t c mo a = turnP h (S "pay") (movedP h mo (setC h.s.cs t ⟨c.c, c.f, c.p + a, q, c.nm⟩) ⟨mo, S "pay", t, a⟩) := by rw [hq]; rfl
  rw [← ep] at tn
  have tn' : Phi T (n + 4) "House.turn_to" _ m = .ok .non (m.set b (false, insH (payP h t c mo a))) := tn
  obtain ⟨Z, hZ⟩ : ∃ Z, Z = setC h.s.cs t ⟨c.c, c.f, c.p + a, q, c.nm⟩ := ⟨_, rfl⟩
  rw [← hZ] at sd mv' tn'
  have cg := fun (r : Env) => chgS_own (r := r) (m := m) (i := 7) sd
  simp only [fd_House_pay, lk_box hm, mh_due, du, wh, Bool.and_self, fh_he, fs_cs, ix, qe, dict_cp, ow_D, fc_c, fc_f, fc_p, fc_n, nw, cg, lk_i, lk_l, lk_t, lk_b, lk_n, lk_s, lk_C, lk_S, lk_D, lk_H, lk_T, lk_R, plc_f, plc_i, chg_bx, chgS_val, e_v, e_b, e_c, e_bin, e_neg, e_not, e_and, e_or, e_cmp, e_ch2, e_tup, e_lst, e_idx, e_sl, e_call, e_bi, e_isi, e_bm, e_fld, e_rev, e_new, e_meth, e_box, e_isx, es_nil, es_cons, ec_nil, ec_cons, bind_ok, on_ok, then_nx, then_rt, then_exc, bind_exc, on_exc, up_some, tst_bl, mapMu_ok, calm_ok, lkOf_nil, lock_no, unlock_no, s_asg, s_asgO, s_unp, s_par, s_app, s_ext, s_seti, s_setf, s_raise, s_try, s_expr, s_ret, s_ife, s_for, s_whl, s_fz, s_pass, ss_nil, ss_cons, slot_0, slot_s, plc_b, chg_sl, rdV_val, rdB_val, rdB_own, endR_rt, endR_nx, endR_exc, List.map_cons, List.map_nil, List.cons_append, List.nil_append, List.replicate, List.set_cons_zero, List.set_cons_succ, look_nil, Bool.not_true, Bool.not_false, if_true, if_false, Bool.false_eq_true, reduceIte, List.length_cons, List.length_nil, Nat.reduceAdd, Nat.reduceSub, wipeE, List.foldl_cons, List.foldl_nil, Option.map_some, bi_mulA, bi_mulB, bi_fdv, bi_modI, bi_dvm, bi_rlen, kd_ix, bi_sumT, bi_mx2, bi_mn2, bi_intB, bi_lstT, bi_lstL, bi_sumI, is_nI, is_nN, isn_I, isn_N, eq_IN, eq_NI, eq_NN, ne_IN, ne_NI, ne_NN, eq_BB, ne_BB, neg_I, is_L, ow_L, it1_0, il1_0, it2_0, il2_0, it2_1, il2_1, it3_0, il3_0, it3_1, il3_1, it3_2, il3_2, it4_0, il4_0, it4_1, il4_1, it4_2, il4_2, it4_3, il4_3, it5_0, il5_0, it5_1, il5_1, it5_2, il5_2, it5_3, il5_3, it5_4, il5_4, un2, bt2, un3, bt3, un4, bt4, un5, bt5, bt1, stF, srcL, srcT, srcFL, srcFT, app_L, ext_L, add_L, add_T, bi_addI, bi_subI, bi_ltI, bi_leI, bi_gtI, bi_geI, bi_eqI, bi_neI, bi_is, bi_isnot, bi_tupL]
  rw [fz1 (d := dC Z) rfl]
  simp only [lk_box hm, mh_turn_to, mh_moved, mv', tn', lk_i, lk_l, lk_t, lk_b, lk_n, lk_s, lk_C, lk_S, lk_D, lk_H, lk_T, lk_R, plc_f, plc_i, chg_bx, chgS_val, e_v, e_b, e_c, e_bin, e_neg, e_not, e_and, e_or, e_ife, e_cmp, e_ch2, e_tup, e_lst, e_idx, e_sl, e_call, e_bi, e_isi, e_bm, e_fld, e_rev, e_new, e_meth, e_box, e_isx, es_nil, es_cons, ec_nil, ec_cons, bind_ok, on_ok, then_nx, then_rt, then_exc, bind_exc, on_exc, up_some, tst_bl, mapMu_ok, calm_ok, lkOf_nil, lock_no, unlock_no, s_asg, s_asgO, s_unp, s_par, s_app, s_ext, s_seti, s_setf, s_raise, s_try, s_expr, s_ret, s_ife, s_for, s_whl, s_fz, s_pass, ss_nil, ss_cons, slot_0, slot_s, plc_b, chg_sl, rdV_val, rdB_val, rdB_own, endR_rt, endR_nx, endR_exc, List.map_cons, List.map_nil, List.cons_append, List.nil_append, List.replicate, List.set_cons_zero, List.set_cons_succ, look_nil, Bool.not_true, Bool.not_false, if_true, if_false, Bool.false_eq_true, reduceIte, List.length_cons, List.length_nil, Nat.reduceAdd, Nat.reduceSub, wipeE, List.foldl_cons, List.foldl_nil, Option.map_some, bi_mulA, bi_mulB, bi_fdv, bi_modI, bi_dvm, bi_rlen, kd_ix, bi_sumT, bi_mx2, bi_mn2, bi_intB, bi_lstT, bi_lstL, bi_sumI, is_nI, is_nN, isn_I, isn_N, eq_IN, eq_NI, eq_NN, ne_IN, ne_NI, ne_NN, eq_BB, ne_BB, neg_I, is_L, ow_L, it1_0, il1_0, it2_0, il2_0, it2_1, il2_1, it3_0, il3_0, it3_1, il3_1, it3_2, il3_2, it4_0, il4_0, it4_1, il4_1, it4_2, il4_2, it4_3, il4_3, it5_0, il5_0, it5_1, il5_1, it5_2, il5_2, it5_3, il5_3, it5_4, il5_4, un2, bt2, un3, bt3, un4, bt4, un5, bt5, bt1, stF, srcL, srcT, srcFL, srcFT, app_L, ext_L, add_L, add_T, bi_addI, bi_subI, bi_ltI, bi_leI, bi_gtI, bi_geI, bi_eqI, bi_neI, bi_is, bi_isnot, bi_tupL]
theorem r_shift_car {t mo : Int} {a : D} (hm : m[b]? = some (false, insH h)) (ht : getC h.s.cs t = none) (n : Nat) : Phi T (n + 2) "House.shift" [.box b, .int t, .int mo, a] m = .exc "NoTicket" m := by
  rw [phi_run (show T "House.shift" = some fd_House_shift from rfl) rfl rfl]
  have w := r_car0 hm ht n
  simp only [fd_House_shift, lk_box hm, mh_need_car, w, lk_i, lk_l, lk_t, lk_b, lk_n, lk_s, lk_C, lk_S, lk_D, lk_H, lk_T, lk_R, plc_f, plc_i, chg_bx, chgS_val, e_v, e_b, e_c, e_bin, e_neg, e_not, e_and, e_or, e_ife, e_cmp, e_ch2, e_tup, e_lst, e_idx, e_sl, e_call, e_bi, e_isi, e_bm, e_fld, e_rev, e_new, e_meth, e_box, e_isx, es_nil, es_cons, ec_nil, ec_cons, bind_ok, on_ok, then_nx, then_rt, then_exc, bind_exc, on_exc, up_some, tst_bl, mapMu_ok, calm_ok, lkOf_nil, lock_no, unlock_no, s_asg, s_asgO, s_unp, s_par, s_app, s_ext, s_seti, s_setf, s_raise, s_try, s_expr, s_ret, s_ife, s_for, s_whl, s_fz, s_pass, ss_nil, ss_cons, slot_0, slot_s, plc_b, chg_sl, rdV_val, rdB_val, rdB_own, endR_rt, endR_nx, endR_exc, List.map_cons, List.map_nil, List.cons_append, List.nil_append, List.replicate, List.set_cons_zero, List.set_cons_succ, look_nil, Bool.not_true, Bool.not_false, if_true, if_false, Bool.false_eq_true, reduceIte, List.length_cons, List.length_nil, Nat.reduceAdd, Nat.reduceSub, wipeE, List.foldl_cons, List.foldl_nil, Option.map_some, bi_mulA, bi_mulB, bi_fdv, bi_modI, bi_dvm, bi_rlen, kd_ix, bi_sumT, bi_mx2, bi_mn2, bi_intB, bi_lstT, bi_lstL, bi_sumI, is_nI, is_nN, isn_I, isn_N, eq_IN, eq_NI, eq_NN, ne_IN, ne_NI, ne_NN, eq_BB, ne_BB, neg_I, is_L, ow_L, it1_0, il1_0, it2_0, il2_0, it2_1, il2_1, it3_0, il3_0, it3_1, il3_1, it3_2, il3_2, it4_0, il4_0, it4_1, il4_1, it4_2, il4_2, it4_3, il4_3, it5_0, il5_0, it5_1, il5_1, it5_2, il5_2, it5_3, il5_3, it5_4, il5_4, un2, bt2, un3, bt3, un4, bt4, un5, bt5, bt1, stF, srcL, srcT, srcFL, srcFT, app_L, ext_L, add_L, add_T, bi_addI, bi_subI, bi_ltI, bi_leI, bi_gtI, bi_geI, bi_eqI, bi_neI, bi_is, bi_isnot, bi_tupL]
theorem r_shift_time {t mo : Int} {a : D} {c : Car} (hm : m[b]? = some (false, insH h)) (ht : getC h.s.cs t = some c) (hmo : mo < h.s.la) (n : Nat) : Phi T (n + 2) "House.shift" [.box b, .int t, .int mo, a] m = .exc "NoTime" m := by
  rw [phi_run (show T "House.shift" = some fd_House_shift from rfl) rfl rfl]
  have w := r_car1 hm ht n
  have w2 := r_time0 hm hmo n
  simp only [fd_House_shift, lk_box hm, mh_need_car, mh_need_time, w, w2, lk_i, lk_l, lk_t, lk_b, lk_n, lk_s, lk_C, lk_S, lk_D, lk_H, lk_T, lk_R, plc_f, plc_i, chg_bx, chgS_val, e_v, e_b, e_c, e_bin, e_neg, e_not, e_and, e_or, e_ife, e_cmp, e_ch2, e_tup, e_lst, e_idx, e_sl, e_call, e_bi, e_isi, e_bm, e_fld, e_rev, e_new, e_meth, e_box, e_isx, es_nil, es_cons, ec_nil, ec_cons, bind_ok, on_ok, then_nx, then_rt, then_exc, bind_exc, on_exc, up_some, tst_bl, mapMu_ok, calm_ok, lkOf_nil, lock_no, unlock_no, s_asg, s_asgO, s_unp, s_par, s_app, s_ext, s_seti, s_setf, s_raise, s_try, s_expr, s_ret, s_ife, s_for, s_whl, s_fz, s_pass, ss_nil, ss_cons, slot_0, slot_s, plc_b, chg_sl, rdV_val, rdB_val, rdB_own, endR_rt, endR_nx, endR_exc, List.map_cons, List.map_nil, List.cons_append, List.nil_append, List.replicate, List.set_cons_zero, List.set_cons_succ, look_nil, Bool.not_true, Bool.not_false, if_true, if_false, Bool.false_eq_true, reduceIte, List.length_cons, List.length_nil, Nat.reduceAdd, Nat.reduceSub, wipeE, List.foldl_cons, List.foldl_nil, Option.map_some, bi_mulA, bi_mulB, bi_fdv, bi_modI, bi_dvm, bi_rlen, kd_ix, bi_sumT, bi_mx2, bi_mn2, bi_intB, bi_lstT, bi_lstL, bi_sumI, is_nI, is_nN, isn_I, isn_N, eq_IN, eq_NI, eq_NN, ne_IN, ne_NI, ne_NN, eq_BB, ne_BB, neg_I, is_L, ow_L, it1_0, il1_0, it2_0, il2_0, it2_1, il2_1, it3_0, il3_0, it3_1, il3_1, it3_2, il3_2, it4_0, il4_0, it4_1, il4_1, it4_2, il4_2, it4_3, il4_3, it5_0, il5_0, it5_1, il5_1, it5_2, il5_2, it5_3, il5_3, it5_4, il5_4, un2, bt2, un3, bt3, un4, bt4, un5, bt5, bt1, stF, srcL, srcT, srcFL, srcFT, app_L, ext_L, add_L, add_T, bi_addI, bi_subI, bi_ltI, bi_leI, bi_gtI, bi_geI, bi_eqI, bi_neI, bi_is, bi_isnot, bi_tupL]
theorem r_shift_floor {t mo : Int} {a : D} {c : Car} (hm : m[b]? = some (false, insH h)) (ht : getC h.s.cs t = some c) (hmo : h.s.la ≤ mo) {n : Nat} (hw : Phi T (n + 1) "is_whole" [a, .int 0, .int (h.fl.length - 1)] m = .ok (.bl false) m) : Phi T (n + 2) "House.shift" [.box b, .int t, .int mo, a] m = .exc "NoFloor" m := by
  rw [phi_run (show T "House.shift" = some fd_House_shift from rfl) rfl rfl]
  have w := r_car1 hm ht n
  have w2 := r_time1 hm hmo n
  have ln : biD .len [.tup (h.fl.map .int)] = some (.int h.fl.length) := len_mapT
  simp only [fd_House_shift, lk_box hm, mh_need_car, mh_need_time, w, w2, fh_fl, ln, hw, lk_i, lk_l, lk_t, lk_b, lk_n, lk_s, lk_C, lk_S, lk_D, lk_H, lk_T, lk_R, plc_f, plc_i, chg_bx, chgS_val, e_v, e_b, e_c, e_bin, e_neg, e_not, e_and, e_or, e_ife, e_cmp, e_ch2, e_tup, e_lst, e_idx, e_sl, e_call, e_bi, e_isi, e_bm, e_fld, e_rev, e_new, e_meth, e_box, e_isx, es_nil, es_cons, ec_nil, ec_cons, bind_ok, on_ok, then_nx, then_rt, then_exc, bind_exc, on_exc, up_some, tst_bl, mapMu_ok, calm_ok, lkOf_nil, lock_no, unlock_no, s_asg, s_asgO, s_unp, s_par, s_app, s_ext, s_seti, s_setf, s_raise, s_try, s_expr, s_ret, s_ife, s_for, s_whl, s_fz, s_pass, ss_nil, ss_cons, slot_0, slot_s, plc_b, chg_sl, rdV_val, rdB_val, rdB_own, endR_rt, endR_nx, endR_exc, List.map_cons, List.map_nil, List.cons_append, List.nil_append, List.replicate, List.set_cons_zero, List.set_cons_succ, look_nil, Bool.not_true, Bool.not_false, if_true, if_false, Bool.false_eq_true, reduceIte, List.length_cons, List.length_nil, Nat.reduceAdd, Nat.reduceSub, wipeE, List.foldl_cons, List.foldl_nil, Option.map_some, bi_mulA, bi_mulB, bi_fdv, bi_modI, bi_dvm, bi_rlen, kd_ix, bi_sumT, bi_mx2, bi_mn2, bi_intB, bi_lstT, bi_lstL, bi_sumI, is_nI, is_nN, isn_I, isn_N, eq_IN, eq_NI, eq_NN, ne_IN, ne_NI, ne_NN, eq_BB, ne_BB, neg_I, is_L, ow_L, it1_0, il1_0, it2_0, il2_0, it2_1, il2_1, it3_0, il3_0, it3_1, il3_1, it3_2, il3_2, it4_0, il4_0, it4_1, il4_1, it4_2, il4_2, it4_3, il4_3, it5_0, il5_0, it5_1, il5_1, it5_2, il5_2, it5_3, il5_3, it5_4, il5_4, un2, bt2, un3, bt3, un4, bt4, un5, bt5, bt1, stF, srcL, srcT, srcFL, srcFT, app_L, ext_L, add_L, add_T, bi_addI, bi_subI, bi_ltI, bi_leI, bi_gtI, bi_geI, bi_eqI, bi_neI, bi_is, bi_isnot, bi_tupL]
theorem free_len {fl : List Int} {cs : Cars} : (freeP fl cs).length = fl.length := by unfold freeP; simp
theorem idx_intL {l : List Int} {i : Int} (h0 : 0 ≤ i) (h1 : i < l.length) : idxD (.lst (l.map .int)) (.int i) = some (.int (l.getD i.toNat 0)) := by
  obtain ⟨x, _, hx, e1, e2⟩ := idx_enc (enc := D.int) (xs := l) h0 h1
  rw [List.getD_eq_getElem?_getD, hx]
  exact e1
theorem idx_intT {l : List Int} {i : Int} (h0 : 0 ≤ i) (h1 : i < l.length) : idxD (.tup (l.map .int)) (.int i) = some (.int (l.getD i.toNat 0)) := by
  obtain ⟨x, _, hx, e1, e2⟩ := idx_enc (enc := D.int) (xs := l) h0 h1
  rw [List.getD_eq_getElem?_getD, hx]
  exact e2
/-- a floor to which a car can go -/
def roomF (h : Hs) (c : Car) (f : Int) : Bool := f == c.f || !((freeP h.fl h.s.cs).getD f.toNat 0 == 0)
theorem r_shift {k : Nat} (hm : m[b]? = some (false, insH h)) (g : GoodH k h) (hk : k ≤ 1000) {t : Int} {c : Car} (ht : getC h.s.cs t = some c) {mo : Int} (hmo : h.s.la ≤ mo) {f : Int} (h0 : 0 ≤ f) (h1 : f < h.fl.length) (n : Nat) : Phi T (n + 5) "House.shift" [.box b, .int t, .int mo, .int f] m = if roomF h c f = true then .ok (.int c.f) (m.set b (false, insH (shiftP h t c mo f))) else .exc "Full" m := by
  have gnr := g.nr
  have gng := g.ng
  have gnc := g.nc
  rw [phi_run (show T "House.shift" = some fd_House_shift from rfl) rfl rfl]
  have w := r_car1 hm ht (n + 3)
  have w2 := r_time1 hm hmo (n + 3)
  have ln : biD .len [.tup (h.fl.map .int)] = some (.int h.fl.length) := len_mapT
  have wh := r_wholeI (m := m) (i := f) (lo := 0) (hi := h.fl.length - 1) (n + 3)
  rw [decY h0, decY (show f ≤ (h.fl.length : Int) - 1 by omega)] at wh
  have fr := r_freeBy hm g.srt (n + 3)
  have ixf := idx_intL (l := freeP h.fl h.s.cs) h0 (by rw [free_len]; exact h1)
  have te : (ev (Phi T (n + 4)) (.and (.cmp .ne (.v 3) (.fld (.v 4) "floor")) (.cmp .eq (.idx (.meth (.v 0) "free_by" ["House"] [(.fld (.fld (.v 0) "here") "cars")]) (.v 3)) (.c (.int (0))))) [.val (.box b), .val (.int t), .val (.int mo), .val (.int f), .val (insC c), .no] m) = .ok (.bl (!roomF h c f)) m := by
    unfold roomF
    cases e : f == c.f
    · simp only [e, lk_box hm, fh_he, fs_cs, mh_free_by, fr, ixf, fc_f, Bool.false_or, Bool.not_not, lk_i, lk_l, lk_t, lk_b, lk_n, lk_s, lk_C, lk_S, lk_D, lk_H, lk_T, lk_R, plc_f, plc_i, chg_bx, chgS_val, e_v, e_b, e_c, e_bin, e_neg, e_not, e_and, e_or, e_ife, e_cmp, e_ch2, e_tup, e_lst, e_idx, e_sl, e_call, e_bi, e_isi, e_bm, e_fld, e_rev, e_new, e_meth, e_box, e_isx, es_nil, es_cons, ec_nil, ec_cons, bind_ok, on_ok, then_nx, then_rt, then_exc, bind_exc, on_exc, up_some, tst_bl, mapMu_ok, calm_ok, lkOf_nil, lock_no, unlock_no, s_asg, s_asgO, s_unp, s_par, s_app, s_ext, s_seti, s_setf, s_raise, s_try, s_expr, s_ret, s_ife, s_for, s_whl, s_fz, s_pass, ss_nil, ss_cons, slot_0, slot_s, plc_b, chg_sl, rdV_val, rdB_val, rdB_own, endR_rt, endR_nx, endR_exc, List.map_cons, List.map_nil, List.cons_append, List.nil_append, List.replicate, List.set_cons_zero, List.set_cons_succ, look_nil, Bool.not_true, Bool.not_false, if_true, if_false, Bool.false_eq_true, reduceIte, List.length_cons, List.length_nil, Nat.reduceAdd, Nat.reduceSub, wipeE, List.foldl_cons, List.foldl_nil, Option.map_some, bi_mulA, bi_mulB, bi_fdv, bi_modI, bi_dvm, bi_rlen, kd_ix, bi_sumT, bi_mx2, bi_mn2, bi_intB, bi_lstT, bi_lstL, bi_sumI, is_nI, is_nN, isn_I, isn_N, eq_IN, eq_NI, eq_NN, ne_IN, ne_NI, ne_NN, eq_BB, ne_BB, neg_I, is_L, ow_L, it1_0, il1_0, it2_0, il2_0, it2_1, il2_1, it3_0, il3_0, it3_1, il3_1, it3_2, il3_2, it4_0, il4_0, it4_1, il4_1, it4_2, il4_2, it4_3, il4_3, it5_0, il5_0, it5_1, il5_1, it5_2, il5_2, it5_3, il5_3, it5_4, il5_4, un2, bt2, un3, bt3, un4, bt4, un5, bt5, bt1, stF, srcL, srcT, srcFL, srcFT, app_L, ext_L, add_L, add_T, bi_addI, bi_subI, bi_ltI, bi_leI, bi_gtI, bi_geI, bi_eqI, bi_neI, bi_is, bi_isnot, bi_tupL]
    · simp only [e, fc_f, Bool.true_or, lk_i, lk_l, lk_t, lk_b, lk_n, lk_s, lk_C, lk_S, lk_D, lk_H, lk_T, lk_R, plc_f, plc_i, chg_bx, chgS_val, e_v, e_b, e_c, e_bin, e_neg, e_not, e_and, e_or, e_ife, e_cmp, e_ch2, e_tup, e_lst, e_idx, e_sl, e_call, e_bi, e_isi, e_bm, e_fld, e_rev, e_new, e_meth, e_box, e_isx, es_nil, es_cons, ec_nil, ec_cons, bind_ok, on_ok, then_nx, then_rt, then_exc, bind_exc, on_exc, up_some, tst_bl, mapMu_ok, calm_ok, lkOf_nil, lock_no, unlock_no, s_asg, s_asgO, s_unp, s_par, s_app, s_ext, s_seti, s_setf, s_raise, s_try, s_expr, s_ret, s_ife, s_for, s_whl, s_fz, s_pass, ss_nil, ss_cons, slot_0, slot_s, plc_b, chg_sl, rdV_val, rdB_val, rdB_own, endR_rt, endR_nx, endR_exc, List.map_cons, List.map_nil, List.cons_append, List.nil_append, List.replicate, List.set_cons_zero, List.set_cons_succ, look_nil, Bool.not_true, Bool.not_false, if_true, if_false, Bool.false_eq_true, reduceIte, List.length_cons, List.length_nil, Nat.reduceAdd, Nat.reduceSub, wipeE, List.foldl_cons, List.foldl_nil, Option.map_some, bi_mulA, bi_mulB, bi_fdv, bi_modI, bi_dvm, bi_rlen, kd_ix, bi_sumT, bi_mx2, bi_mn2, bi_intB, bi_lstT, bi_lstL, bi_sumI, is_nI, is_nN, isn_I, isn_N, eq_IN, eq_NI, eq_NN, ne_IN, ne_NI, ne_NN, eq_BB, ne_BB, neg_I, is_L, ow_L, it1_0, il1_0, it2_0, il2_0, it2_1, il2_1, it3_0, il3_0, it3_1, il3_1, it3_2, il3_2, it4_0, il4_0, it4_1, il4_1, it4_2, il4_2, it4_3, il4_3, it5_0, il5_0, it5_1, il5_1, it5_2, il5_2, it5_3, il5_3, it5_4, il5_4, un2, bt2, un3, bt3, un4, bt4, un5, bt5, bt1, stF, srcL, srcT, srcFL, srcFT, app_L, ext_L, add_L, add_T, bi_addI, bi_subI, bi_ltI, bi_leI, bi_gtI, bi_geI, bi_eqI, bi_neI, bi_is, bi_isnot, bi_tupL]
  have nw := r_car (m := m) (mo := c.c) (fl := f) (pd := c.p) (qu := c.q) (nm := c.nm) (n + 2)
  have sd := set_dC (cs := h.s.cs) (t := t) (c := ⟨c.c, f, c.p, c.q, c.nm⟩) (by omega)
  have mv := r_moved hm (cs := setC h.s.cs t ⟨c.c, f, c.p, c.q, c.nm⟩) (setC_srt g.srt ht) (by omega) mo ⟨mo, S "shift", t, f⟩ (n + 1)
  have mv' : Phi T (n + 4) "House.moved" [.box b, .int mo, dC (setC h.s.cs t ⟨c.c, f, c.p, c.q, c.nm⟩), .tup [.int mo, .str (S "shift"), .int t, .int f]] m = _ := mv
  have tn := r_turn hm (by omega) (S "shift") (movedP h mo (setC h.s.cs t ⟨c.c, f, c.p, c.q, c.nm⟩) ⟨mo, S "shift", t, f⟩) (n + 3)
  have tn' : Phi T (n + 4) "House.turn_to" _ m = .ok .non (m.set b (false, insH (shiftP h t c mo f))) := tn
  obtain ⟨Z, hZ⟩ : ∃ Z, Z = setC h.s.cs t ⟨c.c, f, c.p, c.q, c.nm⟩ := ⟨_, rfl⟩
  rw [← hZ] at sd mv' tn'
  have cg := fun (r : Env) => chgS_own (r := r) (m := m) (i := 5) sd
  cases e : roomF h c f with
  | false =>
    rw [if_neg Bool.false_ne_true]
    rw [e] at te
    simp only [fd_House_shift, lk_box hm, mh_need_car, mh_need_time, w, w2, fh_fl, ln, wh, te, Bool.and_self, lk_i, lk_l, lk_t, lk_b, lk_n, lk_s, lk_C, lk_S, lk_D, lk_H, lk_T, lk_R, plc_f, plc_i, chg_bx, chgS_val, e_v, e_b, e_c, e_bin, e_neg, e_not, e_or, e_ife, e_cmp, e_ch2, e_tup, e_lst, e_idx, e_sl, e_call, e_bi, e_isi, e_bm, e_fld, e_rev, e_new, e_meth, e_box, e_isx, es_nil, es_cons, ec_nil, ec_cons, bind_ok, on_ok, then_nx, then_rt, then_exc, bind_exc, on_exc, up_some, tst_bl, mapMu_ok, calm_ok, lkOf_nil, lock_no, unlock_no, s_asg, s_asgO, s_unp, s_par, s_app, s_ext, s_seti, s_setf, s_raise, s_try, s_expr, s_ret, s_ife, s_for, s_whl, s_fz, s_pass, ss_nil, ss_cons, slot_0, slot_s, plc_b, chg_sl, rdV_val, rdB_val, rdB_own, endR_rt, endR_nx, endR_exc, List.map_cons, List.map_nil, List.cons_append, List.nil_append, List.replicate, List.set_cons_zero, List.set_cons_succ, look_nil, Bool.not_true, Bool.not_false, if_true, if_false, Bool.false_eq_true, reduceIte, List.length_cons, List.length_nil, Nat.reduceAdd, Nat.reduceSub, wipeE, List.foldl_cons, List.foldl_nil, Option.map_some, bi_mulA, bi_mulB, bi_fdv, bi_modI, bi_dvm, bi_rlen, kd_ix, bi_sumT, bi_mx2, bi_mn2, bi_intB, bi_lstT, bi_lstL, bi_sumI, is_nI, is_nN, isn_I, isn_N, eq_IN, eq_NI, eq_NN, ne_IN, ne_NI, ne_NN, eq_BB, ne_BB, neg_I, is_L, ow_L, it1_0, il1_0, it2_0, il2_0, it2_1, il2_1, it3_0, il3_0, it3_1, il3_1, it3_2, il3_2, it4_0, il4_0, it4_1, il4_1, it4_2, il4_2, it4_3, il4_3, it5_0, il5_0, it5_1, il5_1, it5_2, il5_2, it5_3, il5_3, it5_4, il5_4, un2, bt2, un3, bt3, un4, bt4, un5, bt5, bt1, stF, srcL, srcT, srcFL, srcFT, app_L, ext_L, add_L, add_T, bi_addI, bi_subI, bi_ltI, bi_leI, bi_gtI, bi_geI, bi_eqI, bi_neI, bi_is, bi_isnot, bi_tupL]
  | true =>
    rw [if_pos rfl]
    rw [e] at te
    simp only [fd_House_shift, lk_box hm, mh_need_car, mh_need_time, w, w2, fh_fl, ln, wh, te, Bool.and_self, fh_he, fs_cs, dict_cp, ow_D, fc_c, fc_f, fc_p, fc_q, fc_n, nw, cg, lk_i, lk_l, lk_t, lk_b, lk_n, lk_s, lk_C, lk_S, lk_D, lk_H, lk_T, lk_R, plc_f, plc_i, chg_bx, chgS_val, e_v, e_b, e_c, e_bin, e_neg, e_not, e_or, e_ife, e_cmp, e_ch2, e_tup, e_lst, e_idx, e_sl, e_call, e_bi, e_isi, e_bm, e_fld, e_rev, e_new, e_meth, e_box, e_isx, es_nil, es_cons, ec_nil, ec_cons, bind_ok, on_ok, then_nx, then_rt, then_exc, bind_exc, on_exc, up_some, tst_bl, mapMu_ok, calm_ok, lkOf_nil, lock_no, unlock_no, s_asg, s_asgO, s_unp, s_par, s_app, s_ext, s_seti, s_setf, s_raise, s_try, s_expr, s_ret, s_ife, s_for, s_whl, s_fz, s_pass, ss_nil, ss_cons, slot_0, slot_s, plc_b, chg_sl, rdV_val, rdB_val, rdB_own, endR_rt, endR_nx, endR_exc, List.map_cons, List.map_nil, List.cons_append, List.nil_append, List.replicate, List.set_cons_zero, List.set_cons_succ, look_nil, Bool.not_true, Bool.not_false, if_true, if_false, Bool.false_eq_true, reduceIte, List.length_cons, List.length_nil, Nat.reduceAdd, Nat.reduceSub, wipeE, List.foldl_cons, List.foldl_nil, Option.map_some, bi_mulA, bi_mulB, bi_fdv, bi_modI, bi_dvm, bi_rlen, kd_ix, bi_sumT, bi_mx2, bi_mn2, bi_intB, bi_lstT, bi_lstL, bi_sumI, is_nI, is_nN, isn_I, isn_N, eq_IN, eq_NI, eq_NN, ne_IN, ne_NI, ne_NN, eq_BB, ne_BB, neg_I, is_L, ow_L, it1_0, il1_0, it2_0, il2_0, it2_1, il2_1, it3_0, il3_0, it3_1, il3_1, it3_2, il3_2, it4_0, il4_0, it4_1, il4_1, it4_2, il4_2, it4_3, il4_3, it5_0, il5_0, it5_1, il5_1, it5_2, il5_2, it5_3, il5_3, it5_4, il5_4, un2, bt2, un3, bt3, un4, bt4, un5, bt5, bt1, stF, srcL, srcT, srcFL, srcFT, app_L, ext_L, add_L, add_T, bi_addI, bi_subI, bi_ltI, bi_leI, bi_gtI, bi_geI, bi_eqI, bi_neI, bi_is, bi_isnot, bi_tupL]
    rw [fz1 (d := dC Z) rfl]
    simp only [lk_box hm, mh_turn_to, mh_moved, mv', tn', fc_f, lk_i, lk_l, lk_t, lk_b, lk_n, lk_s, lk_C, lk_S, lk_D, lk_H, lk_T, lk_R, plc_f, plc_i, chg_bx, chgS_val, e_v, e_b, e_c, e_bin, e_neg, e_not, e_and, e_or, e_ife, e_cmp, e_ch2, e_tup, e_lst, e_idx, e_sl, e_call, e_bi, e_isi, e_bm, e_fld, e_rev, e_new, e_meth, e_box, e_isx, es_nil, es_cons, ec_nil, ec_cons, bind_ok, on_ok, then_nx, then_rt, then_exc, bind_exc, on_exc, up_some, tst_bl, mapMu_ok, calm_ok, lkOf_nil, lock_no, unlock_no, s_asg, s_asgO, s_unp, s_par, s_app, s_ext, s_seti, s_setf, s_raise, s_try, s_expr, s_ret, s_ife, s_for, s_whl, s_fz, s_pass, ss_nil, ss_cons, slot_0, slot_s, plc_b, chg_sl, rdV_val, rdB_val, rdB_own, endR_rt, endR_nx, endR_exc, List.map_cons, List.map_nil, List.cons_append, List.nil_append, List.replicate, List.set_cons_zero, List.set_cons_succ, look_nil, Bool.not_true, Bool.not_false, if_true, if_false, Bool.false_eq_true, reduceIte, List.length_cons, List.length_nil, Nat.reduceAdd, Nat.reduceSub, wipeE, List.foldl_cons, List.foldl_nil, Option.map_some, bi_mulA, bi_mulB, bi_fdv, bi_modI, bi_dvm, bi_rlen, kd_ix, bi_sumT, bi_mx2, bi_mn2, bi_intB, bi_lstT, bi_lstL, bi_sumI, is_nI, is_nN, isn_I, isn_N, eq_IN, eq_NI, eq_NN, ne_IN, ne_NI, ne_NN, eq_BB, ne_BB, neg_I, is_L, ow_L, it1_0, il1_0, it2_0, il2_0, it2_1, il2_1, it3_0, il3_0, it3_1, il3_1, it3_2, il3_2, it4_0, il4_0, it4_1, il4_1, it4_2, il4_2, it4_3, il4_3, it5_0, il5_0, it5_1, il5_1, it5_2, il5_2, it5_3, il5_3, it5_4, il5_4, un2, bt2, un3, bt3, un4, bt4, un5, bt5, bt1, stF, srcL, srcT, srcFL, srcFT, app_L, ext_L, add_L, add_T, bi_addI, bi_subI, bi_ltI, bi_leI, bi_gtI, bi_geI, bi_eqI, bi_neI, bi_is, bi_isnot, bi_tupL]
theorem r_leave_ex {t mo : Int} {e : String} (hm : m[b]? = some (false, insH h)) {n : Nat} (hdu : Phi T (n + 1) "House.due" [.box b, .int t, .int mo] m = .exc e m) : Phi T (n + 2) "House.leave" [.box b, .int t, .int mo] m = .exc e m := by
  rw [phi_run (show T "House.leave" = some fd_House_leave from rfl) rfl rfl]
  simp only [fd_House_leave, lk_box hm, mh_due, hdu, lk_i, lk_l, lk_t, lk_b, lk_n, lk_s, lk_C, lk_S, lk_D, lk_H, lk_T, lk_R, plc_f, plc_i, chg_bx, chgS_val, e_v, e_b, e_c, e_bin, e_neg, e_not, e_and, e_or, e_ife, e_cmp, e_ch2, e_tup, e_lst, e_idx, e_sl, e_call, e_bi, e_isi, e_bm, e_fld, e_rev, e_new, e_meth, e_box, e_isx, es_nil, es_cons, ec_nil, ec_cons, bind_ok, on_ok, then_nx, then_rt, then_exc, bind_exc, on_exc, up_some, tst_bl, mapMu_ok, calm_ok, lkOf_nil, lock_no, unlock_no, s_asg, s_asgO, s_unp, s_par, s_app, s_ext, s_seti, s_setf, s_raise, s_try, s_expr, s_ret, s_ife, s_for, s_whl, s_fz, s_pass, ss_nil, ss_cons, slot_0, slot_s, plc_b, chg_sl, rdV_val, rdB_val, rdB_own, endR_rt, endR_nx, endR_exc, List.map_cons, List.map_nil, List.cons_append, List.nil_append, List.replicate, List.set_cons_zero, List.set_cons_succ, look_nil, Bool.not_true, Bool.not_false, if_true, if_false, Bool.false_eq_true, reduceIte, List.length_cons, List.length_nil, Nat.reduceAdd, Nat.reduceSub, wipeE, List.foldl_cons, List.foldl_nil, Option.map_some, bi_mulA, bi_mulB, bi_fdv, bi_modI, bi_dvm, bi_rlen, kd_ix, bi_sumT, bi_mx2, bi_mn2, bi_intB, bi_lstT, bi_lstL, bi_sumI, is_nI, is_nN, isn_I, isn_N, eq_IN, eq_NI, eq_NN, ne_IN, ne_NI, ne_NN, eq_BB, ne_BB, neg_I, is_L, ow_L, it1_0, il1_0, it2_0, il2_0, it2_1, il2_1, it3_0, il3_0, it3_1, il3_1, it3_2, il3_2, it4_0, il4_0, it4_1, il4_1, it4_2, il4_2, it4_3, il4_3, it5_0, il5_0, it5_1, il5_1, it5_2, il5_2, it5_3, il5_3, it5_4, il5_4, un2, bt2, un3, bt3, un4, bt4, un5, bt5, bt1, stF, srcL, srcT, srcFL, srcFT, app_L, ext_L, add_L, add_T, bi_addI, bi_subI, bi_ltI, bi_leI, bi_gtI, bi_geI, bi_eqI, bi_neI, bi_is, bi_isnot, bi_tupL]
theorem r_leave_no {t mo : Int} {c : Car} (hm : m[b]? = some (false, insH h)) {n : Nat} (hdu : Phi T (n + 1) "House.due" [.box b, .int t, .int mo] m = .ok (.int (dueP h c mo)) m) (hp : 0 < dueP h c mo) : Phi T (n + 2) "House.leave" [.box b, .int t, .int mo] m = .exc "Owes" m := by
  rw [phi_run (show T "House.leave" = some fd_House_leave from rfl) rfl rfl]
  simp only [fd_House_leave, lk_box hm, mh_due, hdu, decY hp, lk_i, lk_l, lk_t, lk_b, lk_n, lk_s, lk_C, lk_S, lk_D, lk_H, lk_T, lk_R, plc_f, plc_i, chg_bx, chgS_val, e_v, e_b, e_c, e_bin, e_neg, e_not, e_and, e_or, e_ife, e_cmp, e_ch2, e_tup, e_lst, e_idx, e_sl, e_call, e_bi, e_isi, e_bm, e_fld, e_rev, e_new, e_meth, e_box, e_isx, es_nil, es_cons, ec_nil, ec_cons, bind_ok, on_ok, then_nx, then_rt, then_exc, bind_exc, on_exc, up_some, tst_bl, mapMu_ok, calm_ok, lkOf_nil, lock_no, unlock_no, s_asg, s_asgO, s_unp, s_par, s_app, s_ext, s_seti, s_setf, s_raise, s_try, s_expr, s_ret, s_ife, s_for, s_whl, s_fz, s_pass, ss_nil, ss_cons, slot_0, slot_s, plc_b, chg_sl, rdV_val, rdB_val, rdB_own, endR_rt, endR_nx, endR_exc, List.map_cons, List.map_nil, List.cons_append, List.nil_append, List.replicate, List.set_cons_zero, List.set_cons_succ, look_nil, Bool.not_true, Bool.not_false, if_true, if_false, Bool.false_eq_true, reduceIte, List.length_cons, List.length_nil, Nat.reduceAdd, Nat.reduceSub, wipeE, List.foldl_cons, List.foldl_nil, Option.map_some, bi_mulA, bi_mulB, bi_fdv, bi_modI, bi_dvm, bi_rlen, kd_ix, bi_sumT, bi_mx2, bi_mn2, bi_intB, bi_lstT, bi_lstL, bi_sumI, is_nI, is_nN, isn_I, isn_N, eq_IN, eq_NI, eq_NN, ne_IN, ne_NI, ne_NN, eq_BB, ne_BB, neg_I, is_L, ow_L, it1_0, il1_0, it2_0, il2_0, it2_1, il2_1, it3_0, il3_0, it3_1, il3_1, it3_2, il3_2, it4_0, il4_0, it4_1, il4_1, it4_2, il4_2, it4_3, il4_3, it5_0, il5_0, it5_1, il5_1, it5_2, il5_2, it5_3, il5_3, it5_4, il5_4, un2, bt2, un3, bt3, un4, bt4, un5, bt5, bt1, stF, srcL, srcT, srcFL, srcFT, app_L, ext_L, add_L, add_T, bi_addI, bi_subI, bi_ltI, bi_leI, bi_gtI, bi_geI, bi_eqI, bi_neI, bi_is, bi_isnot, bi_tupL]
theorem r_leave {k : Nat} (hm : m[b]? = some (false, insH h)) (g : GoodH k h) (hk : k ≤ 1000) {t : Int} {c : Car} (ht : getC h.s.cs t = some c) (hn : c.nm = .non) {mo : Int} (hmo : h.s.la ≤ mo) (hmx : mo ≤ 1000000000) (h2 : dueP h c mo ≤ 0) (n : Nat) : Phi T (n + 5) "House.leave" [.box b, .int t, .int mo] m = .ok (.int (mo - c.c)) (m.set b (false, insH (leaveP h t c mo))) := by
  have gnr := g.nr
  have gng := g.ng
  have gnc := g.nc
  have gc := g.car _ (getC_in ht)
  rw [phi_run (show T "House.leave" = some fd_House_leave from rfl) rfl rfl]
  have du := r_due hm g.gt ht hn hmo (by show c.c ≤ mo; have := gc.2.1; dsimp only at this; omega) (by have := gc.1; dsimp only at this; omega) n
  have ix := idx_dC ht
  have sf : (h.s.cs.filter fun p => p.1 != t).Pairwise fun a b => a.1 < b.1 := g.srt.filter _
  have cm : ∀ s3 s4 : Sl, ev (Phi T (n + 4)) (.comp (.tup [(.v 5), (.idx (.fld (.fld (.v 0) "here") "cars") (.v 5))]) (.one 5) .it [(.fld (.fld (.v 0) "here") "cars")] [(.cmp .ne (.v 5) (.v 1))] [5]) [.val (.box b), .val (.int t), .val (.int mo), s3, s4, .no] m = .ok (.lst ((h.s.cs.filter fun p => p.1 != t).map fun p => .tup [.int p.1, insC p.2])) m := fun s3 s4 => by
    refine comp_srcM (ds := [dC h.s.cs]) (by simp only [lk_box hm, fh_he, fs_cs, lk_i, lk_l, lk_t, lk_b, lk_n, lk_s, lk_C, lk_S, lk_D, lk_H, lk_T, lk_R, plc_f, plc_i, chg_bx, chgS_val, e_v, e_b, e_c, e_bin, e_neg, e_not, e_and, e_or, e_ife, e_cmp, e_ch2, e_tup, e_lst, e_idx, e_sl, e_call, e_bi, e_isi, e_bm, e_fld, e_rev, e_new, e_meth, e_box, e_isx, es_nil, es_cons, ec_nil, ec_cons, bind_ok, on_ok, then_nx, then_rt, then_exc, bind_exc, on_exc, up_some, tst_bl, mapMu_ok, calm_ok, lkOf_nil, lock_no, unlock_no, s_asg, s_asgO, s_unp, s_par, s_app, s_ext, s_seti, s_setf, s_raise, s_try, s_expr, s_ret, s_ife, s_for, s_whl, s_fz, s_pass, ss_nil, ss_cons, slot_0, slot_s, plc_b, chg_sl, rdV_val, rdB_val, rdB_own, endR_rt, endR_nx, endR_exc, List.map_cons, List.map_nil, List.cons_append, List.nil_append, List.replicate, List.set_cons_zero, List.set_cons_succ, look_nil, Bool.not_true, Bool.not_false, if_true, if_false, Bool.false_eq_true, reduceIte, List.length_cons, List.length_nil, Nat.reduceAdd, Nat.reduceSub, wipeE, List.foldl_cons, List.foldl_nil, Option.map_some, bi_mulA, bi_mulB, bi_fdv, bi_modI, bi_dvm, bi_rlen, kd_ix, bi_sumT, bi_mx2, bi_mn2, bi_intB, bi_lstT, bi_lstL, bi_sumI, is_nI, is_nN, isn_I, isn_N, eq_IN, eq_NI, eq_NN, ne_IN, ne_NI, ne_NN, eq_BB, ne_BB, neg_I, is_L, ow_L, it1_0, il1_0, it2_0, il2_0, it2_1, il2_1, it3_0, il3_0, it3_1, il3_1, it3_2, il3_2, it4_0, il4_0, it4_1, il4_1, it4_2, il4_2, it4_3, il4_3, it5_0, il5_0, it5_1, il5_1, it5_2, il5_2, it5_3, il5_3, it5_4, il5_4, un2, bt2, un3, bt3, un4, bt4, un5, bt5, bt1, stF, srcL, srcT, srcFL, srcFT, app_L, ext_L, add_L, add_T, bi_addI, bi_subI, bi_ltI, bi_leI, bi_gtI, bi_geI, bi_eqI, bi_neI, bi_is, bi_isnot, bi_tupL]) lkOf_d src_dC ?_
    refine loopC_filter (enc := fun p : Int × Car => D.int p.1) fun p hpm => ?_
    have ix := idx_dC (getC_mem g.srt hpm)
    have en : (p.1 != t) = !(p.1 == t) := rfl
    cases e : p.1 == t
    · simp only [turnC, lk_box hm, fh_he, fs_cs, ix, en, e, lk_i, lk_l, lk_t, lk_b, lk_n, lk_s, lk_C, lk_S, lk_D, lk_H, lk_T, lk_R, plc_f, plc_i, chg_bx, chgS_val, e_v, e_b, e_c, e_bin, e_neg, e_not, e_and, e_or, e_ife, e_cmp, e_ch2, e_tup, e_lst, e_idx, e_sl, e_call, e_bi, e_isi, e_bm, e_fld, e_rev, e_new, e_meth, e_box, e_isx, es_nil, es_cons, ec_nil, ec_cons, bind_ok, on_ok, then_nx, then_rt, then_exc, bind_exc, on_exc, up_some, tst_bl, mapMu_ok, calm_ok, lkOf_nil, lock_no, unlock_no, s_asg, s_asgO, s_unp, s_par, s_app, s_ext, s_seti, s_setf, s_raise, s_try, s_expr, s_ret, s_ife, s_for, s_whl, s_fz, s_pass, ss_nil, ss_cons, slot_0, slot_s, plc_b, chg_sl, rdV_val, rdB_val, rdB_own, endR_rt, endR_nx, endR_exc, List.map_cons, List.map_nil, List.cons_append, List.nil_append, List.replicate, List.set_cons_zero, List.set_cons_succ, look_nil, Bool.not_true, Bool.not_false, if_true, if_false, Bool.false_eq_true, reduceIte, List.length_cons, List.length_nil, Nat.reduceAdd, Nat.reduceSub, wipeE, List.foldl_cons, List.foldl_nil, Option.map_some, bi_mulA, bi_mulB, bi_fdv, bi_modI, bi_dvm, bi_rlen, kd_ix, bi_sumT, bi_mx2, bi_mn2, bi_intB, bi_lstT, bi_lstL, bi_sumI, is_nI, is_nN, isn_I, isn_N, eq_IN, eq_NI, eq_NN, ne_IN, ne_NI, ne_NN, eq_BB, ne_BB, neg_I, is_L, ow_L, it1_0, il1_0, it2_0, il2_0, it2_1, il2_1, it3_0, il3_0, it3_1, il3_1, it3_2, il3_2, it4_0, il4_0, it4_1, il4_1, it4_2, il4_2, it4_3, il4_3, it5_0, il5_0, it5_1, il5_1, it5_2, il5_2, it5_3, il5_3, it5_4, il5_4, un2, bt2, un3, bt3, un4, bt4, un5, bt5, bt1, stF, srcL, srcT, srcFL, srcFT, app_L, ext_L, add_L, add_T, bi_addI, bi_subI, bi_ltI, bi_leI, bi_gtI, bi_geI, bi_eqI, bi_neI, bi_is, bi_isnot, bi_tupL]
    · simp only [turnC, lk_box hm, fh_he, fs_cs, ix, en, e, lk_i, lk_l, lk_t, lk_b, lk_n, lk_s, lk_C, lk_S, lk_D, lk_H, lk_T, lk_R, plc_f, plc_i, chg_bx, chgS_val, e_v, e_b, e_c, e_bin, e_neg, e_not, e_and, e_or, e_ife, e_cmp, e_ch2, e_tup, e_lst, e_idx, e_sl, e_call, e_bi, e_isi, e_bm, e_fld, e_rev, e_new, e_meth, e_box, e_isx, es_nil, es_cons, ec_nil, ec_cons, bind_ok, on_ok, then_nx, then_rt, then_exc, bind_exc, on_exc, up_some, tst_bl, mapMu_ok, calm_ok, lkOf_nil, lock_no, unlock_no, s_asg, s_asgO, s_unp, s_par, s_app, s_ext, s_seti, s_setf, s_raise, s_try, s_expr, s_ret, s_ife, s_for, s_whl, s_fz, s_pass, ss_nil, ss_cons, slot_0, slot_s, plc_b, chg_sl, rdV_val, rdB_val, rdB_own, endR_rt, endR_nx, endR_exc, List.map_cons, List.map_nil, List.cons_append, List.nil_append, List.replicate, List.set_cons_zero, List.set_cons_succ, look_nil, Bool.not_true, Bool.not_false, if_true, if_false, Bool.false_eq_true, reduceIte, List.length_cons, List.length_nil, Nat.reduceAdd, Nat.reduceSub, wipeE, List.foldl_cons, List.foldl_nil, Option.map_some, bi_mulA, bi_mulB, bi_fdv, bi_modI, bi_dvm, bi_rlen, kd_ix, bi_sumT, bi_mx2, bi_mn2, bi_intB, bi_lstT, bi_lstL, bi_sumI, is_nI, is_nN, isn_I, isn_N, eq_IN, eq_NI, eq_NN, ne_IN, ne_NI, ne_NN, eq_BB, ne_BB, neg_I, is_L, ow_L, it1_0, il1_0, it2_0, il2_0, it2_1, il2_1, it3_0, il3_0, it3_1, il3_1, it3_2, il3_2, it4_0, il4_0, it4_1, il4_1, it4_2, il4_2, it4_3, il4_3, it5_0, il5_0, it5_1, il5_1, it5_2, il5_2, it5_3, il5_3, it5_4, il5_4, un2, bt2, un3, bt3, un4, bt4, un5, bt5, bt1, stF, srcL, srcT, srcFL, srcFT, app_L, ext_L, add_L, add_T, bi_addI, bi_subI, bi_ltI, bi_leI, bi_gtI, bi_geI, bi_eqI, bi_neI, bi_is, bi_isnot, bi_tupL]
  have dd := dict_dC sf
  have mv := r_moved hm sf (by omega) mo ⟨mo, S "leave", t, mo - c.c⟩ (n + 1)
  have mv' : Phi T (n + 4) "House.moved" [.box b, .int mo, dC (h.s.cs.filter fun p => p.1 != t), .tup [.int mo, .str (S "leave"), .int t, .int (mo - c.c)]] m = _ := mv
  have tn := r_turn hm (by omega) (S "leave") (movedP h mo (h.s.cs.filter fun p => p.1 != t) ⟨mo, S "leave", t, mo - c.c⟩) (n + 3)
  have tn' : Phi T (n + 4) "House.turn_to" _ m = .ok .non (m.set b (false, insH (leaveP h t c mo))) := tn
  obtain ⟨Y, hY⟩ : ∃ Y, Y = ((h.s.cs.filter fun p => p.1 != t).map fun p => D.tup [.int p.1, insC p.2]) := ⟨_, rfl⟩
  obtain ⟨Z, hZ⟩ : ∃ Z, Z = (h.s.cs.filter fun p => p.1 != t) := ⟨_, rfl⟩
  rw [← hY] at cm dd
  rw [← hZ] at dd mv' tn'
  simp only [fd_House_leave, lk_box hm, mh_due, du, decN (show ¬ 0 < dueP h c mo by omega), fh_he, fs_cs, ix, fc_c, cm, dd, mh_turn_to, mh_moved, mv', tn', lk_i, lk_l, lk_t, lk_b, lk_n, lk_s, lk_C, lk_S, lk_D, lk_H, lk_T, lk_R, plc_f, plc_i, chg_bx, chgS_val, e_v, e_b, e_c, e_bin, e_neg, e_not, e_and, e_or, e_ife, e_cmp, e_ch2, e_tup, e_lst, e_idx, e_sl, e_call, e_bi, e_isi, e_bm, e_fld, e_rev, e_new, e_meth, e_box, e_isx, es_nil, es_cons, ec_nil, ec_cons, bind_ok, on_ok, then_nx, then_rt, then_exc, bind_exc, on_exc, up_some, tst_bl, mapMu_ok, calm_ok, lkOf_nil, lock_no, unlock_no, s_asg, s_asgO, s_unp, s_par, s_app, s_ext, s_seti, s_setf, s_raise, s_try, s_expr, s_ret, s_ife, s_for, s_whl, s_fz, s_pass, ss_nil, ss_cons, slot_0, slot_s, plc_b, chg_sl, rdV_val, rdB_val, rdB_own, endR_rt, endR_nx, endR_exc, List.map_cons, List.map_nil, List.cons_append, List.nil_append, List.replicate, List.set_cons_zero, List.set_cons_succ, look_nil, Bool.not_true, Bool.not_false, if_true, if_false, Bool.false_eq_true, reduceIte, List.length_cons, List.length_nil, Nat.reduceAdd, Nat.reduceSub, wipeE, List.foldl_cons, List.foldl_nil, Option.map_some, bi_mulA, bi_mulB, bi_fdv, bi_modI, bi_dvm, bi_rlen, kd_ix, bi_sumT, bi_mx2, bi_mn2, bi_intB, bi_lstT, bi_lstL, bi_sumI, is_nI, is_nN, isn_I, isn_N, eq_IN, eq_NI, eq_NN, ne_IN, ne_NI, ne_NN, eq_BB, ne_BB, neg_I, is_L, ow_L, it1_0, il1_0, it2_0, il2_0, it2_1, il2_1, it3_0, il3_0, it3_1, il3_1, it3_2, il3_2, it4_0, il4_0, it4_1, il4_1, it4_2, il4_2, it4_3, il4_3, it5_0, il5_0, it5_1, il5_1, it5_2, il5_2, it5_3, il5_3, it5_4, il5_4, un2, bt2, un3, bt3, un4, bt4, un5, bt5, bt1, stF, srcL, srcT, srcFL, srcFT, app_L, ext_L, add_L, add_T, bi_addI, bi_subI, bi_ltI, bi_leI, bi_gtI, bi_geI, bi_eqI, bi_neI, bi_is, bi_isnot, bi_tupL]
/-! ### what is shown -/
theorem ins_lt : ∀ {l : List Int} {x : Int}, (∀ y ∈ l, x < y) → insBy ltI x l = x :: l
  | [], _, _ => rfl
  | y :: l, x, h => by
    rw [insBy]
    have : ltI x y = true := decide_eq_true (h y List.mem_cons_self)
    rw [if_pos this]
theorem sort_lt : ∀ {l : List Int}, l.Pairwise (· < ·) → sortBy ltI l = l
  | [], _ => rfl
  | x :: l, h => by
    rw [sortBy, sort_lt (List.pairwise_cons.mp h).2, ins_lt (List.pairwise_cons.mp h).1]
theorem sorted_dC {cs : Cars} (hp : cs.Pairwise fun a b => a.1 < b.1) (hl : cs.length < 64) : biD .sorted [dC cs] = some (.lst (cs.map fun p => .int p.1)) := by
  show (if (cs.map _).length < 64 then (sortD ((cs.map fun p => ((.inl p.1 : Key), insC p.2)).map fun kv => keyD kv.1)).map D.lst else none) = _
  rw [if_pos (by rw [List.length_map]; exact hl), List.map_map]
  have e : ((fun kv : Key × D => keyD kv.1) ∘ fun p : Int × Car => ((.inl p.1 : Key), insC p.2)) = D.int ∘ fun p : Int × Car => p.1 := rfl
  rw [e, ← List.map_map]
  unfold sortD
  rw [asInts_map]
  show some (D.lst ((sortBy ltI (cs.map fun p => p.1)).map D.int)) = _
  rw [sort_lt (by rw [List.pairwise_map]; exact hp), List.map_map]
  rfl

theorem r_book (hm : m[b]? = some (false, insH h)) (n : Nat) : Phi T (n + 1) "House.book" [.box b] m = .ok (.lst (h.s.rows.map encR)) m := by
  rw [phi_run (show T "House.book" = some fd_House_book from rfl) rfl rfl]
  simp only [fd_House_book, lk_box hm, fh_he, fs_ro, lk_i, lk_l, lk_t, lk_b, lk_n, lk_s, lk_C, lk_S, lk_D, lk_H, lk_T, lk_R, plc_f, plc_i, chg_bx, chgS_val, e_v, e_b, e_c, e_bin, e_neg, e_not, e_and, e_or, e_ife, e_cmp, e_ch2, e_tup, e_lst, e_idx, e_sl, e_call, e_bi, e_isi, e_bm, e_fld, e_rev, e_new, e_meth, e_box, e_isx, es_nil, es_cons, ec_nil, ec_cons, bind_ok, on_ok, then_nx, then_rt, then_exc, bind_exc, on_exc, up_some, tst_bl, mapMu_ok, calm_ok, lkOf_nil, lock_no, unlock_no, s_asg, s_asgO, s_unp, s_par, s_app, s_ext, s_seti, s_setf, s_raise, s_try, s_expr, s_ret, s_ife, s_for, s_whl, s_fz, s_pass, ss_nil, ss_cons, slot_0, slot_s, plc_b, chg_sl, rdV_val, rdB_val, rdB_own, endR_rt, endR_nx, endR_exc, List.map_cons, List.map_nil, List.cons_append, List.nil_append, List.replicate, List.set_cons_zero, List.set_cons_succ, look_nil, Bool.not_true, Bool.not_false, if_true, if_false, Bool.false_eq_true, reduceIte, List.length_cons, List.length_nil, Nat.reduceAdd, Nat.reduceSub, wipeE, List.foldl_cons, List.foldl_nil, Option.map_some, bi_mulA, bi_mulB, bi_fdv, bi_modI, bi_dvm, bi_rlen, kd_ix, bi_sumT, bi_mx2, bi_mn2, bi_intB, bi_lstT, bi_lstL, bi_sumI, is_nI, is_nN, isn_I, isn_N, eq_IN, eq_NI, eq_NN, ne_IN, ne_NI, ne_NN, eq_BB, ne_BB, neg_I, is_L, ow_L, it1_0, il1_0, it2_0, il2_0, it2_1, il2_1, it3_0, il3_0, it3_1, il3_1, it3_2, il3_2, it4_0, il4_0, it4_1, il4_1, it4_2, il4_2, it4_3, il4_3, it5_0, il5_0, it5_1, il5_1, it5_2, il5_2, it5_3, il5_3, it5_4, il5_4, un2, bt2, un3, bt3, un4, bt4, un5, bt5, bt1, stF, srcL, srcT, srcFL, srcFT, app_L, ext_L, add_L, add_T, bi_addI, bi_subI, bi_ltI, bi_leI, bi_gtI, bi_geI, bi_eqI, bi_neI, bi_is, bi_isnot, bi_tupL]

def insP (h : Hs) : List (Int × Int) := h.s.cs.map fun p => (p.1, p.2.f)
theorem r_insideS (hm : m[b]? = some (false, insH h)) (srt : h.s.cs.Pairwise fun a b => a.1 < b.1) (hk : h.s.cs.length < 64) (n : Nat) : Phi T (n + 1) "House.inside" [.box b] m = .ok (.lst ((insP h).map enP)) m := by
  rw [phi_run (show T "House.inside" = some fd_House_inside from rfl) rfl rfl]
  have so := sorted_dC srt (by omega)
  have cm : ev (Phi T n) (.comp (.tup [(.v 1), (.fld (.idx (.fld (.fld (.v 0) "here") "cars") (.v 1)) "floor")]) (.one 1) .it [(.bi .sorted [(.fld (.fld (.v 0) "here") "cars")])] [] [1]) [.val (.box b), .no] m = .ok (.lst ((insP h).map enP)) m := by
    refine comp_srcM (ds := [.lst (h.s.cs.map fun p => .int p.1)]) (by simp only [lk_box hm, fh_he, fs_cs, so, lk_i, lk_l, lk_t, lk_b, lk_n, lk_s, lk_C, lk_S, lk_D, lk_H, lk_T, lk_R, plc_f, plc_i, chg_bx, chgS_val, e_v, e_b, e_c, e_bin, e_neg, e_not, e_and, e_or, e_ife, e_cmp, e_ch2, e_tup, e_lst, e_idx, e_sl, e_call, e_bi, e_isi, e_bm, e_fld, e_rev, e_new, e_meth, e_box, e_isx, es_nil, es_cons, ec_nil, ec_cons, bind_ok, on_ok, then_nx, then_rt, then_exc, bind_exc, on_exc, up_some, tst_bl, mapMu_ok, calm_ok, lkOf_nil, lock_no, unlock_no, s_asg, s_asgO, s_unp, s_par, s_app, s_ext, s_seti, s_setf, s_raise, s_try, s_expr, s_ret, s_ife, s_for, s_whl, s_fz, s_pass, ss_nil, ss_cons, slot_0, slot_s, plc_b, chg_sl, rdV_val, rdB_val, rdB_own, endR_rt, endR_nx, endR_exc, List.map_cons, List.map_nil, List.cons_append, List.nil_append, List.replicate, List.set_cons_zero, List.set_cons_succ, look_nil, Bool.not_true, Bool.not_false, if_true, if_false, Bool.false_eq_true, reduceIte, List.length_cons, List.length_nil, Nat.reduceAdd, Nat.reduceSub, wipeE, List.foldl_cons, List.foldl_nil, Option.map_some, bi_mulA, bi_mulB, bi_fdv, bi_modI, bi_dvm, bi_rlen, kd_ix, bi_sumT, bi_mx2, bi_mn2, bi_intB, bi_lstT, bi_lstL, bi_sumI, is_nI, is_nN, isn_I, isn_N, eq_IN, eq_NI, eq_NN, ne_IN, ne_NI, ne_NN, eq_BB, ne_BB, neg_I, is_L, ow_L, it1_0, il1_0, it2_0, il2_0, it2_1, il2_1, it3_0, il3_0, it3_1, il3_1, it3_2, il3_2, it4_0, il4_0, it4_1, il4_1, it4_2, il4_2, it4_3, il4_3, it5_0, il5_0, it5_1, il5_1, it5_2, il5_2, it5_3, il5_3, it5_4, il5_4, un2, bt2, un3, bt3, un4, bt4, un5, bt5, bt1, stF, srcL, srcT, srcFL, srcFT, app_L, ext_L, add_L, add_T, bi_addI, bi_subI, bi_ltI, bi_leI, bi_gtI, bi_geI, bi_eqI, bi_neI, bi_is, bi_isnot, bi_tupL]) lkOf_l srcL ?_
    unfold insP
    rw [List.map_map]
    refine loopC_map (enc := fun p : Int × Car => D.int p.1) fun p hpm => ?_
    have ix := idx_dC (getC_mem srt hpm)
    simp only [turnC, lk_box hm, fh_he, fs_cs, ix, fc_f, lk_i, lk_l, lk_t, lk_b, lk_n, lk_s, lk_C, lk_S, lk_D, lk_H, lk_T, lk_R, plc_f, plc_i, chg_bx, chgS_val, e_v, e_b, e_c, e_bin, e_neg, e_not, e_and, e_or, e_ife, e_cmp, e_ch2, e_tup, e_lst, e_idx, e_sl, e_call, e_bi, e_isi, e_bm, e_fld, e_rev, e_new, e_meth, e_box, e_isx, es_nil, es_cons, ec_nil, ec_cons, bind_ok, on_ok, then_nx, then_rt, then_exc, bind_exc, on_exc, up_some, tst_bl, mapMu_ok, calm_ok, lkOf_nil, lock_no, unlock_no, s_asg, s_asgO, s_unp, s_par, s_app, s_ext, s_seti, s_setf, s_raise, s_try, s_expr, s_ret, s_ife, s_for, s_whl, s_fz, s_pass, ss_nil, ss_cons, slot_0, slot_s, plc_b, chg_sl, rdV_val, rdB_val, rdB_own, endR_rt, endR_nx, endR_exc, List.map_cons, List.map_nil, List.cons_append, List.nil_append, List.replicate, List.set_cons_zero, List.set_cons_succ, look_nil, Bool.not_true, Bool.not_false, if_true, if_false, Bool.false_eq_true, reduceIte, List.length_cons, List.length_nil, Nat.reduceAdd, Nat.reduceSub, wipeE, List.foldl_cons, List.foldl_nil, Option.map_some, bi_mulA, bi_mulB, bi_fdv, bi_modI, bi_dvm, bi_rlen, kd_ix, bi_sumT, bi_mx2, bi_mn2, bi_intB, bi_lstT, bi_lstL, bi_sumI, is_nI, is_nN, isn_I, isn_N, eq_IN, eq_NI, eq_NN, ne_IN, ne_NI, ne_NN, eq_BB, ne_BB, neg_I, is_L, ow_L, it1_0, il1_0, it2_0, il2_0, it2_1, il2_1, it3_0, il3_0, it3_1, il3_1, it3_2, il3_2, it4_0, il4_0, it4_1, il4_1, it4_2, il4_2, it4_3, il4_3, it5_0, il5_0, it5_1, il5_1, it5_2, il5_2, it5_3, il5_3, it5_4, il5_4, un2, bt2, un3, bt3, un4, bt4, un5, bt5, bt1, stF, srcL, srcT, srcFL, srcFT, app_L, ext_L, add_L, add_T, bi_addI, bi_subI, bi_ltI, bi_leI, bi_gtI, bi_geI, bi_eqI, bi_neI, bi_is, bi_isnot, bi_tupL]
    rfl
  simp only [fd_House_inside, cm, e_v, e_b, e_c, e_bin, e_neg, e_not, e_and, e_or, e_ife, e_cmp, e_ch2, e_tup, e_lst, e_idx, e_sl, e_call, e_bi, e_isi, e_bm, e_fld, e_rev, e_new, e_meth, e_box, e_isx, es_nil, es_cons, ec_nil, ec_cons, bind_ok, on_ok, then_nx, then_rt, then_exc, bind_exc, on_exc, up_some, tst_bl, mapMu_ok, calm_ok, lkOf_nil, lock_no, unlock_no, s_asg, s_asgO, s_unp, s_par, s_app, s_ext, s_seti, s_setf, s_raise, s_try, s_expr, s_ret, s_ife, s_for, s_whl, s_fz, s_pass, ss_nil, ss_cons, slot_0, slot_s, plc_b, chg_sl, rdV_val, rdB_val, rdB_own, endR_rt, endR_nx, endR_exc, List.map_cons, List.map_nil, List.cons_append, List.nil_append, List.replicate, List.set_cons_zero, List.set_cons_succ, look_nil, Bool.not_true, Bool.not_false, if_true, if_false, Bool.false_eq_true, reduceIte, List.length_cons, List.length_nil, Nat.reduceAdd, Nat.reduceSub, wipeE, List.foldl_cons, List.foldl_nil, Option.map_some, bi_mulA, bi_mulB, bi_fdv, bi_modI, bi_dvm, bi_rlen, kd_ix, bi_sumT, bi_mx2, bi_mn2, bi_intB, bi_lstT, bi_lstL, bi_sumI, is_nI, is_nN, isn_I, isn_N, eq_IN, eq_NI, eq_NN, ne_IN, ne_NI, ne_NN, eq_BB, ne_BB, neg_I, is_L, ow_L, it1_0, il1_0, it2_0, il2_0, it2_1, il2_1, it3_0, il3_0, it3_1, il3_1, it3_2, il3_2, it4_0, il4_0, it4_1, il4_1, it4_2, il4_2, it4_3, il4_3, it5_0, il5_0, it5_1, il5_1, it5_2, il5_2, it5_3, il5_3, it5_4, il5_4, un2, bt2, un3, bt3, un4, bt4, un5, bt5, bt1, stF, srcL, srcT, srcFL, srcFT, app_L, ext_L, add_L, add_T, bi_addI, bi_subI, bi_ltI, bi_leI, bi_gtI, bi_geI, bi_eqI, bi_neI, bi_is, bi_isnot, bi_tupL]
theorem r_inside {k : Nat} (hm : m[b]? = some (false, insH h)) (g : GoodH k h) (hk : k < 64) (n : Nat) : Phi T (n + 1) "House.inside" [.box b] m = .ok (.lst ((insP h).map enP)) m :=
  r_insideS hm g.srt (by have := g.nc; omega) n

theorem r_twin (hm : m[b]? = some (false, insH h)) (n : Nat) : Phi T (n + 5) "House.twin" [.box b] m = .ok (.box m.length) (m ++ [(false, insH h)]) := by
  rw [phi_run (show T "House.twin" = some fd_House_twin from rfl) rfl rfl]
  have nw := r_house (m := m) (fl := h.fl) (tf := h.tf) (gr := h.gr) (ag := h.ag) n
  have bx : boxR (insH (newP h.fl h.tf h.gr h.ag)) m = .ok (.box m.length) (m ++ [(false, insH (newP h.fl h.tf h.gr h.ag))]) := rfl
  have bl : b < m.length := (List.getElem?_eq_some_iff.mp hm).1
  have k0 : ∀ x, (m ++ [x])[b]? = some (false, insH h) := fun x => by rw [List.getElem?_append_left bl]; exact hm
  have k1 : ∀ x : Bool × D, (m ++ [x])[m.length]? = some x := fun x => by simp
  have c1 := fun (r : Env) => chgB_to (r := r) (k1 (false, insH (newP h.fl h.tf h.gr h.ag))) (sh_he (h := newP h.fl h.tf h.gr h.ag) (s := h.s))
  have c2 := fun (r : Env) => chgB_to (r := r) (k1 (false, insH { newP h.fl h.tf h.gr h.ag with s := h.s })) (sh_go (h := { newP h.fl h.tf h.gr h.ag with s := h.s }) (g := h.gone))
  have c3 := fun (r : Env) => chgB_to (r := r) (k1 (false, insH { newP h.fl h.tf h.gr h.ag with s := h.s, gone := h.gone })) (sh_co (h := { newP h.fl h.tf h.gr h.ag with s := h.s, gone := h.gone }) (g := h.coming))
  have st : ∀ x y : Bool × D, (m ++ [x]).set m.length y = m ++ [y] := fun x y => by
    rw [List.set_append_right _ _ (Nat.le_refl _), Nat.sub_self]
    rfl
  rw [st] at c1 c2 c3
  have fz : freeze [.val (.box b), .val (.box m.length)] [1] = [.val (.box b), .val (.box m.length)] := rfl
  simp only [fd_House_twin, fz, lk_box hm, fh_fl, fh_tf, fh_gr, fh_ag, nw, bx, lk_box (k0 _), fh_he, c1, fh_go, fh_co, c2, c3, lk_i, lk_l, lk_t, lk_b, lk_n, lk_s, lk_C, lk_S, lk_D, lk_H, lk_T, lk_R, plc_f, plc_i, chg_bx, chgS_val, e_v, e_b, e_c, e_bin, e_neg, e_not, e_and, e_or, e_ife, e_cmp, e_ch2, e_tup, e_lst, e_idx, e_sl, e_call, e_bi, e_isi, e_bm, e_fld, e_rev, e_new, e_meth, e_box, e_isx, es_nil, es_cons, ec_nil, ec_cons, bind_ok, on_ok, then_nx, then_rt, then_exc, bind_exc, on_exc, up_some, tst_bl, mapMu_ok, calm_ok, lkOf_nil, lock_no, unlock_no, s_asg, s_asgO, s_unp, s_par, s_app, s_ext, s_seti, s_setf, s_raise, s_try, s_expr, s_ret, s_ife, s_for, s_whl, s_fz, s_pass, ss_nil, ss_cons, slot_0, slot_s, plc_b, chg_sl, rdV_val, rdB_val, rdB_own, endR_rt, endR_nx, endR_exc, List.map_cons, List.map_nil, List.cons_append, List.nil_append, List.replicate, List.set_cons_zero, List.set_cons_succ, look_nil, Bool.not_true, Bool.not_false, if_true, if_false, Bool.false_eq_true, reduceIte, List.length_cons, List.length_nil, Nat.reduceAdd, Nat.reduceSub, wipeE, List.foldl_cons, List.foldl_nil, Option.map_some, bi_mulA, bi_mulB, bi_fdv, bi_modI, bi_dvm, bi_rlen, kd_ix, bi_sumT, bi_mx2, bi_mn2, bi_intB, bi_lstT, bi_lstL, bi_sumI, is_nI, is_nN, isn_I, isn_N, eq_IN, eq_NI, eq_NN, ne_IN, ne_NI, ne_NN, eq_BB, ne_BB, neg_I, is_L, ow_L, it1_0, il1_0, it2_0, il2_0, it2_1, il2_1, it3_0, il3_0, it3_1, il3_1, it3_2, il3_2, it4_0, il4_0, it4_1, il4_1, it4_2, il4_2, it4_3, il4_3, it5_0, il5_0, it5_1, il5_1, it5_2, il5_2, it5_3, il5_3, it5_4, il5_4, un2, bt2, un3, bt3, un4, bt4, un5, bt5, bt1, stF, srcL, srcT, srcFL, srcFT, app_L, ext_L, add_L, add_T, bi_addI, bi_subI, bi_ltI, bi_leI, bi_gtI, bi_geI, bi_eqI, bi_neI, bi_is, bi_isnot, bi_tupL]
  rfl
end

/-! ### what stays true -/
def cntF (cs : Cars) (i : Nat) : Nat := (cs.map fun q => q.2.f).countP (· == (i : Int))
theorem free_mem {fl : List Int} {cs : Cars} {x : Int} : x ∈ freeP fl cs ↔ ∃ i a, fl[i]? = some a ∧ x = a - cntF cs i := by
  unfold freeP cntF
  rw [List.mem_map]
  constructor
  · rintro ⟨⟨a, i⟩, h1, rfl⟩
    exact ⟨i, a, List.mk_mem_zipIdx_iff_getElem?.mp h1, rfl⟩
  · rintro ⟨i, a, h1, rfl⟩
    exact ⟨(a, i), List.mk_mem_zipIdx_iff_getElem?.mpr h1, rfl⟩
theorem free_at {fl : List Int} {cs : Cars} {i : Nat} {a : Int} (h : fl[i]? = some a) : (freeP fl cs)[i]? = some (a - cntF cs i) := by
  unfold freeP cntF
  rw [List.getElem?_map, List.getElem?_zipIdx, h]
  simp
theorem free_getD {fl : List Int} {cs : Cars} {i : Nat} (h : i < fl.length) : (freeP fl cs).getD i 0 = fl.getD i 0 - cntF cs i := by
  rw [List.getD_eq_getElem?_getD, List.getD_eq_getElem?_getD, free_at (List.getElem?_eq_getElem h), List.getElem?_eq_getElem h]
  rfl
theorem best_ok {sp : List Int} (ne : sp ≠ []) : 0 ≤ bestI sp ∧ (bestI sp).toNat < sp.length ∧ sp[(bestI sp).toNat]? = some (mxI sp) := by
  unfold bestI ixP
  have hm := (mxI_mem ne).1
  have hl : (sp.findIdx fun z => z == mxI sp) < sp.length := List.findIdx_lt_length_of_exists ⟨_, hm, beq_self_eq_true _⟩
  have e : (((sp.findIdx fun z => z == mxI sp : Nat) : Int)).toNat = sp.findIdx fun z => z == mxI sp := Int.toNat_natCast _
  rw [e]
  refine ⟨Int.natCast_nonneg _, hl, ?_⟩
  rw [List.getElem?_eq_getElem hl]
  have := List.findIdx_getElem (w := hl)
  rw [beq_iff_eq] at this
  rw [this]
theorem free_ne {fl : List Int} {cs : Cars} (h : fl ≠ []) : freeP fl cs ≠ [] := fun e => by
  have := congrArg List.length e
  rw [free_len] at this
  exact h (List.eq_nil_of_length_eq_zero this)
theorem sum_zero : ∀ {l : List Int}, (∀ x ∈ l, 0 ≤ x) → (l.sum = 0 ↔ ∀ x ∈ l, x = 0) ∧ 0 ≤ l.sum
  | [], _ => ⟨⟨fun _ x hx => (by cases hx), fun _ => rfl⟩, Int.le_refl _⟩
  | x :: l, h => by
    obtain ⟨i1, i2⟩ := sum_zero (l := l) fun y hy => h y (List.mem_cons_of_mem _ hy)
    have hx := h x List.mem_cons_self
    rw [List.sum_cons]
    refine ⟨⟨fun e y hy => ?_, fun e => ?_⟩, by omega⟩
    · rcases List.mem_cons.mp hy with rfl | hy
      · omega
      · exact i1.mp (by omega) y hy
    · rw [e x List.mem_cons_self, i1.mpr fun y hy => e y (List.mem_cons_of_mem _ hy)]
      rfl
theorem mx_pos {sp : List Int} (ne : sp ≠ []) (h : ∀ x ∈ sp, 0 ≤ x) (hs : sp.sum ≠ 0) : 0 < mxI sp := by
  rcases Int.lt_or_le 0 (mxI sp) with z | z
  · exact z
  · exact absurd ((sum_zero h).1.mpr fun x hx => by
      have := (mxI_mem ne).2 x hx
      have := h x hx
      omega) hs
theorem cntF_app {cs cs' : Cars} {i : Nat} : cntF (cs ++ cs') i = cntF cs i + cntF cs' i := by
  unfold cntF
  rw [List.map_append, List.countP_append]
theorem cntF_one {t : Int} {c : Car} {i : Nat} : cntF [(t, c)] i = if c.f = i then 1 else 0 := by
  unfold cntF
  simp [List.countP_cons]
theorem cntF_filter {cs : Cars} {p : Int × Car → Bool} {i : Nat} : cntF (cs.filter p) i ≤ cntF cs i := by
  unfold cntF
  rw [List.countP_map, List.countP_map]
  exact List.Sublist.countP_le List.filter_sublist
theorem cntF_set : ∀ {cs : Cars}, cs.Pairwise (fun a b => a.1 < b.1) → ∀ {t : Int} {c c' : Car} {i : Nat}, getC cs t = some c → cntF (cs.map fun p => if p.1 = t then (p.1, c') else p) i + (if c.f = i then 1 else 0) = cntF cs i + (if c'.f = i then 1 else 0)
  | [], _, t, c, c', i, h => by cases h
  | p :: cs, hp, t, c, c', i, h => by
    have hp2 := List.pairwise_cons.mp hp
    have e1 : ∀ (q : Int × Car) (l : Cars), cntF (q :: l) i = (if q.2.f = i then 1 else 0) + cntF l i := fun q l => by
      have := cntF_app (cs := [q]) (cs' := l) (i := i)
      rw [cntF_one (t := q.1) (c := q.2)] at this
      exact this
    rw [List.map_cons, e1, e1]
    by_cases e : p.1 = t
    · rw [if_pos e]
      have hc : p.2 = c := by
        unfold getC at h
        rw [List.find?_cons, decide_eq_true e] at h
        simpa using h
      have hr : (cs.map fun p => if p.1 = t then (p.1, c') else p) = cs := by
        conv => rhs; rw [← List.map_id cs]
        apply List.map_congr_left
        intro q hq
        have := hp2.1 q hq
        rw [if_neg (by omega)]
        rfl
      rw [hr, hc]
      show (if c'.f = (i : Int) then 1 else 0) + _ + _ = _
      omega
    · rw [if_neg e]
      have h' : getC cs t = some c := by
        unfold getC at h ⊢
        rw [List.find?_cons, decide_eq_false e] at h
        exact h
      have ih := cntF_set hp2.2 (c' := c') (i := i) h'
      omega
theorem good_new {fl : List Int} {tf : Tar} {gr ag : Int} (ne : fl ≠ []) (hf : ∀ f ∈ fl, 1 ≤ f) (gt : GT tf) : GoodH 0 (newP fl tf gr ag) := by
  have fr : freeP fl [] = fl := by
    apply List.ext_getElem?
    intro i
    cases e : fl[i]? with
    | none =>
      rw [List.getElem?_eq_none_iff] at e ⊢
      rw [free_len]
      exact e
    | some a =>
      rw [free_at e]
      simp [cntF]
  refine ⟨ne, hf, gt, List.Pairwise.nil, fun p hp => (by cases hp), fun p hp => (by cases hp), fun x hx => ?_, fun hs => ?_, Nat.le_refl _, Nat.le_refl _, Nat.le_refl _, Int.le_refl _, Int.le_refl _⟩
  · rw [show (newP fl tf gr ag).fl = fl from rfl, show (newP fl tf gr ag).s.cs = [] from rfl, fr] at hx
    have := hf x hx
    omega
  · rw [show (newP fl tf gr ag).fl = fl from rfl, show (newP fl tf gr ag).s.cs = [] from rfl, fr] at hs
    exfalso
    have hz := (sum_zero (l := fl) fun x hx => by have := hf x hx; omega).1.mp hs
    cases fl with
    | nil => exact ne rfl
    | cons x l =>
      have := hf x List.mem_cons_self
      have := hz x List.mem_cons_self
      omega
theorem cntR_snoc {rows : List Row} {r : Row} : cntR (rows ++ [r]) = cntR rows + if (r.w == S "come" || r.w == S "card") = true then 1 else 0 := by
  unfold cntR
  rw [List.countP_append, List.countP_cons, List.countP_nil]
  split <;> simp
theorem cntR_nn {rows : List Row} : 0 ≤ cntR rows := Int.natCast_nonneg _
/-- a step: what has to be shown of the cars alone -/
theorem good_turn {k : Nat} {h : Hs} (g : GoodH k h) {w : Str} {mo : Int} {cs : Cars} {r : Row} (hmo : h.s.la ≤ mo) (hmx : mo ≤ h.s.la + 100000) (srt : cs.Pairwise fun a b => a.1 < b.1) (key : ∀ p ∈ cs, 0 ≤ p.1 ∧ p.1 < cntR (h.s.rows ++ [r])) (car : ∀ p ∈ cs, 0 ≤ p.2.c ∧ p.2.c ≤ mo ∧ 0 ≤ p.2.f ∧ p.2.f < h.fl.length)
    (free : ∀ i a, h.fl[i]? = some a → (cntF cs i : Int) ≤ a) (nc : cs.length ≤ h.s.cs.length + 1) : GoodH (k + 1) (turnP h w (movedP h mo cs r)) := by
  have gnr := g.nr
  have gng := g.ng
  have gnc := g.nc
  have gla := g.la
  have glb := g.lb
  refine ⟨g.fne, g.fpos, g.gt, srt, key, car, fun x hx => ?_, fun hs => ?_, ?_, ?_, ?_, ?_, ?_⟩
  · obtain ⟨i, a, h1, rfl⟩ := free_mem.mp hx
    have := free i a h1
    show 0 ≤ a - (cntF cs i : Int)
    omega
  · show shutP h.s.sh (freeP h.fl cs) h.ag = true
    have hs : (freeP h.fl cs).sum = 0 := hs
    unfold shutP
    rw [hs]
    rfl
  · show (h.s.rows ++ [r]).length ≤ k + 1
    rw [List.length_append]
    show _ + 1 ≤ _
    omega
  · show (h.gone ++ [(w, h.s)]).length ≤ k + 1
    rw [List.length_append]
    show _ + 1 ≤ _
    omega
  · show cs.length ≤ k + 1
    omega
  · show 0 ≤ mo
    omega
  · show mo ≤ 100000 * ((k + 1 : Nat) : Int)
    omega
theorem cnt_le {k : Nat} {h : Hs} (g : GoodH k h) {i : Nat} {a : Int} (h1 : h.fl[i]? = some a) : (cntF h.s.cs i : Int) ≤ a := by
  have := g.free _ (free_mem.mpr ⟨i, a, h1, rfl⟩)
  omega
theorem good_enter {k : Nat} {h : Hs} (g : GoodH k h) (hs : h.s.sh = false) {mo : Int} (hmo : h.s.la ≤ mo) (hmx : mo ≤ h.s.la + 100000) {w : Str} (hw : (w == S "come" || w == S "card") = true) {nm : D} : GoodH (k + 1) (enterP h mo w nm) := by
  have hnew : ∀ p ∈ h.s.cs, p.1 < cntR h.s.rows := fun p hp => (g.key p hp).2
  have ne := free_ne (cs := h.s.cs) g.fne
  obtain ⟨b0, b1, b2⟩ := best_ok ne
  have bl : bestI (freeP h.fl h.s.cs) < h.fl.length := by rw [free_len] at b1; omega
  have mp : 0 < mxI (freeP h.fl h.s.cs) := mx_pos ne g.free fun z => by
    have := g.shut z
    rw [hs] at this
    cases this
  have hcr : cntR (h.s.rows ++ [⟨mo, w, cntR h.s.rows, bestI (freeP h.fl h.s.cs)⟩]) = cntR h.s.rows + 1 := by
    rw [cntR_snoc, if_pos hw]
  have gla := g.la
  have nn := cntR_nn (rows := h.s.rows)
  unfold enterP
  rw [setC_new hnew]
  refine good_turn g hmo hmx (srt_new g.srt hnew) (fun p hp => ?_) (fun p hp => ?_) (fun i a h1 => ?_) (by rw [List.length_append]; exact Nat.le_refl _)
  · rw [hcr]
    rcases List.mem_append.mp hp with z | z
    · have := g.key p z
      omega
    · obtain rfl := List.mem_singleton.mp z
      dsimp only
      omega
  · rcases List.mem_append.mp hp with z | z
    · have := g.car p z
      omega
    · obtain rfl := List.mem_singleton.mp z
      dsimp only
      omega
  · rw [cntF_app, cntF_one]
    have hi := cnt_le g h1
    split
    · rename_i e
      dsimp only at e
      have e2 : (bestI (freeP h.fl h.s.cs)).toNat = i := by omega
      rw [e2, free_at h1] at b2
      have := Option.some.inj b2
      omega
    · omega
theorem good_come {k : Nat} {h : Hs} (g : GoodH k h) (hs : h.s.sh = false) {mo : Int} (hmo : h.s.la ≤ mo) (hmx : mo ≤ h.s.la + 100000) : GoodH (k + 1) (comeP h mo) := good_enter g hs hmo hmx (by decide +kernel)
theorem noNm_come {h : Hs} (hn : NoNm h) {mo : Int} : NoNm (comeP h mo) := fun p hp => by
  have hp : p ∈ setC h.s.cs (cntR h.s.rows) ⟨mo, bestI (freeP h.fl h.s.cs), 0, -1, .non⟩ := hp
  unfold setC at hp
  split at hp
  · obtain ⟨q, h1, rfl⟩ := List.mem_map.mp hp
    split
    · rfl
    · exact hn q h1
  · rcases List.mem_append.mp hp with z | z
    · exact hn p z
    · obtain rfl := List.mem_singleton.mp z
      rfl
/-- a car in the dict is exchanged -/
theorem good_set {k : Nat} {h : Hs} (g : GoodH k h) {t : Int} {c c' : Car} (ht : getC h.s.cs t = some c) (hc : c'.c = c.c) {mo : Int} (hmo : h.s.la ≤ mo) (hmx : mo ≤ h.s.la + 100000) (hf : 0 ≤ c'.f ∧ c'.f < h.fl.length) (hr : c'.f = c.f ∨ 0 < (freeP h.fl h.s.cs).getD c'.f.toNat 0) {w : Str} {r : Row} : GoodH (k + 1) (turnP h w (movedP h mo (setC h.s.cs t c') r)) := by
  have gla := g.la
  have gc := g.car _ (getC_in ht)
  have e1 : ∀ p : Int × Car, (if p.1 = t then (p.1, c') else p).1 = p.1 := fun p => by split <;> rfl
  have cr : cntR h.s.rows ≤ cntR (h.s.rows ++ [r]) := by
    rw [cntR_snoc]
    split <;> omega
  rw [setC_get g.srt ht]
  refine good_turn g hmo hmx (srt_map g.srt) (fun p hp => ?_) (fun p hp => ?_) (fun i a h1 => ?_) (by rw [List.length_map]; omega)
  · obtain ⟨q, h1, rfl⟩ := List.mem_map.mp hp
    rw [e1]
    have := g.key q h1
    omega
  · obtain ⟨q, h1, rfl⟩ := List.mem_map.mp hp
    have := g.car q h1
    split
    · dsimp only at gc ⊢
      omega
    · omega
  · have e := cntF_set g.srt (c' := c') (i := i) ht
    have hi := cnt_le g h1
    rcases hr with hr | hr
    · rw [hr] at e
      omega
    · by_cases hx : c'.f = i
      · have e2 : c'.f.toNat = i := by omega
        have hl : i < h.fl.length := by omega
        rw [e2, free_getD hl] at hr
        have e3 : h.fl.getD i 0 = a := by rw [List.getD_eq_getElem?_getD, h1] <;> rfl
        rw [e3] at hr
        rw [if_pos hx] at e
        omega
      · rw [if_neg hx] at e
        omega
theorem good_pay {k : Nat} {h : Hs} (g : GoodH k h) {t : Int} {c : Car} (ht : getC h.s.cs t = some c) {mo : Int} (hmo : h.s.la ≤ mo) (hmx : mo ≤ h.s.la + 100000) {a : Int} : GoodH (k + 1) (payP h t c mo a) := by
  have gc := g.car _ (getC_in ht)
  exact good_set (c' := ⟨c.c, c.f, c.p + a, if a = dueP h c mo then mo + h.gr else c.q, c.nm⟩) g ht rfl hmo hmx (by dsimp only at gc ⊢; omega) (.inl rfl)
theorem good_shift {k : Nat} {h : Hs} (g : GoodH k h) {t : Int} {c : Car} (ht : getC h.s.cs t = some c) {mo : Int} (hmo : h.s.la ≤ mo) (hmx : mo ≤ h.s.la + 100000) {f : Int} (h0 : 0 ≤ f) (h1 : f < h.fl.length) (hr : roomF h c f = true) : GoodH (k + 1) (shiftP h t c mo f) := by
  refine good_set (c' := ⟨c.c, f, c.p, c.q, c.nm⟩) g ht rfl hmo hmx ⟨h0, h1⟩ ?_
  unfold roomF at hr
  rw [Bool.or_eq_true, beq_iff_eq, Bool.not_eq_true', beq_eq_false_iff_ne] at hr
  rcases hr with hr | hr
  · exact .inl hr
  · right
    show 0 < (freeP h.fl h.s.cs).getD f.toNat 0
    have hl : f.toNat < (freeP h.fl h.s.cs).length := by rw [free_len]; omega
    have := g.free ((freeP h.fl h.s.cs).getD f.toNat 0) (by
      rw [List.getD_eq_getElem?_getD, List.getElem?_eq_getElem hl]
      exact List.getElem_mem hl)
    omega
theorem good_leave {k : Nat} {h : Hs} (g : GoodH k h) {t : Int} {c : Car} {mo : Int} (hmo : h.s.la ≤ mo) (hmx : mo ≤ h.s.la + 100000) : GoodH (k + 1) (leaveP h t c mo) := by
  have cr : ∀ r, cntR h.s.rows ≤ cntR (h.s.rows ++ [r]) := fun r => by
    rw [cntR_snoc]
    split <;> omega
  refine good_turn g hmo hmx (g.srt.filter _) (fun p hp => ?_) (fun p hp => ?_) (fun i a h1 => ?_) ?_
  · have := g.key p (List.mem_filter.mp hp).1
    have := cr ⟨mo, S "leave", t, mo - c.c⟩
    omega
  · have := g.car p (List.mem_filter.mp hp).1
    omega
  · have := cnt_le g h1
    have := cntF_filter (cs := h.s.cs) (p := fun p => p.1 != t) (i := i)
    omega
  · have := List.length_filter_le (fun p : Int × Car => p.1 != t) h.s.cs
    omega
theorem noNm_pay {h : Hs} (hn : NoNm h) {t : Int} {c c' : Car} (hc : c'.nm = .non) {w : Str} {mo : Int} {r : Row} : NoNm (turnP h w (movedP h mo (setC h.s.cs t c') r)) := fun p hp => by
  have hp : p ∈ setC h.s.cs t c' := hp
  unfold setC at hp
  split at hp
  · obtain ⟨q, h1, rfl⟩ := List.mem_map.mp hp
    split
    · exact hc
    · exact hn q h1
  · rcases List.mem_append.mp hp with z | z
    · exact hn p z
    · obtain rfl := List.mem_singleton.mp z
      exact hc
theorem noNm_leave {h : Hs} (hn : NoNm h) {t : Int} {c : Car} {mo : Int} : NoNm (leaveP h t c mo) := fun p hp => hn p (List.mem_filter.mp hp).1

/-! ### steps by their words -/
def refD (k : Int) : D := .tup [.str (S "refused"), .int k]
def refIx : List String := ["NoTime", "NoTicket", "NoSum", "Owes", "NoFloor", "Full", "Shut", "NoCard", "Taken", "Inside", "NotOpen", "NoBack"]
theorem rf_all : ∀ p ∈ refIx.zipIdx, ∀ F m, endR (exs F fd__law_refused.bd [.val (.exc p.1), .no] m) = .ok (refD p.2) m := by
  intro p hp F m
  simp only [refIx, List.zipIdx_cons, List.zipIdx_nil, List.mem_cons, List.not_mem_nil, or_false] at hp
  rcases hp with rfl | rfl | rfl | rfl | rfl | rfl | rfl | rfl | rfl | rfl | rfl | rfl <;> kernel_rfl
theorem r_ref {c : String} {k : Nat} (h : (c, k) ∈ refIx.zipIdx) {m : Mu} (n : Nat) : Phi T (n + 1) "_law_refused" [.exc c] m = .ok (refD k) m := by
  rw [phi_run (show T "_law_refused" = some fd__law_refused from rfl) rfl rfl]
  exact rf_all (c, k) h _ _
theorem try_rt {F : Fn} {c : String} {ks : List String} {nm : Option Nat} {su : List Wh.St} {d : D} {r : Env} {m : Mu} : tryR F c ks nm su (.rt d r m) = .rt d r m := rfl
theorem try_nx {F : Fn} {c : String} {ks : List String} {nm : Option Nat} {su : List Wh.St} {r : Env} {m : Mu} : tryR F c ks nm su (.nx r m) = .nx r m := rfl
theorem try_ex {F : Fn} {c x : String} {ks : List String} {i : Nat} {su : List Wh.St} {d : D} {r r' : Env} {m m' : Mu} (h1 : ks.contains x = true) (h2 : subx x c = true) (h3 : exs F su (r.set i (.val (.exc x))) m = .rt d r' m') (h4 : noX d = true) : tryR F c ks (some i) su (.exc x r m) = .rt d r' m' := by
  have e : ¬ (true = false) := by decide
  simp only [tryR, h1, h2, h3, h4, if_neg e, if_true]
def doneKs : List String := match fd__law_done.bd with
  | [.try_ _ _ ks _ _] => ks
  | _ => []
theorem ref_in : ∀ p ∈ refIx.zipIdx, doneKs.contains p.1 = true ∧ subx p.1 "StayError" = true := by decide
section
variable {m m' : Mu} {b : Nat} {h : Hs} {n : Nat}
theorem w_come_come : cmpD .eq (.str (S "come")) (.str (S "come")) = some (.bl true) := by kernel_rfl
theorem w_come_pay : cmpD .eq (.str (S "come")) (.str (S "pay")) = some (.bl false) := by kernel_rfl
theorem w_come_shift : cmpD .eq (.str (S "come")) (.str (S "shift")) = some (.bl false) := by kernel_rfl
theorem w_come_leave : cmpD .eq (.str (S "come")) (.str (S "leave")) = some (.bl false) := by kernel_rfl
theorem w_pay_come : cmpD .eq (.str (S "pay")) (.str (S "come")) = some (.bl false) := by kernel_rfl
theorem w_pay_pay : cmpD .eq (.str (S "pay")) (.str (S "pay")) = some (.bl true) := by kernel_rfl
theorem w_pay_shift : cmpD .eq (.str (S "pay")) (.str (S "shift")) = some (.bl false) := by kernel_rfl
theorem w_pay_leave : cmpD .eq (.str (S "pay")) (.str (S "leave")) = some (.bl false) := by kernel_rfl
theorem w_shift_come : cmpD .eq (.str (S "shift")) (.str (S "come")) = some (.bl false) := by kernel_rfl
theorem w_shift_pay : cmpD .eq (.str (S "shift")) (.str (S "pay")) = some (.bl false) := by kernel_rfl
theorem w_shift_shift : cmpD .eq (.str (S "shift")) (.str (S "shift")) = some (.bl true) := by kernel_rfl
theorem w_shift_leave : cmpD .eq (.str (S "shift")) (.str (S "leave")) = some (.bl false) := by kernel_rfl
theorem w_leave_come : cmpD .eq (.str (S "leave")) (.str (S "come")) = some (.bl false) := by kernel_rfl
theorem w_leave_pay : cmpD .eq (.str (S "leave")) (.str (S "pay")) = some (.bl false) := by kernel_rfl
theorem w_leave_shift : cmpD .eq (.str (S "leave")) (.str (S "shift")) = some (.bl false) := by kernel_rfl
theorem w_leave_leave : cmpD .eq (.str (S "leave")) (.str (S "leave")) = some (.bl true) := by kernel_rfl
theorem w_due_come : cmpD .eq (.str (S "due")) (.str (S "come")) = some (.bl false) := by kernel_rfl
theorem w_due_pay : cmpD .eq (.str (S "due")) (.str (S "pay")) = some (.bl false) := by kernel_rfl
theorem w_due_shift : cmpD .eq (.str (S "due")) (.str (S "shift")) = some (.bl false) := by kernel_rfl
theorem w_due_leave : cmpD .eq (.str (S "due")) (.str (S "leave")) = some (.bl false) := by kernel_rfl
theorem d_come (hm : m[b]? = some (false, insH h)) {x : D} {d : D} (e : Phi T (n + 1) "House.come" [.box b, x] m = .ok d m') : Phi T (n + 2) "_law_done" [.box b, .tup [.str (S "come"), x]] m = .ok d m' := by
  rw [phi_run (show T "_law_done" = some fd__law_done from rfl) rfl rfl]
  simp only [fd__law_done, w_come_come, lk_box hm, mh_come, e, try_rt, lk_i, lk_l, lk_t, lk_b, lk_n, lk_s, lk_C, lk_S, lk_D, lk_H, lk_T, lk_R, plc_f, plc_i, chg_bx, chgS_val, e_v, e_b, e_c, e_bin, e_neg, e_not, e_and, e_or, e_ife, e_cmp, e_ch2, e_tup, e_lst, e_idx, e_sl, e_call, e_bi, e_isi, e_bm, e_fld, e_rev, e_new, e_meth, e_box, e_isx, es_nil, es_cons, ec_nil, ec_cons, bind_ok, on_ok, then_nx, then_rt, then_exc, bind_exc, on_exc, up_some, tst_bl, mapMu_ok, calm_ok, lkOf_nil, lock_no, unlock_no, s_asg, s_asgO, s_unp, s_par, s_app, s_ext, s_seti, s_setf, s_raise, s_try, s_expr, s_ret, s_ife, s_for, s_whl, s_fz, s_pass, ss_nil, ss_cons, slot_0, slot_s, plc_b, chg_sl, rdV_val, rdB_val, rdB_own, endR_rt, endR_nx, endR_exc, List.map_cons, List.map_nil, List.cons_append, List.nil_append, List.replicate, List.set_cons_zero, List.set_cons_succ, look_nil, Bool.not_true, Bool.not_false, if_true, if_false, Bool.false_eq_true, reduceIte, List.length_cons, List.length_nil, Nat.reduceAdd, Nat.reduceSub, wipeE, List.foldl_cons, List.foldl_nil, Option.map_some, bi_mulA, bi_mulB, bi_fdv, bi_modI, bi_dvm, bi_rlen, kd_ix, bi_sumT, bi_mx2, bi_mn2, bi_intB, bi_lstT, bi_lstL, bi_sumI, is_nI, is_nN, isn_I, isn_N, eq_IN, eq_NI, eq_NN, ne_IN, ne_NI, ne_NN, eq_BB, ne_BB, neg_I, is_L, ow_L, it1_0, il1_0, it2_0, il2_0, it2_1, il2_1, it3_0, il3_0, it3_1, il3_1, it3_2, il3_2, it4_0, il4_0, it4_1, il4_1, it4_2, il4_2, it4_3, il4_3, it5_0, il5_0, it5_1, il5_1, it5_2, il5_2, it5_3, il5_3, it5_4, il5_4, un2, bt2, un3, bt3, un4, bt4, un5, bt5, bt1, stF, srcL, srcT, srcFL, srcFT, app_L, ext_L, add_L, add_T, bi_addI, bi_subI, bi_ltI, bi_leI, bi_gtI, bi_geI, bi_eqI, bi_neI, bi_is, bi_isnot, bi_tupL]
theorem x_come (hm : m[b]? = some (false, insH h)) {x : D} {c : String} {k : Nat} (hc : (c, k) ∈ refIx.zipIdx) (e : Phi T (n + 1) "House.come" [.box b, x] m = .exc c m') : Phi T (n + 2) "_law_done" [.box b, .tup [.str (S "come"), x]] m = .ok (refD k) m' := by
  rw [phi_run (show T "_law_done" = some fd__law_done from rfl) rfl rfl]
  have rf := r_ref hc (m := m') n
  have t := fun (r' : Env) => try_ex (F := Phi T (n + 1)) (c := "StayError") (x := c) (ks := doneKs) (i := 2) (su := [(.ret (.call "_law_refused" [(.v 2)]))]) (d := refD k) (r := [.val (.box b), .val (.tup [.str (S "come"), x]), .no]) (r' := [.val (.box b), .val (.tup [.str (S "come"), x]), .val (.exc c)]) (m := m') (m' := m') (ref_in _ hc).1 (ref_in _ hc).2 (by simp only [rf, e_v, e_b, e_c, e_bin, e_neg, e_not, e_and, e_or, e_ife, e_cmp, e_ch2, e_tup, e_lst, e_idx, e_sl, e_call, e_bi, e_isi, e_bm, e_fld, e_rev, e_new, e_meth, e_box, e_isx, es_nil, es_cons, ec_nil, ec_cons, bind_ok, on_ok, then_nx, then_rt, then_exc, bind_exc, on_exc, up_some, tst_bl, mapMu_ok, calm_ok, lkOf_nil, lock_no, unlock_no, s_asg, s_asgO, s_unp, s_par, s_app, s_ext, s_seti, s_setf, s_raise, s_try, s_expr, s_ret, s_ife, s_for, s_whl, s_fz, s_pass, ss_nil, ss_cons, slot_0, slot_s, plc_b, chg_sl, rdV_val, rdB_val, rdB_own, endR_rt, endR_nx, endR_exc, List.map_cons, List.map_nil, List.cons_append, List.nil_append, List.replicate, List.set_cons_zero, List.set_cons_succ, look_nil, Bool.not_true, Bool.not_false, if_true, if_false, Bool.false_eq_true, reduceIte, List.length_cons, List.length_nil, Nat.reduceAdd, Nat.reduceSub, wipeE, List.foldl_cons, List.foldl_nil, Option.map_some, bi_mulA, bi_mulB, bi_fdv, bi_modI, bi_dvm, bi_rlen, kd_ix, bi_sumT, bi_mx2, bi_mn2, bi_intB, bi_lstT, bi_lstL, bi_sumI, is_nI, is_nN, isn_I, isn_N, eq_IN, eq_NI, eq_NN, ne_IN, ne_NI, ne_NN, eq_BB, ne_BB, neg_I, is_L, ow_L, it1_0, il1_0, it2_0, il2_0, it2_1, il2_1, it3_0, il3_0, it3_1, il3_1, it3_2, il3_2, it4_0, il4_0, it4_1, il4_1, it4_2, il4_2, it4_3, il4_3, it5_0, il5_0, it5_1, il5_1, it5_2, il5_2, it5_3, il5_3, it5_4, il5_4, un2, bt2, un3, bt3, un4, bt4, un5, bt5, bt1, stF, srcL, srcT, srcFL, srcFT, app_L, ext_L, add_L, add_T, bi_addI, bi_subI, bi_ltI, bi_leI, bi_gtI, bi_geI, bi_eqI, bi_neI, bi_is, bi_isnot, bi_tupL]) rfl
  simp only [doneKs, fd__law_done] at t
  simp only [fd__law_done, w_come_come, lk_box hm, mh_come, e, t [], lk_i, lk_l, lk_t, lk_b, lk_n, lk_s, lk_C, lk_S, lk_D, lk_H, lk_T, lk_R, plc_f, plc_i, chg_bx, chgS_val, e_v, e_b, e_c, e_bin, e_neg, e_not, e_and, e_or, e_ife, e_cmp, e_ch2, e_tup, e_lst, e_idx, e_sl, e_call, e_bi, e_isi, e_bm, e_fld, e_rev, e_new, e_meth, e_box, e_isx, es_nil, es_cons, ec_nil, ec_cons, bind_ok, on_ok, then_nx, then_rt, then_exc, bind_exc, on_exc, up_some, tst_bl, mapMu_ok, calm_ok, lkOf_nil, lock_no, unlock_no, s_asg, s_asgO, s_unp, s_par, s_app, s_ext, s_seti, s_setf, s_raise, s_try, s_expr, s_ret, s_ife, s_for, s_whl, s_fz, s_pass, ss_nil, ss_cons, slot_0, slot_s, plc_b, chg_sl, rdV_val, rdB_val, rdB_own, endR_rt, endR_nx, endR_exc, List.map_cons, List.map_nil, List.cons_append, List.nil_append, List.replicate, List.set_cons_zero, List.set_cons_succ, look_nil, Bool.not_true, Bool.not_false, if_true, if_false, Bool.false_eq_true, reduceIte, List.length_cons, List.length_nil, Nat.reduceAdd, Nat.reduceSub, wipeE, List.foldl_cons, List.foldl_nil, Option.map_some, bi_mulA, bi_mulB, bi_fdv, bi_modI, bi_dvm, bi_rlen, kd_ix, bi_sumT, bi_mx2, bi_mn2, bi_intB, bi_lstT, bi_lstL, bi_sumI, is_nI, is_nN, isn_I, isn_N, eq_IN, eq_NI, eq_NN, ne_IN, ne_NI, ne_NN, eq_BB, ne_BB, neg_I, is_L, ow_L, it1_0, il1_0, it2_0, il2_0, it2_1, il2_1, it3_0, il3_0, it3_1, il3_1, it3_2, il3_2, it4_0, il4_0, it4_1, il4_1, it4_2, il4_2, it4_3, il4_3, it5_0, il5_0, it5_1, il5_1, it5_2, il5_2, it5_3, il5_3, it5_4, il5_4, un2, bt2, un3, bt3, un4, bt4, un5, bt5, bt1, stF, srcL, srcT, srcFL, srcFT, app_L, ext_L, add_L, add_T, bi_addI, bi_subI, bi_ltI, bi_leI, bi_gtI, bi_geI, bi_eqI, bi_neI, bi_is, bi_isnot, bi_tupL]
theorem d_pay (hm : m[b]? = some (false, insH h)) {x y z : D} {d : D} (e : Phi T (n + 1) "House.pay" [.box b, x, y, z] m = .ok d m') : Phi T (n + 2) "_law_done" [.box b, .tup [.str (S "pay"), x, y, z]] m = .ok d m' := by
  rw [phi_run (show T "_law_done" = some fd__law_done from rfl) rfl rfl]
  simp only [fd__law_done, w_pay_come, w_pay_pay, lk_box hm, mh_pay, e, try_rt, lk_i, lk_l, lk_t, lk_b, lk_n, lk_s, lk_C, lk_S, lk_D, lk_H, lk_T, lk_R, plc_f, plc_i, chg_bx, chgS_val, e_v, e_b, e_c, e_bin, e_neg, e_not, e_and, e_or, e_ife, e_cmp, e_ch2, e_tup, e_lst, e_idx, e_sl, e_call, e_bi, e_isi, e_bm, e_fld, e_rev, e_new, e_meth, e_box, e_isx, es_nil, es_cons, ec_nil, ec_cons, bind_ok, on_ok, then_nx, then_rt, then_exc, bind_exc, on_exc, up_some, tst_bl, mapMu_ok, calm_ok, lkOf_nil, lock_no, unlock_no, s_asg, s_asgO, s_unp, s_par, s_app, s_ext, s_seti, s_setf, s_raise, s_try, s_expr, s_ret, s_ife, s_for, s_whl, s_fz, s_pass, ss_nil, ss_cons, slot_0, slot_s, plc_b, chg_sl, rdV_val, rdB_val, rdB_own, endR_rt, endR_nx, endR_exc, List.map_cons, List.map_nil, List.cons_append, List.nil_append, List.replicate, List.set_cons_zero, List.set_cons_succ, look_nil, Bool.not_true, Bool.not_false, if_true, if_false, Bool.false_eq_true, reduceIte, List.length_cons, List.length_nil, Nat.reduceAdd, Nat.reduceSub, wipeE, List.foldl_cons, List.foldl_nil, Option.map_some, bi_mulA, bi_mulB, bi_fdv, bi_modI, bi_dvm, bi_rlen, kd_ix, bi_sumT, bi_mx2, bi_mn2, bi_intB, bi_lstT, bi_lstL, bi_sumI, is_nI, is_nN, isn_I, isn_N, eq_IN, eq_NI, eq_NN, ne_IN, ne_NI, ne_NN, eq_BB, ne_BB, neg_I, is_L, ow_L, it1_0, il1_0, it2_0, il2_0, it2_1, il2_1, it3_0, il3_0, it3_1, il3_1, it3_2, il3_2, it4_0, il4_0, it4_1, il4_1, it4_2, il4_2, it4_3, il4_3, it5_0, il5_0, it5_1, il5_1, it5_2, il5_2, it5_3, il5_3, it5_4, il5_4, un2, bt2, un3, bt3, un4, bt4, un5, bt5, bt1, stF, srcL, srcT, srcFL, srcFT, app_L, ext_L, add_L, add_T, bi_addI, bi_subI, bi_ltI, bi_leI, bi_gtI, bi_geI, bi_eqI, bi_neI, bi_is, bi_isnot, bi_tupL]
theorem x_pay (hm : m[b]? = some (false, insH h)) {x y z : D} {c : String} {k : Nat} (hc : (c, k) ∈ refIx.zipIdx) (e : Phi T (n + 1) "House.pay" [.box b, x, y, z] m = .exc c m') : Phi T (n + 2) "_law_done" [.box b, .tup [.str (S "pay"), x, y, z]] m = .ok (refD k) m' := by
  rw [phi_run (show T "_law_done" = some fd__law_done from rfl) rfl rfl]
  have rf := r_ref hc (m := m') n
  have t := fun (r' : Env) => try_ex (F := Phi T (n + 1)) (c := "StayError") (x := c) (ks := doneKs) (i := 2) (su := [(.ret (.call "_law_refused" [(.v 2)]))]) (d := refD k) (r := [.val (.box b), .val (.tup [.str (S "pay"), x, y, z]), .no]) (r' := [.val (.box b), .val (.tup [.str (S "pay"), x, y, z]), .val (.exc c)]) (m := m') (m' := m') (ref_in _ hc).1 (ref_in _ hc).2 (by simp only [rf, e_v, e_b, e_c, e_bin, e_neg, e_not, e_and, e_or, e_ife, e_cmp, e_ch2, e_tup, e_lst, e_idx, e_sl, e_call, e_bi, e_isi, e_bm, e_fld, e_rev, e_new, e_meth, e_box, e_isx, es_nil, es_cons, ec_nil, ec_cons, bind_ok, on_ok, then_nx, then_rt, then_exc, bind_exc, on_exc, up_some, tst_bl, mapMu_ok, calm_ok, lkOf_nil, lock_no, unlock_no, s_asg, s_asgO, s_unp, s_par, s_app, s_ext, s_seti, s_setf, s_raise, s_try, s_expr, s_ret, s_ife, s_for, s_whl, s_fz, s_pass, ss_nil, ss_cons, slot_0, slot_s, plc_b, chg_sl, rdV_val, rdB_val, rdB_own, endR_rt, endR_nx, endR_exc, List.map_cons, List.map_nil, List.cons_append, List.nil_append, List.replicate, List.set_cons_zero, List.set_cons_succ, look_nil, Bool.not_true, Bool.not_false, if_true, if_false, Bool.false_eq_true, reduceIte, List.length_cons, List.length_nil, Nat.reduceAdd, Nat.reduceSub, wipeE, List.foldl_cons, List.foldl_nil, Option.map_some, bi_mulA, bi_mulB, bi_fdv, bi_modI, bi_dvm, bi_rlen, kd_ix, bi_sumT, bi_mx2, bi_mn2, bi_intB, bi_lstT, bi_lstL, bi_sumI, is_nI, is_nN, isn_I, isn_N, eq_IN, eq_NI, eq_NN, ne_IN, ne_NI, ne_NN, eq_BB, ne_BB, neg_I, is_L, ow_L, it1_0, il1_0, it2_0, il2_0, it2_1, il2_1, it3_0, il3_0, it3_1, il3_1, it3_2, il3_2, it4_0, il4_0, it4_1, il4_1, it4_2, il4_2, it4_3, il4_3, it5_0, il5_0, it5_1, il5_1, it5_2, il5_2, it5_3, il5_3, it5_4, il5_4, un2, bt2, un3, bt3, un4, bt4, un5, bt5, bt1, stF, srcL, srcT, srcFL, srcFT, app_L, ext_L, add_L, add_T, bi_addI, bi_subI, bi_ltI, bi_leI, bi_gtI, bi_geI, bi_eqI, bi_neI, bi_is, bi_isnot, bi_tupL]) rfl
  simp only [doneKs, fd__law_done] at t
  simp only [fd__law_done, w_pay_come, w_pay_pay, lk_box hm, mh_pay, e, t [], lk_i, lk_l, lk_t, lk_b, lk_n, lk_s, lk_C, lk_S, lk_D, lk_H, lk_T, lk_R, plc_f, plc_i, chg_bx, chgS_val, e_v, e_b, e_c, e_bin, e_neg, e_not, e_and, e_or, e_ife, e_cmp, e_ch2, e_tup, e_lst, e_idx, e_sl, e_call, e_bi, e_isi, e_bm, e_fld, e_rev, e_new, e_meth, e_box, e_isx, es_nil, es_cons, ec_nil, ec_cons, bind_ok, on_ok, then_nx, then_rt, then_exc, bind_exc, on_exc, up_some, tst_bl, mapMu_ok, calm_ok, lkOf_nil, lock_no, unlock_no, s_asg, s_asgO, s_unp, s_par, s_app, s_ext, s_seti, s_setf, s_raise, s_try, s_expr, s_ret, s_ife, s_for, s_whl, s_fz, s_pass, ss_nil, ss_cons, slot_0, slot_s, plc_b, chg_sl, rdV_val, rdB_val, rdB_own, endR_rt, endR_nx, endR_exc, List.map_cons, List.map_nil, List.cons_append, List.nil_append, List.replicate, List.set_cons_zero, List.set_cons_succ, look_nil, Bool.not_true, Bool.not_false, if_true, if_false, Bool.false_eq_true, reduceIte, List.length_cons, List.length_nil, Nat.reduceAdd, Nat.reduceSub, wipeE, List.foldl_cons, List.foldl_nil, Option.map_some, bi_mulA, bi_mulB, bi_fdv, bi_modI, bi_dvm, bi_rlen, kd_ix, bi_sumT, bi_mx2, bi_mn2, bi_intB, bi_lstT, bi_lstL, bi_sumI, is_nI, is_nN, isn_I, isn_N, eq_IN, eq_NI, eq_NN, ne_IN, ne_NI, ne_NN, eq_BB, ne_BB, neg_I, is_L, ow_L, it1_0, il1_0, it2_0, il2_0, it2_1, il2_1, it3_0, il3_0, it3_1, il3_1, it3_2, il3_2, it4_0, il4_0, it4_1, il4_1, it4_2, il4_2, it4_3, il4_3, it5_0, il5_0, it5_1, il5_1, it5_2, il5_2, it5_3, il5_3, it5_4, il5_4, un2, bt2, un3, bt3, un4, bt4, un5, bt5, bt1, stF, srcL, srcT, srcFL, srcFT, app_L, ext_L, add_L, add_T, bi_addI, bi_subI, bi_ltI, bi_leI, bi_gtI, bi_geI, bi_eqI, bi_neI, bi_is, bi_isnot, bi_tupL]
theorem d_shift (hm : m[b]? = some (false, insH h)) {x y z : D} {d : D} (e : Phi T (n + 1) "House.shift" [.box b, x, y, z] m = .ok d m') : Phi T (n + 2) "_law_done" [.box b, .tup [.str (S "shift"), x, y, z]] m = .ok d m' := by
  rw [phi_run (show T "_law_done" = some fd__law_done from rfl) rfl rfl]
  simp only [fd__law_done, w_shift_come, w_shift_pay, w_shift_shift, lk_box hm, mh_shift, e, try_rt, lk_i, lk_l, lk_t, lk_b, lk_n, lk_s, lk_C, lk_S, lk_D, lk_H, lk_T, lk_R, plc_f, plc_i, chg_bx, chgS_val, e_v, e_b, e_c, e_bin, e_neg, e_not, e_and, e_or, e_ife, e_cmp, e_ch2, e_tup, e_lst, e_idx, e_sl, e_call, e_bi, e_isi, e_bm, e_fld, e_rev, e_new, e_meth, e_box, e_isx, es_nil, es_cons, ec_nil, ec_cons, bind_ok, on_ok, then_nx, then_rt, then_exc, bind_exc, on_exc, up_some, tst_bl, mapMu_ok, calm_ok, lkOf_nil, lock_no, unlock_no, s_asg, s_asgO, s_unp, s_par, s_app, s_ext, s_seti, s_setf, s_raise, s_try, s_expr, s_ret, s_ife, s_for, s_whl, s_fz, s_pass, ss_nil, ss_cons, slot_0, slot_s, plc_b, chg_sl, rdV_val, rdB_val, rdB_own, endR_rt, endR_nx, endR_exc, List.map_cons, List.map_nil, List.cons_append, List.nil_append, List.replicate, List.set_cons_zero, List.set_cons_succ, look_nil, Bool.not_true, Bool.not_false, if_true, if_false, Bool.false_eq_true, reduceIte, List.length_cons, List.length_nil, Nat.reduceAdd, Nat.reduceSub, wipeE, List.foldl_cons, List.foldl_nil, Option.map_some, bi_mulA, bi_mulB, bi_fdv, bi_modI, bi_dvm, bi_rlen, kd_ix, bi_sumT, bi_mx2, bi_mn2, bi_intB, bi_lstT, bi_lstL, bi_sumI, is_nI, is_nN, isn_I, isn_N, eq_IN, eq_NI, eq_NN, ne_IN, ne_NI, ne_NN, eq_BB, ne_BB, neg_I, is_L, ow_L, it1_0, il1_0, it2_0, il2_0, it2_1, il2_1, it3_0, il3_0, it3_1, il3_1, it3_2, il3_2, it4_0, il4_0, it4_1, il4_1, it4_2, il4_2, it4_3, il4_3, it5_0, il5_0, it5_1, il5_1, it5_2, il5_2, it5_3, il5_3, it5_4, il5_4, un2, bt2, un3, bt3, un4, bt4, un5, bt5, bt1, stF, srcL, srcT, srcFL, srcFT, app_L, ext_L, add_L, add_T, bi_addI, bi_subI, bi_ltI, bi_leI, bi_gtI, bi_geI, bi_eqI, bi_neI, bi_is, bi_isnot, bi_tupL]
theorem x_shift (hm : m[b]? = some (false, insH h)) {x y z : D} {c : String} {k : Nat} (hc : (c, k) ∈ refIx.zipIdx) (e : Phi T (n + 1) "House.shift" [.box b, x, y, z] m = .exc c m') : Phi T (n + 2) "_law_done" [.box b, .tup [.str (S "shift"), x, y, z]] m = .ok (refD k) m' := by
  rw [phi_run (show T "_law_done" = some fd__law_done from rfl) rfl rfl]
  have rf := r_ref hc (m := m') n
  have t := fun (r' : Env) => try_ex (F := Phi T (n + 1)) (c := "StayError") (x := c) (ks := doneKs) (i := 2) (su := [(.ret (.call "_law_refused" [(.v 2)]))]) (d := refD k) (r := [.val (.box b), .val (.tup [.str (S "shift"), x, y, z]), .no]) (r' := [.val (.box b), .val (.tup [.str (S "shift"), x, y, z]), .val (.exc c)]) (m := m') (m' := m') (ref_in _ hc).1 (ref_in _ hc).2 (by simp only [rf, e_v, e_b, e_c, e_bin, e_neg, e_not, e_and, e_or, e_ife, e_cmp, e_ch2, e_tup, e_lst, e_idx, e_sl, e_call, e_bi, e_isi, e_bm, e_fld, e_rev, e_new, e_meth, e_box, e_isx, es_nil, es_cons, ec_nil, ec_cons, bind_ok, on_ok, then_nx, then_rt, then_exc, bind_exc, on_exc, up_some, tst_bl, mapMu_ok, calm_ok, lkOf_nil, lock_no, unlock_no, s_asg, s_asgO, s_unp, s_par, s_app, s_ext, s_seti, s_setf, s_raise, s_try, s_expr, s_ret, s_ife, s_for, s_whl, s_fz, s_pass, ss_nil, ss_cons, slot_0, slot_s, plc_b, chg_sl, rdV_val, rdB_val, rdB_own, endR_rt, endR_nx, endR_exc, List.map_cons, List.map_nil, List.cons_append, List.nil_append, List.replicate, List.set_cons_zero, List.set_cons_succ, look_nil, Bool.not_true, Bool.not_false, if_true, if_false, Bool.false_eq_true, reduceIte, List.length_cons, List.length_nil, Nat.reduceAdd, Nat.reduceSub, wipeE, List.foldl_cons, List.foldl_nil, Option.map_some, bi_mulA, bi_mulB, bi_fdv, bi_modI, bi_dvm, bi_rlen, kd_ix, bi_sumT, bi_mx2, bi_mn2, bi_intB, bi_lstT, bi_lstL, bi_sumI, is_nI, is_nN, isn_I, isn_N, eq_IN, eq_NI, eq_NN, ne_IN, ne_NI, ne_NN, eq_BB, ne_BB, neg_I, is_L, ow_L, it1_0, il1_0, it2_0, il2_0, it2_1, il2_1, it3_0, il3_0, it3_1, il3_1, it3_2, il3_2, it4_0, il4_0, it4_1, il4_1, it4_2, il4_2, it4_3, il4_3, it5_0, il5_0, it5_1, il5_1, it5_2, il5_2, it5_3, il5_3, it5_4, il5_4, un2, bt2, un3, bt3, un4, bt4, un5, bt5, bt1, stF, srcL, srcT, srcFL, srcFT, app_L, ext_L, add_L, add_T, bi_addI, bi_subI, bi_ltI, bi_leI, bi_gtI, bi_geI, bi_eqI, bi_neI, bi_is, bi_isnot, bi_tupL]) rfl
  simp only [doneKs, fd__law_done] at t
  simp only [fd__law_done, w_shift_come, w_shift_pay, w_shift_shift, lk_box hm, mh_shift, e, t [], lk_i, lk_l, lk_t, lk_b, lk_n, lk_s, lk_C, lk_S, lk_D, lk_H, lk_T, lk_R, plc_f, plc_i, chg_bx, chgS_val, e_v, e_b, e_c, e_bin, e_neg, e_not, e_and, e_or, e_ife, e_cmp, e_ch2, e_tup, e_lst, e_idx, e_sl, e_call, e_bi, e_isi, e_bm, e_fld, e_rev, e_new, e_meth, e_box, e_isx, es_nil, es_cons, ec_nil, ec_cons, bind_ok, on_ok, then_nx, then_rt, then_exc, bind_exc, on_exc, up_some, tst_bl, mapMu_ok, calm_ok, lkOf_nil, lock_no, unlock_no, s_asg, s_asgO, s_unp, s_par, s_app, s_ext, s_seti, s_setf, s_raise, s_try, s_expr, s_ret, s_ife, s_for, s_whl, s_fz, s_pass, ss_nil, ss_cons, slot_0, slot_s, plc_b, chg_sl, rdV_val, rdB_val, rdB_own, endR_rt, endR_nx, endR_exc, List.map_cons, List.map_nil, List.cons_append, List.nil_append, List.replicate, List.set_cons_zero, List.set_cons_succ, look_nil, Bool.not_true, Bool.not_false, if_true, if_false, Bool.false_eq_true, reduceIte, List.length_cons, List.length_nil, Nat.reduceAdd, Nat.reduceSub, wipeE, List.foldl_cons, List.foldl_nil, Option.map_some, bi_mulA, bi_mulB, bi_fdv, bi_modI, bi_dvm, bi_rlen, kd_ix, bi_sumT, bi_mx2, bi_mn2, bi_intB, bi_lstT, bi_lstL, bi_sumI, is_nI, is_nN, isn_I, isn_N, eq_IN, eq_NI, eq_NN, ne_IN, ne_NI, ne_NN, eq_BB, ne_BB, neg_I, is_L, ow_L, it1_0, il1_0, it2_0, il2_0, it2_1, il2_1, it3_0, il3_0, it3_1, il3_1, it3_2, il3_2, it4_0, il4_0, it4_1, il4_1, it4_2, il4_2, it4_3, il4_3, it5_0, il5_0, it5_1, il5_1, it5_2, il5_2, it5_3, il5_3, it5_4, il5_4, un2, bt2, un3, bt3, un4, bt4, un5, bt5, bt1, stF, srcL, srcT, srcFL, srcFT, app_L, ext_L, add_L, add_T, bi_addI, bi_subI, bi_ltI, bi_leI, bi_gtI, bi_geI, bi_eqI, bi_neI, bi_is, bi_isnot, bi_tupL]
theorem d_leave (hm : m[b]? = some (false, insH h)) {x y : D} {d : D} (e : Phi T (n + 1) "House.leave" [.box b, x, y] m = .ok d m') : Phi T (n + 2) "_law_done" [.box b, .tup [.str (S "leave"), x, y]] m = .ok d m' := by
  rw [phi_run (show T "_law_done" = some fd__law_done from rfl) rfl rfl]
  simp only [fd__law_done, w_leave_come, w_leave_pay, w_leave_shift, w_leave_leave, lk_box hm, mh_leave, e, try_rt, lk_i, lk_l, lk_t, lk_b, lk_n, lk_s, lk_C, lk_S, lk_D, lk_H, lk_T, lk_R, plc_f, plc_i, chg_bx, chgS_val, e_v, e_b, e_c, e_bin, e_neg, e_not, e_and, e_or, e_ife, e_cmp, e_ch2, e_tup, e_lst, e_idx, e_sl, e_call, e_bi, e_isi, e_bm, e_fld, e_rev, e_new, e_meth, e_box, e_isx, es_nil, es_cons, ec_nil, ec_cons, bind_ok, on_ok, then_nx, then_rt, then_exc, bind_exc, on_exc, up_some, tst_bl, mapMu_ok, calm_ok, lkOf_nil, lock_no, unlock_no, s_asg, s_asgO, s_unp, s_par, s_app, s_ext, s_seti, s_setf, s_raise, s_try, s_expr, s_ret, s_ife, s_for, s_whl, s_fz, s_pass, ss_nil, ss_cons, slot_0, slot_s, plc_b, chg_sl, rdV_val, rdB_val, rdB_own, endR_rt, endR_nx, endR_exc, List.map_cons, List.map_nil, List.cons_append, List.nil_append, List.replicate, List.set_cons_zero, List.set_cons_succ, look_nil, Bool.not_true, Bool.not_false, if_true, if_false, Bool.false_eq_true, reduceIte, List.length_cons, List.length_nil, Nat.reduceAdd, Nat.reduceSub, wipeE, List.foldl_cons, List.foldl_nil, Option.map_some, bi_mulA, bi_mulB, bi_fdv, bi_modI, bi_dvm, bi_rlen, kd_ix, bi_sumT, bi_mx2, bi_mn2, bi_intB, bi_lstT, bi_lstL, bi_sumI, is_nI, is_nN, isn_I, isn_N, eq_IN, eq_NI, eq_NN, ne_IN, ne_NI, ne_NN, eq_BB, ne_BB, neg_I, is_L, ow_L, it1_0, il1_0, it2_0, il2_0, it2_1, il2_1, it3_0, il3_0, it3_1, il3_1, it3_2, il3_2, it4_0, il4_0, it4_1, il4_1, it4_2, il4_2, it4_3, il4_3, it5_0, il5_0, it5_1, il5_1, it5_2, il5_2, it5_3, il5_3, it5_4, il5_4, un2, bt2, un3, bt3, un4, bt4, un5, bt5, bt1, stF, srcL, srcT, srcFL, srcFT, app_L, ext_L, add_L, add_T, bi_addI, bi_subI, bi_ltI, bi_leI, bi_gtI, bi_geI, bi_eqI, bi_neI, bi_is, bi_isnot, bi_tupL]
theorem x_leave (hm : m[b]? = some (false, insH h)) {x y : D} {c : String} {k : Nat} (hc : (c, k) ∈ refIx.zipIdx) (e : Phi T (n + 1) "House.leave" [.box b, x, y] m = .exc c m') : Phi T (n + 2) "_law_done" [.box b, .tup [.str (S "leave"), x, y]] m = .ok (refD k) m' := by
  rw [phi_run (show T "_law_done" = some fd__law_done from rfl) rfl rfl]
  have rf := r_ref hc (m := m') n
  have t := fun (r' : Env) => try_ex (F := Phi T (n + 1)) (c := "StayError") (x := c) (ks := doneKs) (i := 2) (su := [(.ret (.call "_law_refused" [(.v 2)]))]) (d := refD k) (r := [.val (.box b), .val (.tup [.str (S "leave"), x, y]), .no]) (r' := [.val (.box b), .val (.tup [.str (S "leave"), x, y]), .val (.exc c)]) (m := m') (m' := m') (ref_in _ hc).1 (ref_in _ hc).2 (by simp only [rf, e_v, e_b, e_c, e_bin, e_neg, e_not, e_and, e_or, e_ife, e_cmp, e_ch2, e_tup, e_lst, e_idx, e_sl, e_call, e_bi, e_isi, e_bm, e_fld, e_rev, e_new, e_meth, e_box, e_isx, es_nil, es_cons, ec_nil, ec_cons, bind_ok, on_ok, then_nx, then_rt, then_exc, bind_exc, on_exc, up_some, tst_bl, mapMu_ok, calm_ok, lkOf_nil, lock_no, unlock_no, s_asg, s_asgO, s_unp, s_par, s_app, s_ext, s_seti, s_setf, s_raise, s_try, s_expr, s_ret, s_ife, s_for, s_whl, s_fz, s_pass, ss_nil, ss_cons, slot_0, slot_s, plc_b, chg_sl, rdV_val, rdB_val, rdB_own, endR_rt, endR_nx, endR_exc, List.map_cons, List.map_nil, List.cons_append, List.nil_append, List.replicate, List.set_cons_zero, List.set_cons_succ, look_nil, Bool.not_true, Bool.not_false, if_true, if_false, Bool.false_eq_true, reduceIte, List.length_cons, List.length_nil, Nat.reduceAdd, Nat.reduceSub, wipeE, List.foldl_cons, List.foldl_nil, Option.map_some, bi_mulA, bi_mulB, bi_fdv, bi_modI, bi_dvm, bi_rlen, kd_ix, bi_sumT, bi_mx2, bi_mn2, bi_intB, bi_lstT, bi_lstL, bi_sumI, is_nI, is_nN, isn_I, isn_N, eq_IN, eq_NI, eq_NN, ne_IN, ne_NI, ne_NN, eq_BB, ne_BB, neg_I, is_L, ow_L, it1_0, il1_0, it2_0, il2_0, it2_1, il2_1, it3_0, il3_0, it3_1, il3_1, it3_2, il3_2, it4_0, il4_0, it4_1, il4_1, it4_2, il4_2, it4_3, il4_3, it5_0, il5_0, it5_1, il5_1, it5_2, il5_2, it5_3, il5_3, it5_4, il5_4, un2, bt2, un3, bt3, un4, bt4, un5, bt5, bt1, stF, srcL, srcT, srcFL, srcFT, app_L, ext_L, add_L, add_T, bi_addI, bi_subI, bi_ltI, bi_leI, bi_gtI, bi_geI, bi_eqI, bi_neI, bi_is, bi_isnot, bi_tupL]) rfl
  simp only [doneKs, fd__law_done] at t
  simp only [fd__law_done, w_leave_come, w_leave_pay, w_leave_shift, w_leave_leave, lk_box hm, mh_leave, e, t [], lk_i, lk_l, lk_t, lk_b, lk_n, lk_s, lk_C, lk_S, lk_D, lk_H, lk_T, lk_R, plc_f, plc_i, chg_bx, chgS_val, e_v, e_b, e_c, e_bin, e_neg, e_not, e_and, e_or, e_ife, e_cmp, e_ch2, e_tup, e_lst, e_idx, e_sl, e_call, e_bi, e_isi, e_bm, e_fld, e_rev, e_new, e_meth, e_box, e_isx, es_nil, es_cons, ec_nil, ec_cons, bind_ok, on_ok, then_nx, then_rt, then_exc, bind_exc, on_exc, up_some, tst_bl, mapMu_ok, calm_ok, lkOf_nil, lock_no, unlock_no, s_asg, s_asgO, s_unp, s_par, s_app, s_ext, s_seti, s_setf, s_raise, s_try, s_expr, s_ret, s_ife, s_for, s_whl, s_fz, s_pass, ss_nil, ss_cons, slot_0, slot_s, plc_b, chg_sl, rdV_val, rdB_val, rdB_own, endR_rt, endR_nx, endR_exc, List.map_cons, List.map_nil, List.cons_append, List.nil_append, List.replicate, List.set_cons_zero, List.set_cons_succ, look_nil, Bool.not_true, Bool.not_false, if_true, if_false, Bool.false_eq_true, reduceIte, List.length_cons, List.length_nil, Nat.reduceAdd, Nat.reduceSub, wipeE, List.foldl_cons, List.foldl_nil, Option.map_some, bi_mulA, bi_mulB, bi_fdv, bi_modI, bi_dvm, bi_rlen, kd_ix, bi_sumT, bi_mx2, bi_mn2, bi_intB, bi_lstT, bi_lstL, bi_sumI, is_nI, is_nN, isn_I, isn_N, eq_IN, eq_NI, eq_NN, ne_IN, ne_NI, ne_NN, eq_BB, ne_BB, neg_I, is_L, ow_L, it1_0, il1_0, it2_0, il2_0, it2_1, il2_1, it3_0, il3_0, it3_1, il3_1, it3_2, il3_2, it4_0, il4_0, it4_1, il4_1, it4_2, il4_2, it4_3, il4_3, it5_0, il5_0, it5_1, il5_1, it5_2, il5_2, it5_3, il5_3, it5_4, il5_4, un2, bt2, un3, bt3, un4, bt4, un5, bt5, bt1, stF, srcL, srcT, srcFL, srcFT, app_L, ext_L, add_L, add_T, bi_addI, bi_subI, bi_ltI, bi_leI, bi_gtI, bi_geI, bi_eqI, bi_neI, bi_is, bi_isnot, bi_tupL]
theorem d_due (hm : m[b]? = some (false, insH h)) {x y : D} {d : D} (e : Phi T (n + 1) "House.due" [.box b, x, y] m = .ok d m') : Phi T (n + 2) "_law_done" [.box b, .tup [.str (S "due"), x, y]] m = .ok d m' := by
  rw [phi_run (show T "_law_done" = some fd__law_done from rfl) rfl rfl]
  simp only [fd__law_done, w_due_come, w_due_pay, w_due_shift, w_due_leave, lk_box hm, mh_due, e, try_rt, lk_i, lk_l, lk_t, lk_b, lk_n, lk_s, lk_C, lk_S, lk_D, lk_H, lk_T, lk_R, plc_f, plc_i, chg_bx, chgS_val, e_v, e_b, e_c, e_bin, e_neg, e_not, e_and, e_or, e_ife, e_cmp, e_ch2, e_tup, e_lst, e_idx, e_sl, e_call, e_bi, e_isi, e_bm, e_fld, e_rev, e_new, e_meth, e_box, e_isx, es_nil, es_cons, ec_nil, ec_cons, bind_ok, on_ok, then_nx, then_rt, then_exc, bind_exc, on_exc, up_some, tst_bl, mapMu_ok, calm_ok, lkOf_nil, lock_no, unlock_no, s_asg, s_asgO, s_unp, s_par, s_app, s_ext, s_seti, s_setf, s_raise, s_try, s_expr, s_ret, s_ife, s_for, s_whl, s_fz, s_pass, ss_nil, ss_cons, slot_0, slot_s, plc_b, chg_sl, rdV_val, rdB_val, rdB_own, endR_rt, endR_nx, endR_exc, List.map_cons, List.map_nil, List.cons_append, List.nil_append, List.replicate, List.set_cons_zero, List.set_cons_succ, look_nil, Bool.not_true, Bool.not_false, if_true, if_false, Bool.false_eq_true, reduceIte, List.length_cons, List.length_nil, Nat.reduceAdd, Nat.reduceSub, wipeE, List.foldl_cons, List.foldl_nil, Option.map_some, bi_mulA, bi_mulB, bi_fdv, bi_modI, bi_dvm, bi_rlen, kd_ix, bi_sumT, bi_mx2, bi_mn2, bi_intB, bi_lstT, bi_lstL, bi_sumI, is_nI, is_nN, isn_I, isn_N, eq_IN, eq_NI, eq_NN, ne_IN, ne_NI, ne_NN, eq_BB, ne_BB, neg_I, is_L, ow_L, it1_0, il1_0, it2_0, il2_0, it2_1, il2_1, it3_0, il3_0, it3_1, il3_1, it3_2, il3_2, it4_0, il4_0, it4_1, il4_1, it4_2, il4_2, it4_3, il4_3, it5_0, il5_0, it5_1, il5_1, it5_2, il5_2, it5_3, il5_3, it5_4, il5_4, un2, bt2, un3, bt3, un4, bt4, un5, bt5, bt1, stF, srcL, srcT, srcFL, srcFT, app_L, ext_L, add_L, add_T, bi_addI, bi_subI, bi_ltI, bi_leI, bi_gtI, bi_geI, bi_eqI, bi_neI, bi_is, bi_isnot, bi_tupL]
theorem x_due (hm : m[b]? = some (false, insH h)) {x y : D} {c : String} {k : Nat} (hc : (c, k) ∈ refIx.zipIdx) (e : Phi T (n + 1) "House.due" [.box b, x, y] m = .exc c m') : Phi T (n + 2) "_law_done" [.box b, .tup [.str (S "due"), x, y]] m = .ok (refD k) m' := by
  rw [phi_run (show T "_law_done" = some fd__law_done from rfl) rfl rfl]
  have rf := r_ref hc (m := m') n
  have t := fun (r' : Env) => try_ex (F := Phi T (n + 1)) (c := "StayError") (x := c) (ks := doneKs) (i := 2) (su := [(.ret (.call "_law_refused" [(.v 2)]))]) (d := refD k) (r := [.val (.box b), .val (.tup [.str (S "due"), x, y]), .no]) (r' := [.val (.box b), .val (.tup [.str (S "due"), x, y]), .val (.exc c)]) (m := m') (m' := m') (ref_in _ hc).1 (ref_in _ hc).2 (by simp only [rf, e_v, e_b, e_c, e_bin, e_neg, e_not, e_and, e_or, e_ife, e_cmp, e_ch2, e_tup, e_lst, e_idx, e_sl, e_call, e_bi, e_isi, e_bm, e_fld, e_rev, e_new, e_meth, e_box, e_isx, es_nil, es_cons, ec_nil, ec_cons, bind_ok, on_ok, then_nx, then_rt, then_exc, bind_exc, on_exc, up_some, tst_bl, mapMu_ok, calm_ok, lkOf_nil, lock_no, unlock_no, s_asg, s_asgO, s_unp, s_par, s_app, s_ext, s_seti, s_setf, s_raise, s_try, s_expr, s_ret, s_ife, s_for, s_whl, s_fz, s_pass, ss_nil, ss_cons, slot_0, slot_s, plc_b, chg_sl, rdV_val, rdB_val, rdB_own, endR_rt, endR_nx, endR_exc, List.map_cons, List.map_nil, List.cons_append, List.nil_append, List.replicate, List.set_cons_zero, List.set_cons_succ, look_nil, Bool.not_true, Bool.not_false, if_true, if_false, Bool.false_eq_true, reduceIte, List.length_cons, List.length_nil, Nat.reduceAdd, Nat.reduceSub, wipeE, List.foldl_cons, List.foldl_nil, Option.map_some, bi_mulA, bi_mulB, bi_fdv, bi_modI, bi_dvm, bi_rlen, kd_ix, bi_sumT, bi_mx2, bi_mn2, bi_intB, bi_lstT, bi_lstL, bi_sumI, is_nI, is_nN, isn_I, isn_N, eq_IN, eq_NI, eq_NN, ne_IN, ne_NI, ne_NN, eq_BB, ne_BB, neg_I, is_L, ow_L, it1_0, il1_0, it2_0, il2_0, it2_1, il2_1, it3_0, il3_0, it3_1, il3_1, it3_2, il3_2, it4_0, il4_0, it4_1, il4_1, it4_2, il4_2, it4_3, il4_3, it5_0, il5_0, it5_1, il5_1, it5_2, il5_2, it5_3, il5_3, it5_4, il5_4, un2, bt2, un3, bt3, un4, bt4, un5, bt5, bt1, stF, srcL, srcT, srcFL, srcFT, app_L, ext_L, add_L, add_T, bi_addI, bi_subI, bi_ltI, bi_leI, bi_gtI, bi_geI, bi_eqI, bi_neI, bi_is, bi_isnot, bi_tupL]) rfl
  simp only [doneKs, fd__law_done] at t
  simp only [fd__law_done, w_due_come, w_due_pay, w_due_shift, w_due_leave, lk_box hm, mh_due, e, t [], lk_i, lk_l, lk_t, lk_b, lk_n, lk_s, lk_C, lk_S, lk_D, lk_H, lk_T, lk_R, plc_f, plc_i, chg_bx, chgS_val, e_v, e_b, e_c, e_bin, e_neg, e_not, e_and, e_or, e_ife, e_cmp, e_ch2, e_tup, e_lst, e_idx, e_sl, e_call, e_bi, e_isi, e_bm, e_fld, e_rev, e_new, e_meth, e_box, e_isx, es_nil, es_cons, ec_nil, ec_cons, bind_ok, on_ok, then_nx, then_rt, then_exc, bind_exc, on_exc, up_some, tst_bl, mapMu_ok, calm_ok, lkOf_nil, lock_no, unlock_no, s_asg, s_asgO, s_unp, s_par, s_app, s_ext, s_seti, s_setf, s_raise, s_try, s_expr, s_ret, s_ife, s_for, s_whl, s_fz, s_pass, ss_nil, ss_cons, slot_0, slot_s, plc_b, chg_sl, rdV_val, rdB_val, rdB_own, endR_rt, endR_nx, endR_exc, List.map_cons, List.map_nil, List.cons_append, List.nil_append, List.replicate, List.set_cons_zero, List.set_cons_succ, look_nil, Bool.not_true, Bool.not_false, if_true, if_false, Bool.false_eq_true, reduceIte, List.length_cons, List.length_nil, Nat.reduceAdd, Nat.reduceSub, wipeE, List.foldl_cons, List.foldl_nil, Option.map_some, bi_mulA, bi_mulB, bi_fdv, bi_modI, bi_dvm, bi_rlen, kd_ix, bi_sumT, bi_mx2, bi_mn2, bi_intB, bi_lstT, bi_lstL, bi_sumI, is_nI, is_nN, isn_I, isn_N, eq_IN, eq_NI, eq_NN, ne_IN, ne_NI, ne_NN, eq_BB, ne_BB, neg_I, is_L, ow_L, it1_0, il1_0, it2_0, il2_0, it2_1, il2_1, it3_0, il3_0, it3_1, il3_1, it3_2, il3_2, it4_0, il4_0, it4_1, il4_1, it4_2, il4_2, it4_3, il4_3, it5_0, il5_0, it5_1, il5_1, it5_2, il5_2, it5_3, il5_3, it5_4, il5_4, un2, bt2, un3, bt3, un4, bt4, un5, bt5, bt1, stF, srcL, srcT, srcFL, srcFT, app_L, ext_L, add_L, add_T, bi_addI, bi_subI, bi_ltI, bi_leI, bi_gtI, bi_geI, bi_eqI, bi_neI, bi_is, bi_isnot, bi_tupL]

end

/-! ### what is compared -/
theorem eqv_self (n : Nat) : (∀ d p, toP n d = some p → PyData.eqv p p = true) ∧ (∀ ds ps, toPs n ds = some ps → PyData.eqvAll ps ps = true) := by
    have one : ∀ n, (∀ ds ps, toPs n ds = some ps → PyData.eqvAll ps ps = true) → ∀ d p, toP (n + 1) d = some p → PyData.eqv p p = true := by
      intro n hs d p h
      cases d <;> simp only [toP, Option.some.injEq, reduceCtorEq] at h
      · subst h; simp [PyData.eqv]
      · subst h; simp [PyData.eqv]
      · subst h; simp [PyData.eqv]
      · split at h
        · cases h; simp [PyData.eqv]
        · cases h
      · obtain ⟨ps, h1, rfl⟩ := Option.map_eq_some_iff.mp h
        rw [PyData.eqv]; exact hs _ _ h1
      · obtain ⟨ps, h1, rfl⟩ := Option.map_eq_some_iff.mp h
        rw [PyData.eqv]; exact hs _ _ h1
    have many : ∀ n, (∀ d p, toP n d = some p → PyData.eqv p p = true) → ∀ ds ps, toPs n ds = some ps → PyData.eqvAll ps ps = true := by
      intro n h1 ds
      induction ds with
      | nil => intro ps h; rw [toPs] at h; cases h; simp [PyData.eqvAll]
      | cons d ds ih =>
        intro ps h
        rw [toPs] at h
        obtain ⟨p, e1, h⟩ := Option.bind_eq_some_iff.mp h
        obtain ⟨ps', e2, rfl⟩ := Option.map_eq_some_iff.mp h
        rw [PyData.eqvAll, h1 _ _ e1, ih _ e2]
        rfl
    induction n with
    | zero =>
      have z : ∀ d p, toP 0 d = some p → PyData.eqv p p = true := fun d p h => by
        cases d <;> cases h
      exact ⟨z, many 0 z⟩
    | succ n ih => exact ⟨one n ih.2, many (n + 1) (one n ih.2)⟩
theorem eq_self {d : D} {p : PyData} (h1 : toP 60 d = some p) : eqD d d = some true := by
  have hv := (eqv_self 60).1 d p h1
  unfold eqD
  cases d <;> first | (simp only [scalD, beq_self_eq_true]; done) | (cases h1; done) | (simp only [scalD, deepD, h1, Option.bind_some, Option.map_some, hv])
def pyR (r : Row) : PyData := .tuple [.int r.mo, .str r.w, .int r.t, .int r.x]
def okR (rows : List Row) : Prop := ∀ r ∈ rows, PyData.strOk r.w = true
theorem toPs_rows (n : Nat) : ∀ {rows : List Row}, okR rows → toPs (n + 2) (rows.map encR) = some (rows.map pyR)
  | [], _ => rfl
  | r :: rows, h => by
    have h1 := h r List.mem_cons_self
    rw [List.map_cons, toPs, toPs_rows n fun x hx => h x (List.mem_cons_of_mem _ hx)]
    simp only [encR, toP, toPs, h1, if_true, Option.map_some, Option.bind_some, List.map_cons]
    rfl
theorem okR_app {rows : List Row} {r : Row} (h : okR rows) (h1 : PyData.strOk r.w = true) : okR (rows ++ [r]) := fun x hx => by
  rcases List.mem_append.mp hx with z | z
  · exact h x z
  · obtain rfl := List.mem_singleton.mp z
    exact h1
theorem ok_come : PyData.strOk (S "come") = true := by decide +kernel
theorem ok_pay : PyData.strOk (S "pay") = true := by decide +kernel
theorem ok_shift : PyData.strOk (S "shift") = true := by decide +kernel
theorem ok_leave : PyData.strOk (S "leave") = true := by decide +kernel
theorem ok_card : PyData.strOk (S "card") = true := by decide +kernel
theorem ne_ref (k : Int) : cmpD .ne (refD k) (refD k) = some (.bl false) := by
  show (eqD (refD k) (refD k)).map _ = _
  have hk : PyData.strOk (S "refused") = true := by decide +kernel
  rw [eq_self (p := .tuple [.str (S "refused"), .int k]) (by simp only [refD, toP, toPs, hk, if_true, Option.map_some, Option.bind_some])]
  rfl
theorem lk_ref {m : Mu} {k : Int} : look m (refD k) = refD k := rfl

/-! ### what was paid -/
def payS (rows : List Row) : Int := ((rows.filter fun r => r.w == S "pay").map fun r => r.x).sum
theorem payS_snoc {rows : List Row} {r : Row} : payS (rows ++ [r]) = payS rows + if r.w = S "pay" then r.x else 0 := by
  unfold payS
  rw [List.filter_append, List.map_append, List.sum_append, List.filter_cons]
  by_cases h : r.w = S "pay"
  · have e : (r.w == S "pay") = true := beq_iff_eq.mpr h
    rw [if_pos h, e]
    simp
  · have e : (r.w == S "pay") = false := beq_false_of_ne h
    rw [if_neg h, e]
    simp
theorem e_pays {F : Fn} {x : E} {i : Nat} {r : Env} {m m' : Mu} {rows : List Row} (h1 : ev F x r m = .ok (.lst (rows.map encR)) m') (hi : i < r.length) : ev F (.bi .sum [(.comp (.idx (.v i) (.c (.int (3)))) (.one i) .it [x] [(.cmp .eq (.idx (.v i) (.c (.int (1)))) (.c (.str (S "pay"))))] [i])]) r m = .ok (.int (payS rows)) m' := by
  have sl : ∀ y : Sl, slot ((wipeE r [i]).set i y) i = y := fun y => by
    unfold slot wipeE
    simp only [List.foldl_cons, List.foldl_nil]
    rw [List.getElem?_set_self (by rw [List.length_set]; exact hi)]
    rfl
  have c : ev F (.comp (.idx (.v i) (.c (.int (3)))) (.one i) .it [x] [(.cmp .eq (.idx (.v i) (.c (.int (1)))) (.c (.str (S "pay"))))] [i]) r m = .ok (.lst ((rows.filter fun r => r.w == S "pay").map fun r => .int r.x)) m' := by
    refine comp_srcM (ds := [.lst (rows.map encR)]) (by simp only [es_cons, es_nil, h1, bind_ok]) lkOf_l srcL ?_
    refine loopC_filter (enc := encR) fun r _ => ?_
    have i1 : idxD (encR r) (.int 1) = some (.str r.w) := rfl
    have i3 : idxD (encR r) (.int 3) = some (.int r.x) := rfl
    have cq : cmpD .eq (.str r.w) (.str (S "pay")) = some (.bl (r.w == S "pay")) := rfl
    simp only [turnC, bt1, up_some, bind_ok, ec_cons, ec_nil, e_cmp, e_idx, e_v, e_c, sl, rdV_val, lk_R, lk_s, i1, cq, tst_bl]
    cases r.w == S "pay"
    · simp only [Bool.false_eq_true, if_false, bind_ok, calm_ok]
    · simp only [if_true, bind_ok, calm_ok, i3, up_some, lk_R]
  have s : biD .sum [.lst ((rows.filter fun r => r.w == S "pay").map fun r => D.int r.x)] = some (.int (payS rows)) := sum_map
  rw [e_bi, es_cons, c]
  simp only [bind_ok, es_nil, List.map_cons, List.map_nil, lk_l, s, up_some]

structure One (a : Tar) (gr st paid at_ : Int) (k : Nat) (h : Hs) : Prop where
  g : GoodH k h
  cs : ∃ q, h.s.cs = [(0, ⟨st, 0, paid, q, .non⟩)] ∧ q < at_
  tf : h.tf = a
  gr : h.gr = gr
  la : h.s.la ≤ at_
  la2 : at_ ≤ h.s.la + 4000 * (k : Int)
  pay : payS h.s.rows = paid
  le : paid ≤ price a (at_ - st)
abbrev lb : List Wh.St := [(.asg 6 false (.bin .add (.v 6) (.call "_law_drawn" [(.v 0), (.bin .add (.c (.int (50))) (.bin .mul (.c (.int (5))) (.v 7))), (.idx (.lst [(.c (.int (30))), (.c (.int (400))), (.c (.int (3000)))]) (.call "_law_drawn" [(.v 0), (.bin .add (.c (.int (51))) (.bin .mul (.c (.int (5))) (.v 7))), (.c (.int (3)))]))]))), (.asg 8 false (.meth (.v 3) "due" ["House"] [(.c (.int (0))), (.v 6)])), (.ife (.cmp .ne (.v 8) (.bin .sub (.call "price_of" [(.v 1), (.bin .sub (.v 6) (.v 4))]) (.v 5))) [(.ret (.c (.bl false)))] []), (.ife (.cmp .eq (.v 8) (.c (.int (0)))) [(.ife (.cmp .ne (.call "_law_done" [(.v 3), (.tup [(.c (.str (S "pay"))), (.c (.int (0))), (.v 6), (.c (.int (1)))])]) (.tup [(.c (.str (S "refused"))), (.c (.int (2)))])) [(.ret (.c (.bl false)))] [])] [(.ife (.cmp .ne (.call "_law_done" [(.v 3), (.tup [(.c (.str (S "leave"))), (.c (.int (0))), (.v 6)])]) (.tup [(.c (.str (S "refused"))), (.c (.int (3)))])) [(.ret (.c (.bl false)))] []), (.ife (.cmp .ne (.meth (.v 3) "pay" ["House"] [(.c (.int (0))), (.v 6), (.v 8)]) (.c (.int (0)))) [(.ret (.c (.bl false)))] []), (.asg 5 false (.bin .add (.v 5) (.v 8))), (.asg 9 false (.comp (.meth (.v 3) "due" ["House"] [(.c (.int (0))), (.bin .add (.v 6) (.v 12))]) (.one 12) .it [(.tup [(.c (.int (0))), (.bin .fdiv (.v 2) (.c (.int (2)))), (.v 2)])] [] [12])), (.asg 10 false (.meth (.v 3) "due" ["House"] [(.c (.int (0))), (.bin .add (.bin .add (.v 6) (.v 2)) (.c (.int (1))))])), (.ife (.or (.cmp .ne (.v 9) (.lst [(.c (.int (0))), (.c (.int (0))), (.c (.int (0)))])) (.cmp .ne (.v 10) (.bin .sub (.call "price_of" [(.v 1), (.bin .sub (.bin .add (.bin .add (.v 6) (.v 2)) (.c (.int (1)))) (.v 4))]) (.v 5)))) [(.ret (.c (.bl false)))] []), (.ife (.cmp .ne (.meth (.meth (.v 3) "twin" ["House"] []) "leave" ["House"] [(.c (.int (0))), (.bin .add (.v 6) (.v 2))]) (.bin .sub (.bin .add (.v 6) (.v 2)) (.v 4))) [(.ret (.c (.bl false)))] []), (.asg 11 false (.ife (.cmp .gt (.v 10) (.c (.int (0)))) (.tup [(.c (.str (S "refused"))), (.c (.int (3)))]) (.bin .sub (.bin .add (.bin .add (.v 6) (.v 2)) (.c (.int (1)))) (.v 4)))), (.ife (.cmp .ne (.call "_law_done" [(.meth (.v 3) "twin" ["House"] []), (.tup [(.c (.str (S "leave"))), (.c (.int (0))), (.bin .add (.bin .add (.v 6) (.v 2)) (.c (.int (1))))])]) (.v 11)) [(.ret (.c (.bl false)))] []), (.asg 6 false (.bin .add (.bin .add (.v 6) (.v 2)) (.c (.int (1)))))])]
theorem turn_ok {ns : List Int} (hn : ns.length ≤ 1000) {a : Tar} (ga : GT a) {gr st paid at_ : Int} (g0 : 0 ≤ gr) (g1 : gr ≤ 200) (s0 : 0 ≤ st) (s1 : st ≤ at_) (s2 : at_ ≤ 100000) {k : Nat} (hk : k ≤ 20) {h : Hs} (o : One a gr st paid at_ k h) {m : Mu} (hm : m[0]? = some (false, insH h)) (j : Int) (x7 x8 x9 x10 x11 : Sl) :
    ∃ (paid' at' : Int) (h' : Hs) (m' : Mu) (x7' x8' x9' x10' x11' : Sl), stepF (Phi T 6) (.one 7) lb (.int j) [.val (.lst (ns.map .int)), .val (encT a), .val (.int gr), .val (.box 0), .val (.int st), .val (.int paid), .val (.int at_), x7, x8, x9, x10, x11, .no, .no] m = .nx [.val (.lst (ns.map .int)), .val (encT a), .val (.int gr), .val (.box 0), .val (.int st), .val (.int paid'), .val (.int at'), x7', x8', x9', x10', x11', .no, .no] m' ∧ m'[0]? = some (false, insH h') ∧ at_ ≤ at' ∧ at' ≤ at_ + 4000 ∧ One a gr st paid' at' (k + 1) h' := by
  obtain ⟨q, ecs, hq⟩ := o.cs
  have hla := o.la
  have hla2 := o.la2
  have gc : getC h.s.cs 0 = some ⟨st, 0, paid, q, .non⟩ := by rw [ecs] <;> rfl
  have p3 : (0 : Int) < 3 := by omega
  have d51 := phi_fr (r_drawn hc hd hn (51 + 5 * j) p3 4) m
  have d51l := drawn_lo ns (51 + 5 * j) p3
  have d51h := drawn_hi ns (51 + 5 * j) p3
  obtain ⟨w, iw, w0, w1⟩ : ∃ w : Int, idxD (.lst [.int 30, .int 400, .int 3000]) (.int (drawn ns (51 + 5 * j) 3)) = some (.int w) ∧ 0 < w ∧ w ≤ 3000 := by
    have : drawn ns (51 + 5 * j) 3 = 0 ∨ drawn ns (51 + 5 * j) 3 = 1 ∨ drawn ns (51 + 5 * j) 3 = 2 := by omega
    rcases this with e | e | e <;> rw [e]
    · exact ⟨30, rfl, by omega, by omega⟩
    · exact ⟨400, rfl, by omega, by omega⟩
    · exact ⟨3000, rfl, by omega, by omega⟩
  have d50 := phi_fr (r_drawn hc hd hn (50 + 5 * j) w0 4) m
  have d50l := drawn_lo ns (50 + 5 * j) w0
  have d50h := drawn_hi ns (50 + 5 * j) w0
  obtain ⟨at1, hat1⟩ : ∃ at1, at1 = at_ + drawn ns (50 + 5 * j) w := ⟨_, rfl⟩
  obtain ⟨ow, how⟩ : ∃ ow, ow = price a (at1 - st) - paid := ⟨_, rfl⟩
  have ow0 : 0 ≤ ow := by
    have := price_le ga (n := at_ - st) (n' := at1 - st) (by omega) (by omega)
    have := o.le
    omega
  have hd1 : dueP h ⟨st, 0, paid, q, .non⟩ at1 = ow := by
    unfold dueP
    rw [if_neg (by show ¬ at1 ≤ q; omega), o.tf, how]
  have du : ∀ n, Phi T (n + 4) "House.due" [.box 0, .int 0, .int at1] m = .ok (.int ow) m := fun n => by
    have z := r_due hm o.g.gt gc rfl (mo := at1) (by omega) (by show st ≤ at1; omega) (by show at1 - st ≤ 1000000000; omega) n
    rw [hd1] at z
    exact z
  have pr := fun (x : Int) (h0 : 0 ≤ x) (h1 : x ≤ 1000000000) (m : Mu) => phi_fr (r_price ga 3 h0 h1) m
  have pr1 := pr (at1 - st) (by omega) (by omega) m
  have sow : (ow == ow) = true := beq_self_eq_true _
  by_cases hz : ow = 0
  · have kn : Phi T 6 "_law_done" [.box 0, .tup [.str (S "pay"), .int 0, .int at1, .int 1]] m = .ok (refD 2) m := by
      refine x_pay hm (k := 2) (by decide) (r_pay_no (c := ⟨st, 0, paid, q, .non⟩) hm (n := 3) ?_ ?_)
      · rw [hd1]; exact du 0
      · rw [hd1, hz]; exact r_wholeI 3
    have nr : cmpD .ne (refD 2) (.tup [.str (S "refused"), .int 2]) = some (.bl false) := ne_ref 2
    have e0 : (ow == 0) = true := beq_iff_eq.mpr hz
    have gk : GoodH (k + 1) h := ⟨o.g.fne, o.g.fpos, o.g.gt, o.g.srt, o.g.key, o.g.car, o.g.free, o.g.shut, by have := o.g.nr; omega, by have := o.g.ng; omega, by have := o.g.nc; omega, o.g.la, by have := o.g.lb; omega⟩
    refine ⟨paid, at1, h, m, .val (.int j), .val (.int ow), x9, x10, x11, ?_, hm, by omega, by omega, ⟨gk, ⟨q, ecs, by omega⟩, o.tf, o.gr, by omega, by omega, o.pay, by omega⟩⟩
    have m1 : (-18446744073709551616 : Int) < 5 := by omega
    have m2 : (5 : Int) < 18446744073709551616 := by omega
    simp only [stF, lb, bi_mulA m1 m2, d51, iw, d50, ← hat1, lk_box hm, mh_due, du 2, pr1, ← how, sow, e0, kn, lk_ref, nr, lk_i, lk_l, lk_t, lk_b, lk_n, lk_s, lk_C, lk_S, lk_D, lk_H, lk_T, lk_R, plc_f, plc_i, chg_bx, chgS_val, e_v, e_b, e_c, e_bin, e_neg, e_not, e_and, e_or, e_ife, e_cmp, e_ch2, e_tup, e_lst, e_idx, e_sl, e_call, e_bi, e_isi, e_bm, e_fld, e_rev, e_new, e_meth, e_box, e_isx, es_nil, es_cons, ec_nil, ec_cons, bind_ok, on_ok, then_nx, then_rt, then_exc, bind_exc, on_exc, up_some, tst_bl, mapMu_ok, calm_ok, lkOf_nil, lock_no, unlock_no, s_asg, s_asgO, s_unp, s_par, s_app, s_ext, s_seti, s_setf, s_raise, s_try, s_expr, s_ret, s_ife, s_for, s_whl, s_fz, s_pass, ss_nil, ss_cons, slot_0, slot_s, plc_b, chg_sl, rdV_val, rdB_val, rdB_own, endR_rt, endR_nx, endR_exc, List.map_cons, List.map_nil, List.cons_append, List.nil_append, List.replicate, List.set_cons_zero, List.set_cons_succ, look_nil, Bool.not_true, Bool.not_false, if_true, if_false, Bool.false_eq_true, reduceIte, List.length_cons, List.length_nil, Nat.reduceAdd, Nat.reduceSub, wipeE, List.foldl_cons, List.foldl_nil, Option.map_some, bi_mulA, bi_mulB, bi_fdv, bi_modI, bi_dvm, bi_rlen, kd_ix, bi_sumT, bi_mx2, bi_mn2, bi_intB, bi_lstT, bi_lstL, bi_sumI, is_nI, is_nN, isn_I, isn_N, eq_IN, eq_NI, eq_NN, ne_IN, ne_NI, ne_NN, eq_BB, ne_BB, neg_I, is_L, ow_L, it1_0, il1_0, it2_0, il2_0, it2_1, il2_1, it3_0, il3_0, it3_1, il3_1, it3_2, il3_2, it4_0, il4_0, it4_1, il4_1, it4_2, il4_2, it4_3, il4_3, it5_0, il5_0, it5_1, il5_1, it5_2, il5_2, it5_3, il5_3, it5_4, il5_4, un2, bt2, un3, bt3, un4, bt4, un5, bt5, bt1, stF, srcL, srcT, srcFL, srcFT, app_L, ext_L, add_L, add_T, bi_addI, bi_subI, bi_ltI, bi_leI, bi_gtI, bi_geI, bi_eqI, bi_neI, bi_is, bi_isnot, bi_tupL]
  · have owp : 0 < ow := by omega
    have kl : Phi T 6 "_law_done" [.box 0, .tup [.str (S "leave"), .int 0, .int at1]] m = .ok (refD 3) m := by
      refine x_leave hm (k := 3) (by decide) (r_leave_no (c := ⟨st, 0, paid, q, .non⟩) hm (n := 3) ?_ (by rw [hd1]; exact owp))
      rw [hd1]; exact du 0
    have kp := r_pay hm o.g (by omega) gc rfl (mo := at1) (by omega) (by omega) (a := ow) (by omega) (by rw [hd1]; omega) 1
    rw [hd1, Int.sub_self] at kp
    have kp : Phi T 6 "House.pay" _ m = _ := kp
    obtain ⟨h2, hh2⟩ : ∃ h2, h2 = payP h 0 ⟨st, 0, paid, q, .non⟩ at1 ow := ⟨_, rfl⟩
    obtain ⟨m2, hm2⟩ : ∃ m2, m2 = m.set 0 (false, insH h2) := ⟨_, rfl⟩
    rw [← hh2, ← hm2] at kp
    have g2 : GoodH (k + 1) h2 := by rw [hh2]; exact good_pay o.g gc (by omega) (by omega)
    have cs2 : h2.s.cs = [(0, ⟨st, 0, paid + ow, at1 + gr, .non⟩)] := by
      rw [hh2]
      show setC h.s.cs 0 ⟨st, 0, paid + ow, if ow = dueP h ⟨st, 0, paid, q, .non⟩ at1 then at1 + h.gr else q, .non⟩ = _
      rw [hd1, if_pos rfl, o.gr, ecs]
      rfl
    have gc2 : getC h2.s.cs 0 = some ⟨st, 0, paid + ow, at1 + gr, .non⟩ := by rw [cs2] <;> rfl
    have tf2 : h2.tf = a := by rw [hh2]; exact o.tf
    have la2 : h2.s.la = at1 := by rw [hh2] <;> rfl
    have mm2 : m2[0]? = some (false, insH h2) := by rw [hm2]; exact get_set hm
    have dq : ∀ x, at1 ≤ x → x ≤ at1 + gr → dueP h2 ⟨st, 0, paid + ow, at1 + gr, .non⟩ x = 0 := fun x _ hx => by
      unfold dueP
      rw [if_pos (by show x ≤ at1 + gr; omega)]
    have dz : ∀ x, at1 ≤ x → x ≤ at1 + gr → ∀ n, Phi T (n + 4) "House.due" [.box 0, .int 0, .int x] m2 = .ok (.int 0) m2 := fun x h0 h1 n => by
      have z := r_due mm2 g2.gt gc2 rfl (mo := x) (by omega) (by show st ≤ x; omega) (by show x - st ≤ 1000000000; omega) n
      rw [dq x h0 h1] at z
      exact z
    obtain ⟨fu, hfu⟩ : ∃ fu, fu = price a (at1 + gr + 1 - st) - (paid + ow) := ⟨_, rfl⟩
    have dfu : dueP h2 ⟨st, 0, paid + ow, at1 + gr, .non⟩ (at1 + gr + 1) = fu := by
      unfold dueP
      rw [if_neg (by show ¬ at1 + gr + 1 ≤ at1 + gr; omega), tf2, hfu]
    have df : ∀ (m : Mu) b, m[b]? = some (false, insH h2) → ∀ n, Phi T (n + 4) "House.due" [.box b, .int 0, .int (at1 + gr + 1)] m = .ok (.int fu) m := fun m b hm n => by
      have z := r_due hm g2.gt gc2 rfl (mo := at1 + gr + 1) (by omega) (by show st ≤ at1 + gr + 1; omega) (by show at1 + gr + 1 - st ≤ 1000000000; omega) n
      rw [dfu] at z
      exact z
    have pr2 := pr (at1 + gr + 1 - st) (by omega) (by omega) m2
    have sfu : (fu == fu) = true := beq_self_eq_true _
    -- three later moments
    have cm : ∀ x9 x10 x11 : Sl, ev (Phi T 6) (.comp (.meth (.v 3) "due" ["House"] [(.c (.int (0))), (.bin .add (.v 6) (.v 12))]) (.one 12) .it [(.tup [(.c (.int (0))), (.bin .fdiv (.v 2) (.c (.int (2)))), (.v 2)])] [] [12]) [.val (.lst (ns.map .int)), .val (encT a), .val (.int gr), .val (.box 0), .val (.int st), .val (.int (paid + ow)), .val (.int at1), .val (.int j), .val (.int ow), x9, x10, x11, .no, .no] m2 = .ok (.lst [.int 0, .int 0, .int 0]) m2 := fun x9 x10 x11 => by
      refine comp_srcM (ds := [.tup ([0, gr / 2, gr].map .int)]) (m' := m2) (by simp (disch := omega) only [bi_fdv, lk_i, lk_l, lk_t, lk_b, lk_n, lk_s, lk_C, lk_S, lk_D, lk_H, lk_T, lk_R, plc_f, plc_i, chg_bx, chgS_val, e_v, e_b, e_c, e_bin, e_neg, e_not, e_and, e_or, e_ife, e_cmp, e_ch2, e_tup, e_lst, e_idx, e_sl, e_call, e_bi, e_isi, e_bm, e_fld, e_rev, e_new, e_meth, e_box, e_isx, es_nil, es_cons, ec_nil, ec_cons, bind_ok, on_ok, then_nx, then_rt, then_exc, bind_exc, on_exc, up_some, tst_bl, mapMu_ok, calm_ok, lkOf_nil, lock_no, unlock_no, s_asg, s_asgO, s_unp, s_par, s_app, s_ext, s_seti, s_setf, s_raise, s_try, s_expr, s_ret, s_ife, s_for, s_whl, s_fz, s_pass, ss_nil, ss_cons, slot_0, slot_s, plc_b, chg_sl, rdV_val, rdB_val, rdB_own, endR_rt, endR_nx, endR_exc, List.map_cons, List.map_nil, List.cons_append, List.nil_append, List.replicate, List.set_cons_zero, List.set_cons_succ, look_nil, Bool.not_true, Bool.not_false, if_true, if_false, Bool.false_eq_true, reduceIte, List.length_cons, List.length_nil, Nat.reduceAdd, Nat.reduceSub, wipeE, List.foldl_cons, List.foldl_nil, Option.map_some, bi_mulA, bi_mulB, bi_fdv, bi_modI, bi_dvm, bi_rlen, kd_ix, bi_sumT, bi_mx2, bi_mn2, bi_intB, bi_lstT, bi_lstL, bi_sumI, is_nI, is_nN, isn_I, isn_N, eq_IN, eq_NI, eq_NN, ne_IN, ne_NI, ne_NN, eq_BB, ne_BB, neg_I, is_L, ow_L, it1_0, il1_0, it2_0, il2_0, it2_1, il2_1, it3_0, il3_0, it3_1, il3_1, it3_2, il3_2, it4_0, il4_0, it4_1, il4_1, it4_2, il4_2, it4_3, il4_3, it5_0, il5_0, it5_1, il5_1, it5_2, il5_2, it5_3, il5_3, it5_4, il5_4, un2, bt2, un3, bt3, un4, bt4, un5, bt5, bt1, stF, srcL, srcT, srcFL, srcFT, app_L, ext_L, add_L, add_T, bi_addI, bi_subI, bi_ltI, bi_leI, bi_gtI, bi_geI, bi_eqI, bi_neI, bi_is, bi_isnot, bi_tupL]) lkOf_t srcT ?_
      refine loopC_map (enc := D.int) (xs := [0, gr / 2, gr]) (g := fun _ => .int 0) fun y hy => ?_
      have hy' : 0 ≤ y ∧ y ≤ gr := by
        simp only [List.mem_cons, List.not_mem_nil, or_false] at hy
        omega
      simp only [turnC, lk_box mm2, mh_due, dz (at1 + y) (by omega) (by omega) 2, lk_i, lk_l, lk_t, lk_b, lk_n, lk_s, lk_C, lk_S, lk_D, lk_H, lk_T, lk_R, plc_f, plc_i, chg_bx, chgS_val, e_v, e_b, e_c, e_bin, e_neg, e_not, e_and, e_or, e_ife, e_cmp, e_ch2, e_tup, e_lst, e_idx, e_sl, e_call, e_bi, e_isi, e_bm, e_fld, e_rev, e_new, e_meth, e_box, e_isx, es_nil, es_cons, ec_nil, ec_cons, bind_ok, on_ok, then_nx, then_rt, then_exc, bind_exc, on_exc, up_some, tst_bl, mapMu_ok, calm_ok, lkOf_nil, lock_no, unlock_no, s_asg, s_asgO, s_unp, s_par, s_app, s_ext, s_seti, s_setf, s_raise, s_try, s_expr, s_ret, s_ife, s_for, s_whl, s_fz, s_pass, ss_nil, ss_cons, slot_0, slot_s, plc_b, chg_sl, rdV_val, rdB_val, rdB_own, endR_rt, endR_nx, endR_exc, List.map_cons, List.map_nil, List.cons_append, List.nil_append, List.replicate, List.set_cons_zero, List.set_cons_succ, look_nil, Bool.not_true, Bool.not_false, if_true, if_false, Bool.false_eq_true, reduceIte, List.length_cons, List.length_nil, Nat.reduceAdd, Nat.reduceSub, wipeE, List.foldl_cons, List.foldl_nil, Option.map_some, bi_mulA, bi_mulB, bi_fdv, bi_modI, bi_dvm, bi_rlen, kd_ix, bi_sumT, bi_mx2, bi_mn2, bi_intB, bi_lstT, bi_lstL, bi_sumI, is_nI, is_nN, isn_I, isn_N, eq_IN, eq_NI, eq_NN, ne_IN, ne_NI, ne_NN, eq_BB, ne_BB, neg_I, is_L, ow_L, it1_0, il1_0, it2_0, il2_0, it2_1, il2_1, it3_0, il3_0, it3_1, il3_1, it3_2, il3_2, it4_0, il4_0, it4_1, il4_1, it4_2, il4_2, it4_3, il4_3, it5_0, il5_0, it5_1, il5_1, it5_2, il5_2, it5_3, il5_3, it5_4, il5_4, un2, bt2, un3, bt3, un4, bt4, un5, bt5, bt1, stF, srcL, srcT, srcFL, srcFT, app_L, ext_L, add_L, add_T, bi_addI, bi_subI, bi_ltI, bi_leI, bi_gtI, bi_geI, bi_eqI, bi_neI, bi_is, bi_isnot, bi_tupL]
    have n000 : cmpD .ne (.lst [.int 0, .int 0, .int 0]) (.lst [.int 0, .int 0, .int 0]) = some (.bl false) := rfl
    -- the twins
    have tw1 := r_twin mm2 1
    have l0 : 0 < m2.length := (List.getElem?_eq_some_iff.mp mm2).1
    have t1 : (m2 ++ [(false, insH h2)])[m2.length]? = some (false, insH h2) := by simp
    have lv1 := r_leave t1 g2 (by omega) gc2 rfl (mo := at1 + gr) (by omega) (by omega) (by rw [dq (at1 + gr) (by omega) (by omega)]; omega) 1
    obtain ⟨m3, hm3⟩ : ∃ m3, m3 = (m2 ++ [(false, insH h2)]).set m2.length (false, insH (leaveP h2 0 ⟨st, 0, paid + ow, at1 + gr, .non⟩ (at1 + gr))) := ⟨_, rfl⟩
    rw [← hm3] at lv1
    have mm3 : m3[0]? = some (false, insH h2) := by
      rw [hm3, List.getElem?_set_ne (by omega), List.getElem?_append_left l0]
      exact mm2
    have l3 : 0 < m3.length := (List.getElem?_eq_some_iff.mp mm3).1
    have tw2 := r_twin mm3 1
    have t2 : (m3 ++ [(false, insH h2)])[m3.length]? = some (false, insH h2) := by simp
    have s1' : ((at1 + gr - st) == (at1 + gr - st)) = true := beq_self_eq_true _
    have lv1 : Phi T 6 "House.leave" [.box m2.length, .int 0, .int (at1 + gr)] (m2 ++ [(false, insH h2)]) = .ok (.int (at1 + gr - st)) m3 := lv1
    obtain ⟨e, h4, he, kd, lke, nee⟩ : ∃ (e : D) (h4 : Hs), (∀ x5 x9 : Sl, ev (Phi T 6) (.ife (.cmp .gt (.v 10) (.c (.int (0)))) (.tup [(.c (.str (S "refused"))), (.c (.int (3)))]) (.bin .sub (.bin .add (.bin .add (.v 6) (.v 2)) (.c (.int (1)))) (.v 4))) [.val (.lst (ns.map .int)), .val (encT a), .val (.int gr), .val (.box 0), .val (.int st), x5, .val (.int at1), .val (.int j), .val (.int ow), x9, .val (.int fu), x11, .no, .no] m3 = .ok e m3) ∧ Phi T 6 "_law_done" [.box m3.length, .tup [.str (S "leave"), .int 0, .int (at1 + gr + 1)]] (m3 ++ [(false, insH h2)]) = .ok e ((m3 ++ [(false, insH h2)]).set m3.length (false, insH h4)) ∧ (∀ m, look m e = e) ∧ cmpD .ne e e = some (.bl false) := by
      by_cases hp : 0 < fu
      · refine ⟨refD 3, h2, fun x5 x9 => ?_, ?_, fun _ => rfl, ne_ref 3⟩
        · simp only [decY hp, lk_i, lk_l, lk_t, lk_b, lk_n, lk_s, lk_C, lk_S, lk_D, lk_H, lk_T, lk_R, plc_f, plc_i, chg_bx, chgS_val, e_v, e_b, e_c, e_bin, e_neg, e_not, e_and, e_or, e_ife, e_cmp, e_ch2, e_tup, e_lst, e_idx, e_sl, e_call, e_bi, e_isi, e_bm, e_fld, e_rev, e_new, e_meth, e_box, e_isx, es_nil, es_cons, ec_nil, ec_cons, bind_ok, on_ok, then_nx, then_rt, then_exc, bind_exc, on_exc, up_some, tst_bl, mapMu_ok, calm_ok, lkOf_nil, lock_no, unlock_no, s_asg, s_asgO, s_unp, s_par, s_app, s_ext, s_seti, s_setf, s_raise, s_try, s_expr, s_ret, s_ife, s_for, s_whl, s_fz, s_pass, ss_nil, ss_cons, slot_0, slot_s, plc_b, chg_sl, rdV_val, rdB_val, rdB_own, endR_rt, endR_nx, endR_exc, List.map_cons, List.map_nil, List.cons_append, List.nil_append, List.replicate, List.set_cons_zero, List.set_cons_succ, look_nil, Bool.not_true, Bool.not_false, if_true, if_false, Bool.false_eq_true, reduceIte, List.length_cons, List.length_nil, Nat.reduceAdd, Nat.reduceSub, wipeE, List.foldl_cons, List.foldl_nil, Option.map_some, bi_mulA, bi_mulB, bi_fdv, bi_modI, bi_dvm, bi_rlen, kd_ix, bi_sumT, bi_mx2, bi_mn2, bi_intB, bi_lstT, bi_lstL, bi_sumI, is_nI, is_nN, isn_I, isn_N, eq_IN, eq_NI, eq_NN, ne_IN, ne_NI, ne_NN, eq_BB, ne_BB, neg_I, is_L, ow_L, it1_0, il1_0, it2_0, il2_0, it2_1, il2_1, it3_0, il3_0, it3_1, il3_1, it3_2, il3_2, it4_0, il4_0, it4_1, il4_1, it4_2, il4_2, it4_3, il4_3, it5_0, il5_0, it5_1, il5_1, it5_2, il5_2, it5_3, il5_3, it5_4, il5_4, un2, bt2, un3, bt3, un4, bt4, un5, bt5, bt1, stF, srcL, srcT, srcFL, srcFT, app_L, ext_L, add_L, add_T, bi_addI, bi_subI, bi_ltI, bi_leI, bi_gtI, bi_geI, bi_eqI, bi_neI, bi_is, bi_isnot, bi_tupL]
          rfl
        · rw [set_same t2]
          refine x_leave t2 (k := 3) (by decide) (r_leave_no (c := ⟨st, 0, paid + ow, at1 + gr, .non⟩) t2 (n := 3) ?_ (by rw [dfu]; exact hp))
          rw [dfu]
          exact df _ _ t2 0
      · refine ⟨.int (at1 + gr + 1 - st), _, fun x5 x9 => ?_, d_leave t2 (r_leave t2 g2 (by omega) gc2 rfl (by omega) (by omega) (by rw [dfu]; omega) 0), fun _ => rfl, ?_⟩
        · simp only [decN hp, lk_i, lk_l, lk_t, lk_b, lk_n, lk_s, lk_C, lk_S, lk_D, lk_H, lk_T, lk_R, plc_f, plc_i, chg_bx, chgS_val, e_v, e_b, e_c, e_bin, e_neg, e_not, e_and, e_or, e_ife, e_cmp, e_ch2, e_tup, e_lst, e_idx, e_sl, e_call, e_bi, e_isi, e_bm, e_fld, e_rev, e_new, e_meth, e_box, e_isx, es_nil, es_cons, ec_nil, ec_cons, bind_ok, on_ok, then_nx, then_rt, then_exc, bind_exc, on_exc, up_some, tst_bl, mapMu_ok, calm_ok, lkOf_nil, lock_no, unlock_no, s_asg, s_asgO, s_unp, s_par, s_app, s_ext, s_seti, s_setf, s_raise, s_try, s_expr, s_ret, s_ife, s_for, s_whl, s_fz, s_pass, ss_nil, ss_cons, slot_0, slot_s, plc_b, chg_sl, rdV_val, rdB_val, rdB_own, endR_rt, endR_nx, endR_exc, List.map_cons, List.map_nil, List.cons_append, List.nil_append, List.replicate, List.set_cons_zero, List.set_cons_succ, look_nil, Bool.not_true, Bool.not_false, if_true, if_false, Bool.false_eq_true, reduceIte, List.length_cons, List.length_nil, Nat.reduceAdd, Nat.reduceSub, wipeE, List.foldl_cons, List.foldl_nil, Option.map_some, bi_mulA, bi_mulB, bi_fdv, bi_modI, bi_dvm, bi_rlen, kd_ix, bi_sumT, bi_mx2, bi_mn2, bi_intB, bi_lstT, bi_lstL, bi_sumI, is_nI, is_nN, isn_I, isn_N, eq_IN, eq_NI, eq_NN, ne_IN, ne_NI, ne_NN, eq_BB, ne_BB, neg_I, is_L, ow_L, it1_0, il1_0, it2_0, il2_0, it2_1, il2_1, it3_0, il3_0, it3_1, il3_1, it3_2, il3_2, it4_0, il4_0, it4_1, il4_1, it4_2, il4_2, it4_3, il4_3, it5_0, il5_0, it5_1, il5_1, it5_2, il5_2, it5_3, il5_3, it5_4, il5_4, un2, bt2, un3, bt3, un4, bt4, un5, bt5, bt1, stF, srcL, srcT, srcFL, srcFT, app_L, ext_L, add_L, add_T, bi_addI, bi_subI, bi_ltI, bi_leI, bi_gtI, bi_geI, bi_eqI, bi_neI, bi_is, bi_isnot, bi_tupL]
        · show some (D.bl (!(_ == _))) = _
          rw [beq_self_eq_true] <;> rfl
    obtain ⟨m4, hm4⟩ : ∃ m4, m4 = (m3 ++ [(false, insH h2)]).set m3.length (false, insH h4) := ⟨_, rfl⟩
    rw [← hm4] at kd
    have mm4 : m4[0]? = some (false, insH h2) := by
      rw [hm4, List.getElem?_set_ne (by omega), List.getElem?_append_left l3]
      exact mm3
    have nr : cmpD .ne (refD 3) (.tup [.str (S "refused"), .int 3]) = some (.bl false) := ne_ref 3
    have e0 : (ow == 0) = false := beq_false_of_ne hz
    have z0 : ((0 : Int) == 0) = true := rfl
    have m1 : (-18446744073709551616 : Int) < 5 := by omega
    have m2' : (5 : Int) < 18446744073709551616 := by omega
    refine ⟨paid + ow, at1 + gr + 1, h2, m4, .val (.int j), .val (.int ow), .val (.lst [.int 0, .int 0, .int 0]), .val (.int fu), .val e, ?_, mm4, by omega, by omega, ⟨g2, ⟨at1 + gr, cs2, by omega⟩, tf2, by rw [hh2]; exact o.gr, by omega, by rw [la2]; omega, ?_, ?_⟩⟩
    · simp only [stF, lb, bi_mulA m1 m2', d51, iw, d50, ← hat1, lk_box hm, mh_due, du 2, pr1, ← how, sow, e0, kl, lk_ref, nr, mh_pay, kp, z0, cm, lk_box mm2, df m2 0 mm2 2, n000, pr2, ← hfu, sfu, mh_twin, tw1, lk_box t1, mh_leave, lv1, s1', he, lk_box mm3, tw2, kd, lke, nee, lk_i, lk_l, lk_t, lk_b, lk_n, lk_s, lk_C, lk_S, lk_D, lk_H, lk_T, lk_R, plc_f, plc_i, chg_bx, chgS_val, e_v, e_b, e_c, e_bin, e_neg, e_not, e_and, e_or, e_cmp, e_ch2, e_tup, e_lst, e_idx, e_sl, e_call, e_bi, e_isi, e_bm, e_fld, e_rev, e_new, e_meth, e_box, e_isx, es_nil, es_cons, ec_nil, ec_cons, bind_ok, on_ok, then_nx, then_rt, then_exc, bind_exc, on_exc, up_some, tst_bl, mapMu_ok, calm_ok, lkOf_nil, lock_no, unlock_no, s_asg, s_asgO, s_unp, s_par, s_app, s_ext, s_seti, s_setf, s_raise, s_try, s_expr, s_ret, s_ife, s_for, s_whl, s_fz, s_pass, ss_nil, ss_cons, slot_0, slot_s, plc_b, chg_sl, rdV_val, rdB_val, rdB_own, endR_rt, endR_nx, endR_exc, List.map_cons, List.map_nil, List.cons_append, List.nil_append, List.replicate, List.set_cons_zero, List.set_cons_succ, look_nil, Bool.not_true, Bool.not_false, if_true, if_false, Bool.false_eq_true, reduceIte, List.length_cons, List.length_nil, Nat.reduceAdd, Nat.reduceSub, wipeE, List.foldl_cons, List.foldl_nil, Option.map_some, bi_mulA, bi_mulB, bi_fdv, bi_modI, bi_dvm, bi_rlen, kd_ix, bi_sumT, bi_mx2, bi_mn2, bi_intB, bi_lstT, bi_lstL, bi_sumI, is_nI, is_nN, isn_I, isn_N, eq_IN, eq_NI, eq_NN, ne_IN, ne_NI, ne_NN, eq_BB, ne_BB, neg_I, is_L, ow_L, it1_0, il1_0, it2_0, il2_0, it2_1, il2_1, it3_0, il3_0, it3_1, il3_1, it3_2, il3_2, it4_0, il4_0, it4_1, il4_1, it4_2, il4_2, it4_3, il4_3, it5_0, il5_0, it5_1, il5_1, it5_2, il5_2, it5_3, il5_3, it5_4, il5_4, un2, bt2, un3, bt3, un4, bt4, un5, bt5, bt1, stF, srcL, srcT, srcFL, srcFT, app_L, ext_L, add_L, add_T, bi_addI, bi_subI, bi_ltI, bi_leI, bi_gtI, bi_geI, bi_eqI, bi_neI, bi_is, bi_isnot, bi_tupL]
    · rw [hh2]
      show payS (h.s.rows ++ [_]) = _
      rw [payS_snoc, o.pay, if_pos rfl]
    · have := price_le ga (n := at1 - st) (n' := at1 + gr + 1 - st) (by omega) (by omega)
      omega
theorem law_run (ns : List Int) (hl : ns.length ≤ 63) : ∃ m, Phi T 7 "law" [.lst (ns.map .int)] [] = .ok (.bl true) m := by
  have hn : ns.length ≤ 1000 := by omega
  have dd := fun (k many : Int) (h : 0 < many) (m : Mu) => show Phi T 6 "_law_drawn" [.lst (ns.map .int), .int k, .int many] m = _ from phi_fr (r_drawn hc hd hn k h 4) m
  obtain ⟨a, ea, ga, _⟩ := r_tar hn 0 3
  have p41 : (0 : Int) < 3 := by omega
  have p42 : (0 : Int) < 3000 := by omega
  have e41 := dd 41 3 p41
  have e42 := dd 42 3000 p42
  have g41 := drawn_lo ns 41 p41
  have l41 := drawn_hi ns 41 p41
  have g42 := drawn_lo ns 42 p42
  have l42 := drawn_hi ns 42 p42
  generalize drawn ns 42 3000 = st at e42 g42 l42
  obtain ⟨w, iw, w0, w1⟩ : ∃ w : Int, idxD (.lst [.int 1, .int 20, .int 200]) (.int (drawn ns 41 3)) = some (.int w) ∧ 0 < w ∧ w ≤ 200 := by
    have : drawn ns 41 3 = 0 ∨ drawn ns 41 3 = 1 ∨ drawn ns 41 3 = 2 := by omega
    rcases this with e | e | e <;> rw [e]
    · exact ⟨1, rfl, by omega, by omega⟩
    · exact ⟨20, rfl, by omega, by omega⟩
    · exact ⟨200, rfl, by omega, by omega⟩
  have e40 := dd 40 w w0
  have g40 := drawn_lo ns 40 w0
  have l40 := drawn_hi ns 40 w0
  generalize drawn ns 40 w = gr at e40 g40 l40
  obtain ⟨N, hN⟩ : ∃ N, N = newP [2] a gr 1 := ⟨_, rfl⟩
  have nw : ∀ m, Phi T 6 "House" [.tup [.int 2], encT a, .int gr, .int 1] m = .ok (insH N) m := fun m => by rw [hN]; exact r_house (m := m) (fl := [2]) (tf := a) (gr := gr) (ag := 1) 2
  have bx0 : boxR (insH N) [] = .ok (.box 0) [(false, insH N)] := rfl
  have GN : GoodH 0 N := by rw [hN]; exact good_new (by decide) (by decide) ga
  obtain ⟨A, hA⟩ : ∃ A, A = comeP N st := ⟨_, rfl⟩
  have GA : GoodH 1 A := by rw [hA]; exact good_come GN (by rw [hN] <;> rfl) (by rw [hN]; exact g42) (by rw [hN]; show st ≤ 0 + 100000; omega)
  have k1' := r_come (m := [(false, insH N)]) (b := 0) rfl GN (by omega) (by rw [hN] <;> rfl) (mo := st) (by rw [hN]; exact g42) 1
  rw [← hA] at k1'
  have k1 : Phi T 6 "House.come" [.box 0, .int st] [(false, insH N)] = .ok _ [(false, insH A)] := k1'
  have oA : One a gr st 0 st 1 A := by
    refine ⟨GA, ⟨-1, by rw [hA, hN] <;> rfl, by omega⟩, by rw [hA, hN] <;> rfl, by rw [hA, hN] <;> rfl, by rw [hA]; exact Int.le_refl _, by rw [hA]; show st ≤ st + 4000 * 1; omega, by rw [hA, hN] <;> rfl, price_nonneg (a := a) ga (by omega)⟩
  have sc : ∀ m, srcF .rng [.int 4] m = some (rngL 0 1 4) := fun m => srcF_rng1 (by omega) (by omega)
  obtain ⟨r', m', el, paid, at_, h, x7, x8, x9, x10, x11, rfl, hm, hp1, hp2, o⟩ := loopF_inv' (step := stepF (Phi T 6) (.one 7) lb) (fun i r m => ∃ (paid at_ : Int) (h : Hs) (x7 x8 x9 x10 x11 : Sl), r = [.val (.lst (ns.map .int)), .val (encT a), .val (.int gr), .val (.box 0), .val (.int st), .val (.int paid), .val (.int at_), x7, x8, x9, x10, x11, .no, .no] ∧ m[0]? = some (false, insH h) ∧ st ≤ at_ ∧ at_ ≤ 3000 + 4000 * (i : Int) ∧ One a gr st paid at_ (1 + i) h) (rngL 0 1 4) 0 [.val (.lst (ns.map .int)), .val (encT a), .val (.int gr), .val (.box 0), .val (.int st), .val (.int 0), .val (.int st), .no, .no, .no, .no, .no, .no, .no] [(false, insH A)] ⟨0, st, A, .no, .no, .no, .no, .no, rfl, rfl, by omega, by show st ≤ 3000 + 4000 * 0; omega, oA⟩ fun j x r m hx ⟨paid, at_, h, x7, x8, x9, x10, x11, hr, hm, hp1, hp2, o⟩ => by
    obtain ⟨rfl, hj⟩ := rng_get hx
    subst hr
    obtain ⟨paid', at', h', m', x7', x8', x9', x10', x11', e, hm', b1, b2, o'⟩ := turn_ok hn ga g40 (by omega) g42 hp1 (by omega) (k := 1 + (0 + j)) (by omega) o hm (0 + j) x7 x8 x9 x10 x11
    exact ⟨_, m', e, paid', at', h', x7', x8', x9', x10', x11', rfl, hm', by omega, by omega, o'⟩
  have fr : ex (Phi T 6) (fd_law.bd.getD 7 .pass) [.val (.lst (ns.map .int)), .val (encT a), .val (.int gr), .val (.box 0), .val (.int st), .val (.int 0), .val (.int st), .no, .no, .no, .no, .no, .no, .no] [(false, insH A)] = .nx [.val (.lst (ns.map .int)), .val (encT a), .val (.int gr), .val (.box 0), .val (.int st), .val (.int paid), .val (.int at_), x7, x8, x9, x10, x11, .no, .no] m' := for_srcM (by simp only [e_v, e_b, e_c, e_bin, e_neg, e_not, e_and, e_or, e_ife, e_cmp, e_ch2, e_tup, e_lst, e_idx, e_sl, e_call, e_bi, e_isi, e_bm, e_fld, e_rev, e_new, e_meth, e_box, e_isx, es_nil, es_cons, ec_nil, ec_cons, bind_ok, on_ok, then_nx, then_rt, then_exc, bind_exc, on_exc, up_some, tst_bl, mapMu_ok, calm_ok, lkOf_nil, lock_no, unlock_no, s_asg, s_asgO, s_unp, s_par, s_app, s_ext, s_seti, s_setf, s_raise, s_try, s_expr, s_ret, s_ife, s_for, s_whl, s_fz, s_pass, ss_nil, ss_cons, slot_0, slot_s, plc_b, chg_sl, rdV_val, rdB_val, rdB_own, endR_rt, endR_nx, endR_exc, List.map_cons, List.map_nil, List.cons_append, List.nil_append, List.replicate, List.set_cons_zero, List.set_cons_succ, look_nil, Bool.not_true, Bool.not_false, if_true, if_false, Bool.false_eq_true, reduceIte, List.length_cons, List.length_nil, Nat.reduceAdd, Nat.reduceSub, wipeE, List.foldl_cons, List.foldl_nil, Option.map_some, bi_mulA, bi_mulB, bi_fdv, bi_modI, bi_dvm, bi_rlen, kd_ix, bi_sumT, bi_mx2, bi_mn2, bi_intB, bi_lstT, bi_lstL, bi_sumI, is_nI, is_nN, isn_I, isn_N, eq_IN, eq_NI, eq_NN, ne_IN, ne_NI, ne_NN, eq_BB, ne_BB, neg_I, is_L, ow_L, it1_0, il1_0, it2_0, il2_0, it2_1, il2_1, it3_0, il3_0, it3_1, il3_1, it3_2, il3_2, it4_0, il4_0, it4_1, il4_1, it4_2, il4_2, it4_3, il4_3, it5_0, il5_0, it5_1, il5_1, it5_2, il5_2, it5_3, il5_3, it5_4, il5_4, un2, bt2, un3, bt3, un4, bt4, un5, bt5, bt1, stF, srcL, srcT, srcFL, srcFT, app_L, ext_L, add_L, add_T, bi_addI, bi_subI, bi_ltI, bi_leI, bi_gtI, bi_geI, bi_eqI, bi_neI, bi_is, bi_isnot, bi_tupL]) (sc _) el
  obtain ⟨q, ecs, hq⟩ := o.cs
  have bk := r_book hm 5
  have ins := r_inside hm o.g (by rw [rngL_len]; omega) 5
  have hins : insP h = [(0, 0)] := by
    unfold insP
    rw [ecs]
    rfl
  rw [hins] at ins
  have ei : cmpD .eq (.lst ([(0, 0)].map enP)) (.lst [.tup [.int 0, .int 0]]) = some (.bl true) := rfl
  have li : ∀ m, look m (.lst ([(0, 0)].map enP)) = .lst ([(0, 0)].map enP) := fun _ => rfl
  have ps : ev (Phi T 6) (.bi .sum [(.comp (.idx (.v 13) (.c (.int (3)))) (.one 13) .it [(.meth (.v 3) "book" ["House"] [])] [(.cmp .eq (.idx (.v 13) (.c (.int (1)))) (.c (.str (S "pay"))))] [13])]) [.val (.lst (ns.map .int)), .val (encT a), .val (.int gr), .val (.box 0), .val (.int st), .val (.int paid), .val (.int at_), x7, x8, x9, x10, x11, .no, .no] m' = .ok (.int paid) m' := by
    have z := e_pays (F := Phi T 6) (x := .meth (.v 3) "book" ["House"] []) (i := 13) (r := [.val (.lst (ns.map .int)), .val (encT a), .val (.int gr), .val (.box 0), .val (.int st), .val (.int paid), .val (.int at_), x7, x8, x9, x10, x11, .no, .no]) (m := m') (m' := m') (rows := h.s.rows) (by simp only [lk_box hm, mh_book, bk, lk_i, lk_l, lk_t, lk_b, lk_n, lk_s, lk_C, lk_S, lk_D, lk_H, lk_T, lk_R, plc_f, plc_i, chg_bx, chgS_val, e_v, e_b, e_c, e_bin, e_neg, e_not, e_and, e_or, e_ife, e_cmp, e_ch2, e_tup, e_lst, e_idx, e_sl, e_call, e_bi, e_isi, e_bm, e_fld, e_rev, e_new, e_meth, e_box, e_isx, es_nil, es_cons, ec_nil, ec_cons, bind_ok, on_ok, then_nx, then_rt, then_exc, bind_exc, on_exc, up_some, tst_bl, mapMu_ok, calm_ok, lkOf_nil, lock_no, unlock_no, s_asg, s_asgO, s_unp, s_par, s_app, s_ext, s_seti, s_setf, s_raise, s_try, s_expr, s_ret, s_ife, s_for, s_whl, s_fz, s_pass, ss_nil, ss_cons, slot_0, slot_s, plc_b, chg_sl, rdV_val, rdB_val, rdB_own, endR_rt, endR_nx, endR_exc, List.map_cons, List.map_nil, List.cons_append, List.nil_append, List.replicate, List.set_cons_zero, List.set_cons_succ, look_nil, Bool.not_true, Bool.not_false, if_true, if_false, Bool.false_eq_true, reduceIte, List.length_cons, List.length_nil, Nat.reduceAdd, Nat.reduceSub, wipeE, List.foldl_cons, List.foldl_nil, Option.map_some, bi_mulA, bi_mulB, bi_fdv, bi_modI, bi_dvm, bi_rlen, kd_ix, bi_sumT, bi_mx2, bi_mn2, bi_intB, bi_lstT, bi_lstL, bi_sumI, is_nI, is_nN, isn_I, isn_N, eq_IN, eq_NI, eq_NN, ne_IN, ne_NI, ne_NN, eq_BB, ne_BB, neg_I, is_L, ow_L, it1_0, il1_0, it2_0, il2_0, it2_1, il2_1, it3_0, il3_0, it3_1, il3_1, it3_2, il3_2, it4_0, il4_0, it4_1, il4_1, it4_2, il4_2, it4_3, il4_3, it5_0, il5_0, it5_1, il5_1, it5_2, il5_2, it5_3, il5_3, it5_4, il5_4, un2, bt2, un3, bt3, un4, bt4, un5, bt5, bt1, stF, srcL, srcT, srcFL, srcFT, app_L, ext_L, add_L, add_T, bi_addI, bi_subI, bi_ltI, bi_leI, bi_gtI, bi_geI, bi_eqI, bi_neI, bi_is, bi_isnot, bi_tupL]) (show 13 < 14 by decide)
    rw [o.pay] at z
    exact z
  have spd : (paid == paid) = true := beq_self_eq_true _
  have b0 : ∀ h, look [(false, insH h)] (.box 0) = insH h := fun h => rfl
  have fin : ev (Phi T 6) (.cmp .eq (.meth (.v 3) "inside" ["House"] []) (.lst [(.tup [(.c (.int (0))), (.c (.int (0)))])])) [.val (.lst (ns.map .int)), .val (encT a), .val (.int gr), .val (.box 0), .val (.int st), .val (.int paid), .val (.int at_), x7, x8, x9, x10, x11, .no, .no] m' = .ok (.bl true) m' := by
    simp only [lk_box hm, mh_inside, ins, li, ei, lk_i, lk_l, lk_t, lk_b, lk_n, lk_s, lk_C, lk_S, lk_D, lk_H, lk_T, lk_R, plc_f, plc_i, chg_bx, chgS_val, e_v, e_b, e_c, e_bin, e_neg, e_not, e_and, e_or, e_ife, e_cmp, e_ch2, e_tup, e_lst, e_idx, e_sl, e_call, e_bi, e_isi, e_bm, e_fld, e_rev, e_new, e_meth, e_box, e_isx, es_nil, es_cons, ec_nil, ec_cons, bind_ok, on_ok, then_nx, then_rt, then_exc, bind_exc, on_exc, up_some, tst_bl, mapMu_ok, calm_ok, lkOf_nil, lock_no, unlock_no, s_asg, s_asgO, s_unp, s_par, s_app, s_ext, s_seti, s_setf, s_raise, s_try, s_expr, s_ret, s_ife, s_for, s_whl, s_fz, s_pass, ss_nil, ss_cons, slot_0, slot_s, plc_b, chg_sl, rdV_val, rdB_val, rdB_own, endR_rt, endR_nx, endR_exc, List.cons_append, List.nil_append, List.replicate, List.set_cons_zero, List.set_cons_succ, look_nil, Bool.not_true, Bool.not_false, if_true, if_false, Bool.false_eq_true, reduceIte, List.length_cons, List.length_nil, Nat.reduceAdd, Nat.reduceSub, wipeE, List.foldl_cons, List.foldl_nil, Option.map_some, bi_mulA, bi_mulB, bi_fdv, bi_modI, bi_dvm, bi_rlen, kd_ix, bi_sumT, bi_mx2, bi_mn2, bi_intB, bi_lstT, bi_lstL, bi_sumI, is_nI, is_nN, isn_I, isn_N, eq_IN, eq_NI, eq_NN, ne_IN, ne_NI, ne_NN, eq_BB, ne_BB, neg_I, is_L, ow_L, it1_0, il1_0, it2_0, il2_0, it2_1, il2_1, it3_0, il3_0, it3_1, il3_1, it3_2, il3_2, it4_0, il4_0, it4_1, il4_1, it4_2, il4_2, it4_3, il4_3, it5_0, il5_0, it5_1, il5_1, it5_2, il5_2, it5_3, il5_3, it5_4, il5_4, un2, bt2, un3, bt3, un4, bt4, un5, bt5, bt1, stF, srcL, srcT, srcFL, srcFT, app_L, ext_L, add_L, add_T, bi_addI, bi_subI, bi_ltI, bi_leI, bi_gtI, bi_geI, bi_eqI, bi_neI, bi_is, bi_isnot, bi_tupL]
  rw [phi_run (show T "law" = some fd_law from rfl) rfl rfl]
  refine ⟨m', end_rt (r' := [.val (.lst (ns.map .int)), .val (encT a), .val (.int gr), .val (.box 0), .val (.int st), .val (.int paid), .val (.int at_), x7, x8, x9, x10, x11, .no, .no]) ?_⟩
  show exs (Phi T 6) [_, _, _, _, _, _, _, _, _] [.val (.lst (ns.map .int)), .no, .no, .no, .no, .no, .no, .no, .no, .no, .no, .no, .no, .no] [] = _
  refine ss_step (r' := [.val (.lst (ns.map .int)), .val (encT a), .no, .no, .no, .no, .no, .no, .no, .no, .no, .no, .no, .no]) (m' := []) (by simp only [ea, lk_i, lk_l, lk_t, lk_b, lk_n, lk_s, lk_C, lk_S, lk_D, lk_H, lk_T, lk_R, plc_f, plc_i, chg_bx, chgS_val, e_v, e_b, e_c, e_bin, e_neg, e_not, e_and, e_or, e_ife, e_cmp, e_ch2, e_tup, e_lst, e_idx, e_sl, e_call, e_bi, e_isi, e_bm, e_fld, e_rev, e_new, e_meth, e_box, e_isx, es_nil, es_cons, ec_nil, ec_cons, bind_ok, on_ok, then_nx, then_rt, then_exc, bind_exc, on_exc, up_some, tst_bl, mapMu_ok, calm_ok, lkOf_nil, lock_no, unlock_no, s_asg, s_asgO, s_unp, s_par, s_app, s_ext, s_seti, s_setf, s_raise, s_try, s_expr, s_ret, s_ife, s_for, s_whl, s_fz, s_pass, ss_nil, ss_cons, slot_0, slot_s, plc_b, chg_sl, rdV_val, rdB_val, rdB_own, endR_rt, endR_nx, endR_exc, List.map_cons, List.map_nil, List.cons_append, List.nil_append, List.replicate, List.set_cons_zero, List.set_cons_succ, look_nil, Bool.not_true, Bool.not_false, if_true, if_false, Bool.false_eq_true, reduceIte, List.length_cons, List.length_nil, Nat.reduceAdd, Nat.reduceSub, wipeE, List.foldl_cons, List.foldl_nil, Option.map_some, bi_mulA, bi_mulB, bi_fdv, bi_modI, bi_dvm, bi_rlen, kd_ix, bi_sumT, bi_mx2, bi_mn2, bi_intB, bi_lstT, bi_lstL, bi_sumI, is_nI, is_nN, isn_I, isn_N, eq_IN, eq_NI, eq_NN, ne_IN, ne_NI, ne_NN, eq_BB, ne_BB, neg_I, is_L, ow_L, it1_0, il1_0, it2_0, il2_0, it2_1, il2_1, it3_0, il3_0, it3_1, il3_1, it3_2, il3_2, it4_0, il4_0, it4_1, il4_1, it4_2, il4_2, it4_3, il4_3, it5_0, il5_0, it5_1, il5_1, it5_2, il5_2, it5_3, il5_3, it5_4, il5_4, un2, bt2, un3, bt3, un4, bt4, un5, bt5, bt1, stF, srcL, srcT, srcFL, srcFT, app_L, ext_L, add_L, add_T, bi_addI, bi_subI, bi_ltI, bi_leI, bi_gtI, bi_geI, bi_eqI, bi_neI, bi_is, bi_isnot, bi_tupL]) ?_
  refine ss_step (r' := [.val (.lst (ns.map .int)), .val (encT a), .val (.int gr), .no, .no, .no, .no, .no, .no, .no, .no, .no, .no, .no]) (m' := []) (by simp only [e41, iw, e40, lk_i, lk_l, lk_t, lk_b, lk_n, lk_s, lk_C, lk_S, lk_D, lk_H, lk_T, lk_R, plc_f, plc_i, chg_bx, chgS_val, e_v, e_b, e_c, e_bin, e_neg, e_not, e_and, e_or, e_ife, e_cmp, e_ch2, e_tup, e_lst, e_idx, e_sl, e_call, e_bi, e_isi, e_bm, e_fld, e_rev, e_new, e_meth, e_box, e_isx, es_nil, es_cons, ec_nil, ec_cons, bind_ok, on_ok, then_nx, then_rt, then_exc, bind_exc, on_exc, up_some, tst_bl, mapMu_ok, calm_ok, lkOf_nil, lock_no, unlock_no, s_asg, s_asgO, s_unp, s_par, s_app, s_ext, s_seti, s_setf, s_raise, s_try, s_expr, s_ret, s_ife, s_for, s_whl, s_fz, s_pass, ss_nil, ss_cons, slot_0, slot_s, plc_b, chg_sl, rdV_val, rdB_val, rdB_own, endR_rt, endR_nx, endR_exc, List.map_cons, List.map_nil, List.cons_append, List.nil_append, List.replicate, List.set_cons_zero, List.set_cons_succ, look_nil, Bool.not_true, Bool.not_false, if_true, if_false, Bool.false_eq_true, reduceIte, List.length_cons, List.length_nil, Nat.reduceAdd, Nat.reduceSub, wipeE, List.foldl_cons, List.foldl_nil, Option.map_some, bi_mulA, bi_mulB, bi_fdv, bi_modI, bi_dvm, bi_rlen, kd_ix, bi_sumT, bi_mx2, bi_mn2, bi_intB, bi_lstT, bi_lstL, bi_sumI, is_nI, is_nN, isn_I, isn_N, eq_IN, eq_NI, eq_NN, ne_IN, ne_NI, ne_NN, eq_BB, ne_BB, neg_I, is_L, ow_L, it1_0, il1_0, it2_0, il2_0, it2_1, il2_1, it3_0, il3_0, it3_1, il3_1, it3_2, il3_2, it4_0, il4_0, it4_1, il4_1, it4_2, il4_2, it4_3, il4_3, it5_0, il5_0, it5_1, il5_1, it5_2, il5_2, it5_3, il5_3, it5_4, il5_4, un2, bt2, un3, bt3, un4, bt4, un5, bt5, bt1, stF, srcL, srcT, srcFL, srcFT, app_L, ext_L, add_L, add_T, bi_addI, bi_subI, bi_ltI, bi_leI, bi_gtI, bi_geI, bi_eqI, bi_neI, bi_is, bi_isnot, bi_tupL]) ?_
  refine ss_step (r' := [.val (.lst (ns.map .int)), .val (encT a), .val (.int gr), .val (.box 0), .no, .no, .no, .no, .no, .no, .no, .no, .no, .no]) (m' := [(false, insH N)]) (by simp only [nw, bx0, lk_i, lk_l, lk_t, lk_b, lk_n, lk_s, lk_C, lk_S, lk_D, lk_H, lk_T, lk_R, plc_f, plc_i, chg_bx, chgS_val, e_v, e_b, e_c, e_bin, e_neg, e_not, e_and, e_or, e_ife, e_cmp, e_ch2, e_tup, e_lst, e_idx, e_sl, e_call, e_bi, e_isi, e_bm, e_fld, e_rev, e_new, e_meth, e_box, e_isx, es_nil, es_cons, ec_nil, ec_cons, bind_ok, on_ok, then_nx, then_rt, then_exc, bind_exc, on_exc, up_some, tst_bl, mapMu_ok, calm_ok, lkOf_nil, lock_no, unlock_no, s_asg, s_asgO, s_unp, s_par, s_app, s_ext, s_seti, s_setf, s_raise, s_try, s_expr, s_ret, s_ife, s_for, s_whl, s_fz, s_pass, ss_nil, ss_cons, slot_0, slot_s, plc_b, chg_sl, rdV_val, rdB_val, rdB_own, endR_rt, endR_nx, endR_exc, List.map_cons, List.map_nil, List.cons_append, List.nil_append, List.replicate, List.set_cons_zero, List.set_cons_succ, look_nil, Bool.not_true, Bool.not_false, if_true, if_false, Bool.false_eq_true, reduceIte, List.length_cons, List.length_nil, Nat.reduceAdd, Nat.reduceSub, wipeE, List.foldl_cons, List.foldl_nil, Option.map_some, bi_mulA, bi_mulB, bi_fdv, bi_modI, bi_dvm, bi_rlen, kd_ix, bi_sumT, bi_mx2, bi_mn2, bi_intB, bi_lstT, bi_lstL, bi_sumI, is_nI, is_nN, isn_I, isn_N, eq_IN, eq_NI, eq_NN, ne_IN, ne_NI, ne_NN, eq_BB, ne_BB, neg_I, is_L, ow_L, it1_0, il1_0, it2_0, il2_0, it2_1, il2_1, it3_0, il3_0, it3_1, il3_1, it3_2, il3_2, it4_0, il4_0, it4_1, il4_1, it4_2, il4_2, it4_3, il4_3, it5_0, il5_0, it5_1, il5_1, it5_2, il5_2, it5_3, il5_3, it5_4, il5_4, un2, bt2, un3, bt3, un4, bt4, un5, bt5, bt1, stF, srcL, srcT, srcFL, srcFT, app_L, ext_L, add_L, add_T, bi_addI, bi_subI, bi_ltI, bi_leI, bi_gtI, bi_geI, bi_eqI, bi_neI, bi_is, bi_isnot, bi_tupL]) ?_
  refine ss_step (r' := [.val (.lst (ns.map .int)), .val (encT a), .val (.int gr), .val (.box 0), .val (.int st), .no, .no, .no, .no, .no, .no, .no, .no, .no]) (m' := [(false, insH N)]) (by simp only [e42, lk_i, lk_l, lk_t, lk_b, lk_n, lk_s, lk_C, lk_S, lk_D, lk_H, lk_T, lk_R, plc_f, plc_i, chg_bx, chgS_val, e_v, e_b, e_c, e_bin, e_neg, e_not, e_and, e_or, e_ife, e_cmp, e_ch2, e_tup, e_lst, e_idx, e_sl, e_call, e_bi, e_isi, e_bm, e_fld, e_rev, e_new, e_meth, e_box, e_isx, es_nil, es_cons, ec_nil, ec_cons, bind_ok, on_ok, then_nx, then_rt, then_exc, bind_exc, on_exc, up_some, tst_bl, mapMu_ok, calm_ok, lkOf_nil, lock_no, unlock_no, s_asg, s_asgO, s_unp, s_par, s_app, s_ext, s_seti, s_setf, s_raise, s_try, s_expr, s_ret, s_ife, s_for, s_whl, s_fz, s_pass, ss_nil, ss_cons, slot_0, slot_s, plc_b, chg_sl, rdV_val, rdB_val, rdB_own, endR_rt, endR_nx, endR_exc, List.map_cons, List.map_nil, List.cons_append, List.nil_append, List.replicate, List.set_cons_zero, List.set_cons_succ, look_nil, Bool.not_true, Bool.not_false, if_true, if_false, Bool.false_eq_true, reduceIte, List.length_cons, List.length_nil, Nat.reduceAdd, Nat.reduceSub, wipeE, List.foldl_cons, List.foldl_nil, Option.map_some, bi_mulA, bi_mulB, bi_fdv, bi_modI, bi_dvm, bi_rlen, kd_ix, bi_sumT, bi_mx2, bi_mn2, bi_intB, bi_lstT, bi_lstL, bi_sumI, is_nI, is_nN, isn_I, isn_N, eq_IN, eq_NI, eq_NN, ne_IN, ne_NI, ne_NN, eq_BB, ne_BB, neg_I, is_L, ow_L, it1_0, il1_0, it2_0, il2_0, it2_1, il2_1, it3_0, il3_0, it3_1, il3_1, it3_2, il3_2, it4_0, il4_0, it4_1, il4_1, it4_2, il4_2, it4_3, il4_3, it5_0, il5_0, it5_1, il5_1, it5_2, il5_2, it5_3, il5_3, it5_4, il5_4, un2, bt2, un3, bt3, un4, bt4, un5, bt5, bt1, stF, srcL, srcT, srcFL, srcFT, app_L, ext_L, add_L, add_T, bi_addI, bi_subI, bi_ltI, bi_leI, bi_gtI, bi_geI, bi_eqI, bi_neI, bi_is, bi_isnot, bi_tupL]) ?_
  refine ss_step (r' := [.val (.lst (ns.map .int)), .val (encT a), .val (.int gr), .val (.box 0), .val (.int st), .no, .no, .no, .no, .no, .no, .no, .no, .no]) (m' := [(false, insH A)]) (by simp only [b0, mh_come, k1, lk_i, lk_l, lk_t, lk_b, lk_n, lk_s, lk_C, lk_S, lk_D, lk_H, lk_T, lk_R, plc_f, plc_i, chg_bx, chgS_val, e_v, e_b, e_c, e_bin, e_neg, e_not, e_and, e_or, e_ife, e_cmp, e_ch2, e_tup, e_lst, e_idx, e_sl, e_call, e_bi, e_isi, e_bm, e_fld, e_rev, e_new, e_meth, e_box, e_isx, es_nil, es_cons, ec_nil, ec_cons, bind_ok, on_ok, then_nx, then_rt, then_exc, bind_exc, on_exc, up_some, tst_bl, mapMu_ok, calm_ok, lkOf_nil, lock_no, unlock_no, s_asg, s_asgO, s_unp, s_par, s_app, s_ext, s_seti, s_setf, s_raise, s_try, s_expr, s_ret, s_ife, s_for, s_whl, s_fz, s_pass, ss_nil, ss_cons, slot_0, slot_s, plc_b, chg_sl, rdV_val, rdB_val, rdB_own, endR_rt, endR_nx, endR_exc, List.map_cons, List.map_nil, List.cons_append, List.nil_append, List.replicate, List.set_cons_zero, List.set_cons_succ, look_nil, Bool.not_true, Bool.not_false, if_true, if_false, Bool.false_eq_true, reduceIte, List.length_cons, List.length_nil, Nat.reduceAdd, Nat.reduceSub, wipeE, List.foldl_cons, List.foldl_nil, Option.map_some, bi_mulA, bi_mulB, bi_fdv, bi_modI, bi_dvm, bi_rlen, kd_ix, bi_sumT, bi_mx2, bi_mn2, bi_intB, bi_lstT, bi_lstL, bi_sumI, is_nI, is_nN, isn_I, isn_N, eq_IN, eq_NI, eq_NN, ne_IN, ne_NI, ne_NN, eq_BB, ne_BB, neg_I, is_L, ow_L, it1_0, il1_0, it2_0, il2_0, it2_1, il2_1, it3_0, il3_0, it3_1, il3_1, it3_2, il3_2, it4_0, il4_0, it4_1, il4_1, it4_2, il4_2, it4_3, il4_3, it5_0, il5_0, it5_1, il5_1, it5_2, il5_2, it5_3, il5_3, it5_4, il5_4, un2, bt2, un3, bt3, un4, bt4, un5, bt5, bt1, stF, srcL, srcT, srcFL, srcFT, app_L, ext_L, add_L, add_T, bi_addI, bi_subI, bi_ltI, bi_leI, bi_gtI, bi_geI, bi_eqI, bi_neI, bi_is, bi_isnot, bi_tupL]) ?_
  refine ss_step (r' := [.val (.lst (ns.map .int)), .val (encT a), .val (.int gr), .val (.box 0), .val (.int st), .val (.int 0), .no, .no, .no, .no, .no, .no, .no, .no]) (m' := [(false, insH A)]) (by simp only [lk_i, lk_l, lk_t, lk_b, lk_n, lk_s, lk_C, lk_S, lk_D, lk_H, lk_T, lk_R, plc_f, plc_i, chg_bx, chgS_val, e_v, e_b, e_c, e_bin, e_neg, e_not, e_and, e_or, e_ife, e_cmp, e_ch2, e_tup, e_lst, e_idx, e_sl, e_call, e_bi, e_isi, e_bm, e_fld, e_rev, e_new, e_meth, e_box, e_isx, es_nil, es_cons, ec_nil, ec_cons, bind_ok, on_ok, then_nx, then_rt, then_exc, bind_exc, on_exc, up_some, tst_bl, mapMu_ok, calm_ok, lkOf_nil, lock_no, unlock_no, s_asg, s_asgO, s_unp, s_par, s_app, s_ext, s_seti, s_setf, s_raise, s_try, s_expr, s_ret, s_ife, s_for, s_whl, s_fz, s_pass, ss_nil, ss_cons, slot_0, slot_s, plc_b, chg_sl, rdV_val, rdB_val, rdB_own, endR_rt, endR_nx, endR_exc, List.map_cons, List.map_nil, List.cons_append, List.nil_append, List.replicate, List.set_cons_zero, List.set_cons_succ, look_nil, Bool.not_true, Bool.not_false, if_true, if_false, Bool.false_eq_true, reduceIte, List.length_cons, List.length_nil, Nat.reduceAdd, Nat.reduceSub, wipeE, List.foldl_cons, List.foldl_nil, Option.map_some, bi_mulA, bi_mulB, bi_fdv, bi_modI, bi_dvm, bi_rlen, kd_ix, bi_sumT, bi_mx2, bi_mn2, bi_intB, bi_lstT, bi_lstL, bi_sumI, is_nI, is_nN, isn_I, isn_N, eq_IN, eq_NI, eq_NN, ne_IN, ne_NI, ne_NN, eq_BB, ne_BB, neg_I, is_L, ow_L, it1_0, il1_0, it2_0, il2_0, it2_1, il2_1, it3_0, il3_0, it3_1, il3_1, it3_2, il3_2, it4_0, il4_0, it4_1, il4_1, it4_2, il4_2, it4_3, il4_3, it5_0, il5_0, it5_1, il5_1, it5_2, il5_2, it5_3, il5_3, it5_4, il5_4, un2, bt2, un3, bt3, un4, bt4, un5, bt5, bt1, stF, srcL, srcT, srcFL, srcFT, app_L, ext_L, add_L, add_T, bi_addI, bi_subI, bi_ltI, bi_leI, bi_gtI, bi_geI, bi_eqI, bi_neI, bi_is, bi_isnot, bi_tupL]) ?_
  refine ss_step (r' := [.val (.lst (ns.map .int)), .val (encT a), .val (.int gr), .val (.box 0), .val (.int st), .val (.int 0), .val (.int st), .no, .no, .no, .no, .no, .no, .no]) (m' := [(false, insH A)]) (by simp only [lk_i, lk_l, lk_t, lk_b, lk_n, lk_s, lk_C, lk_S, lk_D, lk_H, lk_T, lk_R, plc_f, plc_i, chg_bx, chgS_val, e_v, e_b, e_c, e_bin, e_neg, e_not, e_and, e_or, e_ife, e_cmp, e_ch2, e_tup, e_lst, e_idx, e_sl, e_call, e_bi, e_isi, e_bm, e_fld, e_rev, e_new, e_meth, e_box, e_isx, es_nil, es_cons, ec_nil, ec_cons, bind_ok, on_ok, then_nx, then_rt, then_exc, bind_exc, on_exc, up_some, tst_bl, mapMu_ok, calm_ok, lkOf_nil, lock_no, unlock_no, s_asg, s_asgO, s_unp, s_par, s_app, s_ext, s_seti, s_setf, s_raise, s_try, s_expr, s_ret, s_ife, s_for, s_whl, s_fz, s_pass, ss_nil, ss_cons, slot_0, slot_s, plc_b, chg_sl, rdV_val, rdB_val, rdB_own, endR_rt, endR_nx, endR_exc, List.map_cons, List.map_nil, List.cons_append, List.nil_append, List.replicate, List.set_cons_zero, List.set_cons_succ, look_nil, Bool.not_true, Bool.not_false, if_true, if_false, Bool.false_eq_true, reduceIte, List.length_cons, List.length_nil, Nat.reduceAdd, Nat.reduceSub, wipeE, List.foldl_cons, List.foldl_nil, Option.map_some, bi_mulA, bi_mulB, bi_fdv, bi_modI, bi_dvm, bi_rlen, kd_ix, bi_sumT, bi_mx2, bi_mn2, bi_intB, bi_lstT, bi_lstL, bi_sumI, is_nI, is_nN, isn_I, isn_N, eq_IN, eq_NI, eq_NN, ne_IN, ne_NI, ne_NN, eq_BB, ne_BB, neg_I, is_L, ow_L, it1_0, il1_0, it2_0, il2_0, it2_1, il2_1, it3_0, il3_0, it3_1, il3_1, it3_2, il3_2, it4_0, il4_0, it4_1, il4_1, it4_2, il4_2, it4_3, il4_3, it5_0, il5_0, it5_1, il5_1, it5_2, il5_2, it5_3, il5_3, it5_4, il5_4, un2, bt2, un3, bt3, un4, bt4, un5, bt5, bt1, stF, srcL, srcT, srcFL, srcFT, app_L, ext_L, add_L, add_T, bi_addI, bi_subI, bi_ltI, bi_leI, bi_gtI, bi_geI, bi_eqI, bi_neI, bi_is, bi_isnot, bi_tupL]) ?_
  refine ss_step fr ?_
  simp only [ps, spd, lk_box hm, mh_inside, ins, li, ei, lk_i, lk_l, lk_t, lk_b, lk_n, lk_s, lk_C, lk_S, lk_D, lk_H, lk_T, lk_R, plc_f, plc_i, chg_bx, chgS_val, e_v, e_b, e_c, e_bin, e_neg, e_not, e_and, e_or, e_ife, e_cmp, e_ch2, e_tup, e_lst, e_idx, e_sl, e_call, e_isi, e_bm, e_fld, e_rev, e_new, e_meth, e_box, e_isx, es_nil, es_cons, ec_nil, ec_cons, bind_ok, on_ok, then_nx, then_rt, then_exc, bind_exc, on_exc, up_some, tst_bl, mapMu_ok, calm_ok, lkOf_nil, lock_no, unlock_no, s_asg, s_asgO, s_unp, s_par, s_app, s_ext, s_seti, s_setf, s_raise, s_try, s_expr, s_ret, s_ife, s_for, s_whl, s_fz, s_pass, ss_nil, ss_cons, slot_0, slot_s, plc_b, chg_sl, rdV_val, rdB_val, rdB_own, endR_rt, endR_nx, endR_exc, List.cons_append, List.nil_append, List.replicate, List.set_cons_zero, List.set_cons_succ, look_nil, Bool.not_true, Bool.not_false, if_true, if_false, Bool.false_eq_true, reduceIte, List.length_cons, List.length_nil, Nat.reduceAdd, Nat.reduceSub, wipeE, List.foldl_cons, List.foldl_nil, Option.map_some, bi_mulA, bi_mulB, bi_fdv, bi_modI, bi_dvm, bi_rlen, kd_ix, bi_sumT, bi_mx2, bi_mn2, bi_intB, bi_lstT, bi_lstL, bi_sumI, is_nI, is_nN, isn_I, isn_N, eq_IN, eq_NI, eq_NN, ne_IN, ne_NI, ne_NN, eq_BB, ne_BB, neg_I, is_L, ow_L, it1_0, il1_0, it2_0, il2_0, it2_1, il2_1, it3_0, il3_0, it3_1, il3_1, it3_2, il3_2, it4_0, il4_0, it4_1, il4_1, it4_2, il4_2, it4_3, il4_3, it5_0, il5_0, it5_1, il5_1, it5_2, il5_2, it5_3, il5_3, it5_4, il5_4, un2, bt2, un3, bt3, un4, bt4, un5, bt5, bt1, stF, srcL, srcT, srcFL, srcFT, app_L, ext_L, add_L, add_T, bi_addI, bi_subI, bi_ltI, bi_leI, bi_gtI, bi_geI, bi_eqI, bi_neI, bi_is, bi_isnot, bi_tupL]

/-! ### the head -/
abbrev L : PySem.W.OpenLaw := PySem.Challenge.rw_wheelstay_k42_whole_grace
abbrev R : PySem.W.OpenRow := PySem.W.OpenLaw.row PySem.Challenge.rw_wheelstay_k42_whole_grace
def as0 : List Addr := [3, 6, 4, 21, 31, 44, 56, 68, 80, 92, 104, 116, 128, 140, 152, 164, 176, 185, 192, 199, 206, 213, 220, 227, 232, 237, 254, 275, 484, 495, 502, 509, 516, 523, 528, 0, 20, 30, 43, 55,
  67, 79, 91, 103, 115, 127, 139, 151, 163, 175, 184, 191, 198, 205, 212, 219, 226, 231, 236, 253, 274, 483, 494, 501, 508, 515, 522, 527, 15, 16, 17, 18, 19, 29, 32, 42, 54, 66, 78, 90,
  102, 114, 126, 138, 150, 162, 174, 179, 180, 181, 182, 183, 186, 187, 188, 189, 190, 193, 194, 195, 196, 197, 200, 201, 202, 203, 204, 207, 208, 209, 210, 211, 214, 215, 216, 217, 218, 221, 222, 223,
  224, 225, 228, 229, 230, 233, 234, 235, 251, 252, 255, 256, 272, 273, 276, 277, 293, 300, 307, 312, 319, 326, 331, 338, 345, 352, 359, 366, 373, 380, 387, 392, 399, 406, 413, 420, 425, 432, 439, 446,
  453, 460, 467, 474, 481, 482, 485, 486, 489, 490, 491, 492, 493, 496, 497, 498, 499, 500, 503, 504, 505, 506, 507, 510, 511, 512, 513, 514, 517, 518, 519, 520, 521, 524, 525, 526, 250, 271, 292, 299,
  306, 311, 318, 325, 330, 337, 344, 351, 358, 365, 372, 379, 386, 391, 398, 405, 412, 419, 424, 431, 438, 445, 452, 459, 466, 473, 480, 245, 246, 247, 248, 249, 266, 267, 268, 269, 270, 287, 288, 289,
  290, 291, 294, 295, 296, 297, 298, 301, 302, 303, 304, 305, 308, 309, 310, 313, 314, 315, 316, 317, 320, 321, 322, 323, 324, 327, 328, 329, 332, 333, 334, 335, 336, 339, 340, 341, 342, 343, 346, 347,
  348, 349, 350, 353, 354, 355, 356, 357, 360, 361, 362, 363, 364, 367, 368, 369, 370, 371, 374, 375, 376, 377, 378, 381, 382, 383, 384, 385, 388, 389, 390, 393, 394, 395, 396, 397, 400, 401, 402, 403,
  404, 407, 408, 409, 410, 411, 414, 415, 416, 417, 418, 421, 422, 423, 426, 427, 428, 429, 430, 433, 434, 435, 436, 437, 440, 441, 442, 443, 444, 447, 448, 449, 450, 451, 454, 455, 456, 457, 458, 461,
  462, 463, 464, 465, 468, 469, 470, 471, 472, 475, 476, 477, 478, 479]
abbrev hk : PySem.W.Hook := hookA as0 (hdOf L.prog)
def ob (s : PySem.W.SharedT) : Bool × He.AlD := obsLA as0 (hdOf L.prog) (HandSHeadRun.getT s)
theorem ob_eq (s : PySem.W.SharedT) : ob s = hk.obs s.abs := obsLA_eq (HandSHeadRun.getT_eq s)
def looseN : List Str := (["_wall", "__name__", "StayError", "NoTime", "NoTicket", "NoSum", "Owes", "NoFloor", "Full", "Shut", "NoCard", "Taken", "Inside", "NotOpen", "NoBack", "DAY", "is_whole", "begun", "day_price", "price_of", "best_of", "is_shut_behind", "WEEK", "day_stretches", "open_stretches", "open_minutes", "Car", "State", "House", "_law_cell"] : List Str) ++ (["_law_drawn", "_law_tariff", "_law_refused", "_law_done"] : List Str)
section
open PySem.W HandSHeadRun PySem.Calls PyProof.Rows
theorem run1 (w : World) (os : OsState) : (HandSHeadRun.endF (HandSHeadRun.stepQ (HandSHeadRun.denQ HandSHeadRun.tabQ) R.prog w) 12000 R.prog w os).map (fun s => (HandSHeadRun.looksF R.prog (boot_heap w.params) s.abs, HandSHeadRun.seenQ (PySem.W.view R.prog [39]) looseN (importedModules R.prog.main.body) (fun s => PySem.W.xlAt (PySem.W.view R.prog [39]) [] s && PySem.W.recOk R.toRowW.records s) s.abs, (ob s).1)) = some (true, PySem.W.openGood (PySem.W.view R.prog [39]) looseN, true) := by
  kernel_rfl
theorem run2 (w : World) (os : OsState) : (HandSHeadRun.endF (HandSHeadRun.stepQ (HandSHeadRun.denQ HandSHeadRun.tabQ) R.prog w) 12000 R.prog w os).map (fun s => (hdOf L.prog).fa.all fun f => f.ok (He.frG (HandSHeadRun.getT s) as0)) = some true := by
  kernel_rfl
theorem run3 (w : World) (os : OsState) : (HandSHeadRun.endF (HandSHeadRun.stepQ (HandSHeadRun.denQ HandSHeadRun.tabQ) R.prog w) 12000 R.prog w os).map (fun s => ((hdOf L.prog).fn.all fun d => d.ok (He.frG (HandSHeadRun.getT s) as0), (hdOf L.prog).fn.map fun d => He.fnW (He.frG (HandSHeadRun.getT s) as0) d.at_)) = some (true, (hdOf L.prog).fn.map He.DefD.val) := by
  kernel_rfl
end
theorem run (w : World) : HandSHeadRun.RunEq R (PySem.W.view R.prog [39]) hk ob 12000 looseN w := fun os => run_parts (run1 w os) (run2 w os) (run3 w os)
theorem tblOk_ : tblOk L.prog [(232, 16), (282, 12)] ["_law_refused"] = true := by kernel_rfl
theorem tblEq : ((Wh.dsOf L.prog).map fun d => (d.key, cDf (mkT L.prog [(232, 16), (282, 12)] ["_law_refused"]) d)) = tbl.map fun q => (q.1, some q.2) := by kernel_rfl
theorem tblH : (((Wh.dsOf L.prog).filter fun d => (["_law_refused"] : List String).contains d.key).map fun d => cDefH (mkT L.prog [(232, 16), (282, 12)] ["_law_refused"]) d.st) = ((Wh.dsOf L.prog).filter fun d => (["_law_refused"] : List String).contains d.key).map fun d => tbl.lookup d.key := by kernel_rfl
theorem tblH2 : (((Wh.dsOf L.prog).filter fun d => (["_law_refused"] : List String).contains d.key).all fun d => decide (d.kd = .fn) && match tbl.lookup d.key with
      | some fd => stillSs ["_law_refused"] fd.bd
      | none => false) = true := by kernel_rfl
end Wh.K42
open PySem PySem.W PySem.Calls PyProof.Rows
theorem PySem.Challenge.cw_wheelstay_k42_whole_grace_holds : PySem.Challenge.rw_wheelstay_k42_whole_grace.Holds := by
  w_on; o_law
  refine HandSHeadRun.head_any (r := OpenLaw.row PySem.Challenge.rw_wheelstay_k42_whole_grace) (q := view (OpenLaw.row PySem.Challenge.rw_wheelstay_k42_whole_grace).prog [39]) (H := Wh.K42.hk) (ob := Wh.K42.ob) (M := 12000) (loose := Wh.K42.looseN) (d := HandSHeadRun.topDef (OpenLaw.row PySem.Challenge.rw_wheelstay_k42_whole_grace).prog 39) (kwd := []) Wh.K42.ob_eq
    (by kernel_rfl) (fun s => by kernel_rfl) Wh.K42.run (by kernel_rfl) (by kernel_rfl) (by kernel_rfl) (by rfl) (by first | assumption | decide +kernel) (by decide +kernel) ⟨rfl, rfl, rfl, rfl, rfl, by decide +kernel⟩ ?hw ?hc
  case hw => w_witness2
  case hc => exact Wh.law_end (N := 0) (l := PySem.Challenge.rw_wheelstay_k42_whole_grace) (n := 63) (k := 7) (bx := [(232, 16), (282, 12)]) (hf := ["_law_refused"]) (tbl := Wh.K42.tbl) rfl (by decide) (by kernel_rfl) ⟨rfl, by decide, by decide⟩ (by kernel_rfl) Wh.K42.tblOk_ Wh.K42.tblEq (by decide +kernel) (Wh.th_of Wh.K42.tblH Wh.K42.tblH2) ⟨(Wh.dsOf PySem.Challenge.rw_wheelstay_k42_whole_grace.prog).getD 15 ⟨"", "", "", .fn, .Pass ⟨0, 0, 0, 0⟩⟩, List.mem_of_getElem? (i := 15) (by kernel_rfl), by kernel_rfl, by kernel_rfl, by kernel_rfl⟩ Wh.K42.law_run
