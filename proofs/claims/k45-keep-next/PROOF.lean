import PyProof.Rows.All
import Wide.All
import OpenK.AllK
import Wide.FinOn
import HandS.ForMost
import KE.DataEq
import KE.DataCmp
import KE.SortData
import KE.DataMinMax
import KE.KMathGC
import HandS.ForExc
import KE.KDictKeyed
import KE.KeyNested
import HandS.Wide
import HandS.TupAny
import HandS.TupMul
import HandS.Style
import HandS.Text
import HandS.RevTup
import HandS.Gcd
import HandS.TupLen
import HandS.Exc
import HandS.Iter
import HandS.Comp
import HandS.Zip
import KE.GoesEnum
import HandS.More
import KE.KDictSum
import KE.KDictDisplayH
import KE.KTupSum
import PyProof.SumAnyB
import HandS.ExcOwn
import HandS.TryMany
import PyProof.ExcBaseAll.ValueError
import KE.DataAny
import HandS.DictComp
import HandS.DictSubView
import KE.KDictCopyH
import HandS.Conv
import HandS.Codes
import HandS.Ends
import HandS.Head0
import HandS.Head1
import HandS.Head2
import HandS.Head3
import HandS.HeadEnd
import HandS.HeadHook1
import HandS.HeadHook2
import HandS.Defaults
import PySem.Challenge.RW_fewplaces_k45_main_what_to_keep_next
set_option autoImplicit false
set_option linter.all false
set_option Elab.async false
/-! LCore: a small language of values. A functional reading of the Python that the laws use: pure data, and containers that one slot owns. -/
namespace Lw
open PySem

abbrev D := PyData

/-- what a slot or a field has: nothing; shared data; a shared instance; a shared tuple that holds such; an owned list, dict, instance -/
inductive O where
  | un
  | dat (d : D)
  | fin (c : Nat) (fs : List (Nat × O))
  | tpo (xs : List O)
  | lst (xs : List D)
  | dct (kvs : List (D × D))
  | ins (c : Nat) (fs : List (Nat × O))

mutual
/-- the same, shared from now on -/
def fz : O → O
  | .un => .un
  | .dat d => .dat d
  | .fin c fs => .fin c fs
  | .tpo xs => .tpo xs
  | .lst xs => .dat (.list xs)
  | .dct kvs => .dat (.dict kvs)
  | .ins c fs => .fin c (fzs fs)
def fzs : List (Nat × O) → List (Nat × O)
  | [] => []
  | (n, o) :: r => (n, fz o) :: fzs r
end

/-- it is shared -/
def O.shared : O → Bool
  | .dat _ => true
  | .fin _ _ => true
  | .tpo _ => true
  | _ => false

/-- as data -/
def O.d? : O → Option D
  | .dat d => some d
  | .lst xs => some (.list xs)
  | .dct kvs => some (.dict kvs)
  | _ => none

abbrev St := List O

inductive R (α : Type) where
  | ok (a : α) (s : St)
  | exc (c : Nat) (p : List (Nat × D)) (s : St)
  | no

def R.bind {α β : Type} (x : R α) (f : α → St → R β) : R β := match x with
  | .ok a s => f a s
  | .exc c p s => .exc c p s
  | .no => .no
/-- what may not be there -/
def R.opt {α : Type} (x : Option α) (s : St) : R α := match x with
  | some a => .ok a s
  | none => .no

/-- what a call gives: the value, the arguments as they are then -/
inductive CR where
  | ok (o : O) (outs : List O)
  | exc (c : Nat) (p : List (Nat × D)) (outs : List O)
  | no

inductive Bop where | add | sub | mul | fdiv | mod | pow
  deriving DecidableEq
inductive Cop where | eq | ne | lt | le | gt | ge | mem | nmem
  deriving DecidableEq
inductive Ty where | int | bool | str | tup | lst
  deriving DecidableEq
inductive Bi where | len | abs | int | str | max2 | min2 | max3 | min3 | comb | gcd
  deriving DecidableEq
inductive Bs where | list | tuple | sorted | sum | min | max | all | any | dict | sset | lset
  deriving DecidableEq
inductive Mt where | index | count | get1 | get2 | join | split | replace
  deriving DecidableEq
inductive Itk where | range1 | range2 | range3 | zip | enum | items | values | combs
  deriving DecidableEq
inductive Mu where | append | extend | pop | dpop | dpopD | remove | hpush | hpop
  deriving DecidableEq

/-- a place: a slot, a field of the instance in a slot -/
inductive Pl where
  | v (i : Nat)
  | f (i x : Nat)
  deriving DecidableEq

/-- a target of a loop: a slot, a tuple of targets -/
inductive Tg where
  | v (i : Nat)
  | t (ts : List Tg)

mutual
inductive E where
  | nil
  | non | bl (b : Bool) | int (i : Int) | str (s : Str) | glb (x : Nat) | var (i : Nat)
  | tup (es : List E) | lst (es : List E) | dct (es : List E)
  | bop (o : Bop) (a b : E) | neg (a : E)
  | cmp (o : Cop) (a b : E) | chn (o p : Cop) (a b c : E) | isn (a : E) | notn (a : E)
  | and (a b : E) | or (a b : E) | not (a : E) | ife (c a b : E)
  | idx (a i : E) | slc (a lo hi : E) | rev (a : E)
  | fld (a : E) (f : Nat)
  | call (f : Nat) (es : List E) | new (c : Nat) (es : List E) | meth (m : Nat) (a : E) (es : List E)
  | bi (b : Bi) (es : List E) | isi (a : E) (ts : Ty)
  | bs (b : Bs) (s : Src)
  | mt (m : Mt) (a : E) (es : List E)
  | lc (t : Tg) (s : Src) (e : E) | lci (t : Tg) (s : Src) (c e : E)
  | dc (t : Tg) (s : Src) (k v : E) | dci (t : Tg) (s : Src) (c k v : E)
  | mu (m : Mu) (p : Pl) (es : List E)
  | mex (m : Nat) (p : Pl) (es : List E)
  | cax (f : Nat) (p : Pl) (es : List E)
/-- what is walked: a value's items; a range, zip .. of values -/
inductive Src where
  | e (a : E)
  | itr (k : Itk) (es : List E)
end

/-- the left side of one part of a, b = c, d: a slot (shared, owned), a field (shared, owned), an item -/
inductive Lh where
  | a (i : Nat) | o (i : Nat) | f (i x : Nat) | fo (i x : Nat) | it (p : Pl) (k : E)

inductive S where
  | asg (i : Nat) (e : E) | own (i : Nat) (e : E) | frz (i : Nat)
  | unp (t : Tg) (e : E) | unpO (is : List Nat) (e : E) | par (ls : List Lh) (es : List E)
  | setI (p : Pl) (k e : E) | setF (i x : Nat) (e : E) | ownF (i x : Nat) (e : E)
  | augV (i : Nat) (o : Bop) (e : E) | augI (p : Pl) (o : Bop) (k e : E) | augF (i x : Nat) (o : Bop) (e : E)
  | ex (e : E) | ret (e : E) | retM (i : Nat) | retN
  | ite (c : E) (a b : List S) | whl (c : E) (b : List S) | forr (t : Tg) (s : Src) (b : List S)
  | brk | cnt | pass
  | rai (c : Nat) (es : List E)
  | tri (b : List S) (hs : List (List Nat × Option Nat × List S))

/-! ### data -/
/-- the most that == and < are asked of: no dict within, not too deep -/
def nice (d : D) : Bool := d.plain && decide (d.depth ≤ 100)

def szOk (n : Nat) : Bool := decide (n ≤ sizeLine)

/-- a * b of ints: not too large -/
def mulOk (i j : Int) : Bool := decide (j.natAbs < 2 ^ 64) || decide (i.natAbs < 2 ^ 64) || decide (i.natAbs.log2 + j.natAbs.log2 < 900000)

def bopD : Bop → D → D → Option O
  | .add, .int i, .int j => some (.dat (.int (i + j)))
  | .add, .str x, .str y => if szOk (x.length + y.length) then some (.dat (.str (x ++ y))) else none
  | .add, .list xs, .list ys => if szOk (xs.length + ys.length) then some (.lst (xs ++ ys)) else none
  | .add, .tuple xs, .tuple ys => if szOk (xs.length + ys.length) then some (.dat (.tuple (xs ++ ys))) else none
  | .sub, .int i, .int j => some (.dat (.int (i - j)))
  | .mul, .int i, .int j => if mulOk i j then some (.dat (.int (i * j))) else none
  | .mul, .list xs, .int k => if decide (k < 2 ^ 62) && decide (-(2 ^ 62) ≤ k) && szOk (xs.length * k.toNat) then some (.lst (List.replicate k.toNat xs).flatten) else none
  | .mul, .tuple xs, .int k => if decide (1 ≤ k) && decide (k ≤ 1000) && decide (xs.length ≤ 1000) && !xs.isEmpty then some (.dat (.tuple (List.replicate k.toNat xs).flatten)) else none
  | .fdiv, .int i, .int j => if decide (0 < j) && decide (j < 1073741824) then some (.dat (.int (i / j))) else none
  | .mod, .int i, .int j => if 0 < j then some (.dat (.int (i % j))) else none
  | .pow, .int i, .int j => if decide (0 ≤ j) && decide (j ≤ 1000000) && decide (i.natAbs < 2 ^ 64) then some (.dat (.int (i ^ j.toNat))) else none
  | _, _, _ => none

/-- op= of ints and texts -/
def augD (o : Bop) (d e : D) : Option O := match d, e with
  | .int _, .int _ => (match o with | .pow => none | o => bopD o d e)
  | .str _, .str _ => (match o with | .add => bopD o d e | _ => none)
  | _, _ => none
/-- some item is equal -/
def memD (x : D) (ys : List D) : Bool := ys.any fun y => PyData.eqv y x

/-- a dict's value at a key -/
def dget (kvs : List (D × D)) (k : D) : Option D := (kvs.find? fun p => PyData.eqv p.1 k).map (·.2)
def dhas (kvs : List (D × D)) (k : D) : Bool := (dget kvs k).isSome
def dput (kvs : List (D × D)) (k v : D) : List (D × D) :=
  if dhas kvs k then kvs.map fun p => if PyData.eqv p.1 k then (p.1, v) else p else kvs ++ [(k, v)]
def dout (kvs : List (D × D)) (k : D) : List (D × D) := kvs.filter fun p => !PyData.eqv p.1 k

mutual
/-- what may be a key: None, an int, a text, a tuple of such -/
def keyOk : D → Bool
  | .none => true
  | .int _ => true
  | .str _ => true
  | .tuple xs => keysOk xs
  | _ => false
def keysOk : List D → Bool
  | [] => true
  | x :: xs => keyOk x && keysOk xs
end
/-- a dict has keys of one kind: tuples, or none of them -/
def tupK : D → Bool
  | .tuple _ => true
  | _ => false
/-- a key itself -/
def topKey : D → Bool
  | .int _ => true
  | .str _ => true
  | .tuple xs => keysOk xs
  | _ => false
def kOk (kvs : List (D × D)) (k : D) : Bool := topKey k && decide (k.depth ≤ 8) && (match kvs with
  | [] => true
  | (k', _) :: _ => tupK k == tupK k')

def ordD (x y : D) : Bool := alikeB x y
where alikeB (x y : D) : Bool := W.alike x y && (match x with | .none => false | _ => true) && decide (x.depth ≤ 100)

def ltD (x y : D) : Option Bool := match x, y with
  | .int i, .int j => some (decide (i < j))
  | x, y => if ordD x y && nice x && nice y then some (W.dataLt x y) else none
/-- x <= y of alike data -/
def leD (x y : D) : Option Bool := match x, y with
  | .int i, .int j => some (decide (i ≤ j))
  | x, y => if ordD x y && nice x && nice y then some (!W.dataLt y x) else none

def cmpD : Cop → D → D → Option Bool
  | .eq, x, y => if nice x && nice y then some (PyData.eqv x y) else none
  | .ne, x, y => if nice x && nice y then some (!PyData.eqv x y) else none
  | .lt, x, y => ltD x y
  | .gt, x, y => ltD y x
  | .le, x, y => leD x y
  | .ge, x, y => leD y x
  | .mem, x, .list ys => if nice x && ys.all nice then some (memD x ys) else none
  | .mem, x, .tuple ys => if nice x && ys.all nice then some (memD x ys) else none
  | .mem, x, .dict kvs => if kOk kvs x then some (dhas kvs x) else none
  | .mem, .str x, .str y => match x.cps.toList with
    | [c] => some (decide (c ∈ y.cps.toList))
    | _ => none
  | .nmem, x, .list ys => if nice x && ys.all nice then some (!memD x ys) else none
  | .nmem, x, .tuple ys => if nice x && ys.all nice then some (!memD x ys) else none
  | .nmem, x, .dict kvs => if kOk kvs x then some (!dhas kvs x) else none
  | .nmem, .str x, .str y => match x.cps.toList with
    | [c] => some (!decide (c ∈ y.cps.toList))
    | _ => none
  | _, _, _ => none

/-- the place that an index means -/
abbrev ixN (n : Nat) (i : Int) : Option Nat := L2.ixN n i
abbrev sIx (n dflt : Nat) (i : Option Int) : Nat := HT.sIx n dflt i
def cut {α : Type} (xs : List α) (lo hi : Option Int) : List α := (xs.drop (sIx xs.length 0 lo)).take (sIx xs.length xs.length hi - sIx xs.length 0 lo)

def idxD : D → D → Option D
  | .list xs, .int i => (ixN xs.length i).bind fun j => xs[j]?
  | .tuple xs, .int i => (ixN xs.length i).bind fun j => xs[j]?
  | .str x, .int i => if szOk x.length then ((ixN x.cps.toList.length i).bind fun j => x.cps.toList[j]?).map fun c => .str ⟨#[c]⟩ else none
  | .dict kvs, k => if kOk kvs k then dget kvs k else none
  | _, _ => none

def optI : O → Option (Option Int)
  | .un => some none
  | .dat (.int i) => some (some i)
  | _ => none
def slcD : D → Option Int → Option Int → Option O
  | .list xs, lo, hi => some (.lst (cut xs lo hi))
  | .tuple xs, lo, hi => some (.dat (.tuple (cut xs lo hi)))
  | .str x, lo, hi => if szOk x.length then some (.dat (.str (L2.cutS x lo hi))) else none
  | _, _, _ => none
def revD : D → Option O
  | .list xs => some (.lst xs.reverse)
  | _ => none

def isiD : Ty → D → Bool
  | .int, .int _ => true
  | .int, .bool _ => true
  | .bool, .bool _ => true
  | .str, .str _ => true
  | .tup, .tuple _ => true
  | .lst, .list _ => true
  | _, _ => false

/-- the items that are walked -/
def itemsD : D → Option (List D)
  | .list xs => some xs
  | .tuple xs => some xs
  | .dict kvs => some (kvs.map (·.1))
  | .str x => some (x.cps.toList.map fun c => .str ⟨#[c]⟩)
  | _ => none

/-- .. of a list, a tuple, a text -/
def seqD : D → Option (List D)
  | .list xs => some xs
  | .tuple xs => some xs
  | .str x => some (x.cps.toList.map fun c => .str ⟨#[c]⟩)
  | _ => none
/-- .. of a list, a tuple -/
def lsD : D → Option (List D)
  | .list xs => some xs
  | .tuple xs => some xs
  | _ => none
/-- the sublists of so many, as itertools tells them -/
def combs {α : Type} : Nat → List α → List (List α)
  | 0, _ => [[]]
  | _ + 1, [] => []
  | k + 1, x :: xs => (combs k xs).map (x :: ·) ++ combs (k + 1) xs

def zipD : List D → List D → List D
  | x :: xs, y :: ys => .tuple [x, y] :: zipD xs ys
  | _, _ => []
def enumD : Nat → List D → List D
  | _, [] => []
  | n, x :: xs => .tuple [.int n, x] :: enumD (n + 1) xs
def rangeD (lo : Int) (step : Int) : Nat → List D
  | 0 => []
  | n + 1 => .int lo :: rangeD (lo + step) step n
def small (i : Int) : Bool := decide (-(2 ^ 40) < i) && decide (i < 2 ^ 40)
def itrD : Itk → List D → Option (List D)
  | .range1, [.int j] => if small j && szOk j.toNat then some (rangeD 0 1 j.toNat) else none
  | .range2, [.int i, .int j] => if small i && small j && szOk (j - i).toNat then some (rangeD i 1 (j - i).toNat) else none
  | .range3, [.int i, .int j, .int (.negSucc 0)] => if small i && small j && szOk (i - j).toNat then some (rangeD i (-1) (i - j).toNat) else none
  | .zip, [.list xs, .list ys] => some (zipD xs ys)
  | .zip, [.tuple xs, .tuple ys] => some (zipD xs ys)
  | .enum, [.list xs] => some (enumD 0 xs)
  | .enum, [.tuple xs] => some (enumD 0 xs)
  | .items, [.dict kvs] => some (kvs.map fun p => .tuple [p.1, p.2])
  | .values, [.dict kvs] => some (kvs.map (·.2))
  | .combs, [a, .int k] => match a with
    | .list xs => if 0 ≤ k then some ((combs k.toNat xs).map .tuple) else none
    | .tuple xs => if 0 ≤ k then some ((combs k.toNat xs).map .tuple) else none
    | _ => none
  | _, _ => none

def intsOf : List D → Option (List Int)
  | [] => some []
  | .int i :: r => (intsOf r).map (i :: ·)
  | _ :: _ => none
def boolsOf : List D → Option (List Bool)
  | [] => some []
  | .bool b :: r => (boolsOf r).map (b :: ·)
  | _ :: _ => none
/-- all of them ints or truth values -/
def numsOf : List D → Option (List Int)
  | [] => some []
  | .int i :: r => (numsOf r).map (i :: ·)
  | .bool b :: r => (numsOf r).map ((if b = true then 1 else 0) :: ·)
  | _ :: _ => none

/-- the items can be put in order -/
def sortable (xs : List D) : Bool := xs.all (fun x => nice x && xs.all fun y => ordD x y) && szOk xs.length && (xs.all (fun x => !tupK x) || xs.all fun x => match x with
  | .tuple (_ :: _) => true
  | _ => false)
def leB (x y : D) : Bool := !W.dataLt y x
def insD (x : D) : List D → List D
  | [] => [x]
  | y :: r => if leB x y then x :: y :: r else y :: insD x r
def sortD : List D → List D
  | [] => []
  | x :: r => insD x (sortD r)
def dedup (xs : List D) : List D := xs.foldl (fun acc x => if memD x acc then acc else acc ++ [x]) []
def pairsOf : List D → Option (List (D × D))
  | [] => some []
  | .tuple [k, v] :: r => (pairsOf r).map ((k, v) :: ·)
  | _ :: _ => none
def pairUp : List D → Option (List (D × D))
  | [] => some []
  | k :: v :: r => (pairUp r).map ((k, v) :: ·)
  | _ => none
/-- d with one entry more, if it can be -/
def dputO (kvs : List (D × D)) (k v : D) : Option (List (D × D)) := if kOk kvs k && szOk (kvs.length + 1) then some (dput kvs k v) else none
def dputs : List (D × D) → List (D × D) → Option (List (D × D))
  | acc, [] => some acc
  | acc, (k, v) :: r => (dputO acc k v).bind fun acc => dputs acc r
/-- the first of the least -/
def minD : List D → Option D
  | [] => none
  | x :: xs => some (xs.foldl (fun b y => if W.dataLt y b then y else b) x)
def maxD : List D → Option D
  | [] => none
  | x :: xs => some (xs.foldl (fun b y => if W.dataLt b y then y else b) x)

def isI : D → Bool
  | .int _ => true
  | _ => false
/-- what is asked of: dict(..) asks a list; sorted(d) a dict of less than 64 ints -/
def lsB : Bs → D → Option (List D)
  | .dict, .list xs => some xs
  | .dict, _ => none
  | .sorted, .dict kvs => if decide (kvs.length < 64) && kvs.all (fun p => isI p.1) then some (kvs.map (·.1)) else none
  | _, d => lsD d
def bsD : Bs → List D → Option O
  | .list, xs => some (.lst xs)
  | .tuple, xs => some (.dat (.tuple xs))
  | .sorted, xs => if sortable xs then some (.lst (sortD xs)) else none
  | .sum, xs => (numsOf xs).map fun ns => .dat (.int ns.sum)
  | .min, xs => if sortable xs then (minD xs).map .dat else none
  | .max, xs => if sortable xs then (maxD xs).map .dat else none
  | .all, xs => (boolsOf xs).map fun bs => .dat (.bool (bs.all id))
  | .any, xs => (boolsOf xs).map fun bs => .dat (.bool (bs.any id))
  | .dict, xs => (pairsOf xs).bind fun ps => if ps.all fun p => !tupK p.1 then (dputs [] ps).map .dct else none
  | .sset, xs => if sortable xs && xs.all keyOk then some (.lst (sortD (dedup xs))) else none
  | .lset, xs => if xs.all keyOk then some (.dat (.int (dedup xs).length)) else none

/-- a dict's values -/
def valsD : D → Option (List D)
  | .dict kvs => some (kvs.map (·.2))
  | _ => none
def biD : Bi → List D → Option D
  | .len, [.list xs] => some (.int xs.length)
  | .len, [.tuple xs] => some (.int xs.length)
  | .len, [.dict kvs] => some (.int kvs.length)
  | .len, [.str x] => if szOk x.length then some (.int x.length) else none
  | .abs, [.int i] => some (.int (if i < 0 then -i else i))
  | .int, [.int i] => some (.int i)
  | .int, [.bool b] => some (.int (if b then 1 else 0))
  | .str, [.int i] => if i.natAbs.log2 < 1920 then some (.str (toString i)) else none
  | .max2, [.int i, .int j] => some (.int (if j > i then j else i))
  | .min2, [.int i, .int j] => some (.int (if j < i then j else i))
  | .max3, [.int i, .int j, .int k] => some (.int (let m := if j > i then j else i; if k > m then k else m))
  | .min3, [.int i, .int j, .int k] => some (.int (let m := if j < i then j else i; if k < m then k else m))
  | .gcd, [.int i, .int j] => some (.int (Int.gcd i j))
  | .comb, [.int i, .int j] => if decide (0 ≤ i) && decide (0 ≤ j) && decide (i < 2 ^ 64) && decide (j ≤ 9000 ∨ i ≤ 18000) then some (.int (PySem.W.mcComb i j)) else none
  | _, _ => none

/-- the first place of an equal item -/
def indexD (xs : List D) (y : D) : Option Nat := xs.findIdx? fun x => PyData.eqv x y
def mtD : Mt → D → List D → Option O
  | .index, .list xs, [y] => if nice y && xs.all nice then (indexD xs y).map fun (n : Nat) => .dat (.int n) else none
  | .count, .list xs, [y] => if nice y && xs.all nice then some (.dat (.int (xs.countP fun x => PyData.eqv x y))) else none
  | .count, .tuple xs, [y] => if nice y && xs.all nice then some (.dat (.int (xs.countP fun x => PyData.eqv x y))) else none
  | .get1, .dict kvs, [k] => if kOk kvs k then some (.dat ((dget kvs k).getD .none)) else none
  | .get2, .dict kvs, [k, x] => if kOk kvs k then some (.dat ((dget kvs k).getD x)) else none
  | _, _, _ => none

/-- the value has the method -/
def mtTy : Mt → D → Bool
  | .index, .list _ => true
  | .count, .list _ => true
  | .count, .tuple _ => true
  | .get1, .dict _ => true
  | .get2, .dict _ => true
  | _, _ => false

/-- a value goes, what the container is then -/
def muD : Mu → O → List D → Option (O × O)
  | .append, .lst xs, [y] => if szOk (xs.length + 1) then some (.dat .none, .lst (xs ++ [y])) else none
  | .extend, .lst xs, [.list ys] => if szOk (xs.length + ys.length) then some (.dat .none, .lst (xs ++ ys)) else none
  | .extend, .lst xs, [.tuple ys] => if szOk (xs.length + ys.length) then some (.dat .none, .lst (xs ++ ys)) else none
  | .pop, .lst xs, [] => match xs.getLast? with
    | some y => some (.dat y, .lst xs.dropLast)
    | none => none
  | .dpop, .dct kvs, [k] => if kOk kvs k && !tupK k then (dget kvs k).map fun v => (.dat v, .dct (dout kvs k)) else none
  | .dpopD, .dct kvs, [k, x] => if kOk kvs k && !tupK k then (match dget kvs k with
    | some v => some (.dat v, .dct (dout kvs k))
    | none => some (.dat x, .dct kvs)) else none
  | .remove, .lst xs, [y] => if nice y && xs.all nice then (indexD xs y).map fun j => (.dat .none, .lst (xs.eraseIdx j)) else none
  | _, _, _ => none

/-- what is changed is of that kind -/
def muTy : Mu → O → Bool
  | .dpop, .dct _ => true
  | .dpopD, .dct _ => true
  | .dpop, _ => false
  | .dpopD, _ => false
  | _, .lst _ => true
  | _, _ => false
/-! ### places -/
def alook (fs : List (Nat × O)) (x : Nat) : O := (fs.lookup x).getD .un
def aput (fs : List (Nat × O)) (x : Nat) (o : O) : List (Nat × O) := match fs with
  | [] => [(x, o)]
  | (y, p) :: r => if y = x then (x, o) :: r else (y, p) :: aput r x o
def fldO : O → Nat → O
  | .fin _ fs, x => alook fs x
  | .ins _ fs, x => alook fs x
  | _, _ => .un
def getPl : Pl → St → O
  | .v i, s => s.getD i .un
  | .f i x, s => fldO (s.getD i .un) x
/-- what is in a place is changed -/
def setPl : Pl → O → St → Option St
  | .v i, o, s => some (s.set i o)
  | .f i x, o, s => match s.getD i .un with
    | .ins c fs => some (s.set i (.ins c (aput fs x o)))
    | _ => none
def plOf : E → Option Pl
  | .var i => some (.v i)
  | .fld (.var i) x => some (.f i x)
  | _ => none
def plE : Pl → E
  | .v i => .var i
  | .f i x => .fld (.var i) x
/-- a place's own content, or what the expression gives -/
def bor (a : E) (s : St) (r : R O) : R O := match plOf a with
  | some p => (match getPl p s with
    | .un => .no
    | o => .ok o s)
  | none => r

mutual
/-- a value goes to a target -/
def tset : Tg → D → St → Option St
  | .v i, d, s => some (s.set i (.dat d))
  | .t ts, .tuple ds, s => tsets ts ds s
  | .t _, _, _ => none
def tsets : List Tg → List D → St → Option St
  | [], [], s => some s
  | t :: ts, d :: ds, s => (tset t d s).bind fun s => tsets ts ds s
  | _, _, _ => none
end

mutual
/-- the slots of a target -/
def tgS : Tg → List Nat
  | .v i => [i]
  | .t ts => tgSs ts
def tgSs : List Tg → List Nat
  | [] => []
  | t :: r => tgS t ++ tgSs r
end
/-- a comprehension's own slots, forgotten -/
def wipeO : List Nat → St → St
  | [], s => s
  | i :: vs, s => (wipeO vs s).set i .un
/-- no owned thing is forgotten; not too many items -/
def cOk (t : Tg) (xs : List D) (s : St) : Bool := szOk xs.length && (tgS t).all fun i => match s.getD i .un with
  | .un => true
  | o => o.shared
/-- what the evaluator is handed: constants, methods, calls, a bound for while -/
structure Cf where
  glb : Nat → Option D
  meth : Nat → Nat → Option Nat
  init : Nat → Option Nat
  fo : Nat → Nat → Bool
  call : Nat → List O → CR
  wf : Nat

def ofB (o : Option Bool) (s : St) : R O := match o with
  | some b => .ok (.dat (.bool b)) s
  | none => .no
def ofO (o : Option O) (s : St) : R O := match o with
  | some b => .ok b s
  | none => .no
def ofD (o : Option D) (s : St) : R O := match o with
  | some b => .ok (.dat b) s
  | none => .no
/-- the call's end: what the caller has then -/
def ofC (r : CR) (s : St) : R O := match r with
  | .ok o _ => .ok o s
  | .exc c p _ => .exc c p s
  | .no => .no
def dOf (o : O) (s : St) : R D := match o.d? with
  | some d => .ok d s
  | none => .no
def dsOf : List O → Option (List D)
  | [] => some []
  | o :: r => match o.d?, dsOf r with
    | some d, some ds => some (d :: ds)
    | _, _ => none
def mkTup (os : List O) : O := match dsOf os with
  | some ds => .dat (.tuple ds)
  | none => .tpo os
/-- the items of a comprehension -/
def lciGo (f : D → Option (Option D)) : List D → Option (List D)
  | [] => some []
  | x :: xs => match f x, lciGo f xs with
    | some (some y), some ys => some (y :: ys)
    | some none, some ys => some ys
    | _, _ => none
def dcGo (f : D → Option (Option (D × D))) : List (D × D) → List D → Option (List (D × D))
  | acc, [] => some acc
  | acc, x :: xs => match f x with
    | some (some (k, v)) => if tupK k then none else (dputO acc k v).bind fun acc => dcGo f acc xs
    | some none => dcGo f acc xs
    | none => none
def R.val {α : Type} : R α → Option α
  | .ok a _ => some a
  | _ => none
def oD (o : Option O) : Option D := o.bind fun o => (fz o).d?
def oB (o : Option O) : Option Bool := match o with
  | some (.dat (.bool b)) => some b
  | _ => none
/-- an item of what it is -/
def idxO : O → D → Option O
  | .tpo xs, .int i => (ixN xs.length i).bind fun j => xs[j]?
  | .dat d, k => (idxD d k).map .dat
  | .lst xs, k => (idxD (.list xs) k).map .dat
  | .dct kvs, k => (idxD (.dict kvs) k).map .dat
  | _, _ => none
/-- a slice's part -/
def evo (r : R O) : R (Option Int) := r.bind fun o s => match optI o with
  | some i => .ok i s
  | none => .no
def sharedO (o : O) (s : St) : R O := if o.shared then .ok o s else .no

section
variable (C : Cf)
mutual
def ev : E → St → R O
  | .nil, s => .ok .un s
  | .non, s => .ok (.dat .none) s
  | .bl b, s => .ok (.dat (.bool b)) s
  | .int i, s => .ok (.dat (.int i)) s
  | .str x, s => .ok (.dat (.str x)) s
  | .glb x, s => ofD (C.glb x) s
  | .var i, s => sharedO (s.getD i .un) s
  | .tup es, s => (evs es s).bind fun os s => .ok (mkTup os) s
  | .lst es, s => (evs es s).bind fun os s => ofO ((dsOf os).map .lst) s
  | .dct es, s => (evs es s).bind fun os s => ofO ((((dsOf os).bind pairUp).bind (dputs [])).map .dct) s
  | .bop o a b, s => (bor a s (ev a s)).bind fun x s => (bor b s (ev b s)).bind fun y s => match x.d?, y.d? with
    | some d, some e => ofO (bopD o d e) s
    | _, _ => .no
  | .neg a, s => (ev a s).bind fun x s => match x with
    | .dat (.int i) => .ok (.dat (.int (-i))) s
    | _ => .no
  | .cmp o a b, s => (bor a s (ev a s)).bind fun x s => (bor b s (ev b s)).bind fun y s => match x.d?, y.d? with
    | some d, some e => ofB (cmpD o d e) s
    | _, _ => .no
  | .chn o p a b c, s => (bor a s (ev a s)).bind fun x s => (bor b s (ev b s)).bind fun y s => match x.d?, y.d? with
    | some d, some e => (match cmpD o d e with
      | some true => (bor c s (ev c s)).bind fun z s => match z.d? with
        | some g => ofB (cmpD p e g) s
        | none => .no
      | some false => .ok (.dat (.bool false)) s
      | none => .no)
    | _, _ => .no
  | .isn a, s => (bor a s (ev a s)).bind fun x s => .ok (.dat (.bool (match x with | .dat .none => true | _ => false))) s
  | .notn a, s => (bor a s (ev a s)).bind fun x s => .ok (.dat (.bool (match x with | .dat .none => false | _ => true))) s
  | .and a b, s => (ev a s).bind fun x s => match x with
    | .dat (.bool true) => ev b s
    | .dat (.bool false) => .ok (.dat (.bool false)) s
    | _ => .no
  | .or a b, s => (ev a s).bind fun x s => match x with
    | .dat (.bool true) => .ok (.dat (.bool true)) s
    | .dat (.bool false) => ev b s
    | _ => .no
  | .not a, s => (ev a s).bind fun x s => match x with
    | .dat (.bool b) => .ok (.dat (.bool (!b))) s
    | _ => .no
  | .ife c a b, s => (ev c s).bind fun x s => match x with
    | .dat (.bool true) => ev a s
    | .dat (.bool false) => ev b s
    | _ => .no
  | .idx a i, s => (bor a s (ev a s)).bind fun x s => (ev i s).bind fun k s => ofO ((fz k).d?.bind (idxO x)) s
  | .slc a lo hi, s => (bor a s (ev a s)).bind fun x s => (evo (ev lo s)).bind fun l s => (evo (ev hi s)).bind fun h s => match x.d? with
    | some d => ofO (slcD d l h) s
    | none => .no
  | .rev a, s => (bor a s (ev a s)).bind fun x s => match x.d? with
    | some d => ofO (revD d) s
    | none => .no
  | .fld a x, s => (bor a s (ev a s)).bind fun o s => sharedO (fldO o x) s
  | .call f es, s => (evs es s).bind fun os s => ofC (C.call f os) s
  | .new c es, s => (evs es s).bind fun os s => match C.init c with
    | some f => (match C.call f (.ins c [] :: os) with
      | .ok (.dat .none) (.ins c' fs :: _) => .ok (.ins c' fs) s
      | .exc c p _ => .exc c p s
      | _ => .no)
    | none => .no
  | .meth m a es, s => (bor a s (ev a s)).bind fun o s => match o with
    | .fin c fs => (match C.meth c m with
      | some f => (evs es s).bind fun os s => ofC (C.call f (.fin c fs :: os)) s
      | none => .no)
    | _ => .no
  | .bi b es, s => match es with
    | [a] => (bor a s (ev a s)).bind fun x s => (match x.d? with
      | some d => ofD (biD b [d]) s
      | none => .no)
    | es => (evs es s).bind fun os s => match dsOf os with
      | some ds => ofD (biD b ds) s
      | none => .no
  | .isi a t, s => (bor a s (ev a s)).bind fun x s => match x.d? with
    | some d => .ok (.dat (.bool (isiD t d))) s
    | none => .no
  | .bs b a, s => match a with
    | .e a => (bor a s (ev a s)).bind fun x s => ofO ((x.d?.bind (lsB b)).bind (bsD b)) s
    | .itr .values [a] => (bor a s (ev a s)).bind fun x s => ofO ((x.d?.bind valsD).bind (bsD b)) s
    | .itr k es => (evs es s).bind fun os s => ofO (((dsOf os).bind (itrD k)).bind (bsD b)) s
  | .mt m a es, s => (bor a s (ev a s)).bind fun x s => match x.d? with
    | some d => if mtTy m d then (evs es s).bind fun os s => (match dsOf os with
      | some ds => ofO (mtD m d ds) s
      | none => .no) else .no
    | none => .no
  | .lc t a e, s => (evi a s).bind fun xs s => if cOk t xs s then ofO ((lciGo (fun x => (tset t x (wipeO (tgS t) s)).bind fun s => (oD (ev e s).val).map some) xs).map .lst) s else .no
  | .lci t a c e, s => (evi a s).bind fun xs s => if cOk t xs s then ofO ((lciGo (fun x => (tset t x (wipeO (tgS t) s)).bind fun s => match oB (ev c s).val with
    | some true => (oD (ev e s).val).map some
    | some false => some none
    | none => none) xs).map .lst) s else .no
  | .dc t a k v, s => (evi a s).bind fun xs s => if cOk t xs s then ofO ((dcGo (fun x => (tset t x (wipeO (tgS t) s)).bind fun s => match oD (ev k s).val, oD (ev v s).val with
    | some k, some v => some (some (k, v))
    | _, _ => none) [] xs).map .dct) s else .no
  | .dci t a c k v, s => (evi a s).bind fun xs s => if cOk t xs s then ofO ((dcGo (fun x => (tset t x (wipeO (tgS t) s)).bind fun s => match oB (ev c s).val with
    | some true => (match oD (ev k s).val, oD (ev v s).val with
      | some k, some v => some (some (k, v))
      | _, _ => none)
    | some false => some none
    | none => none) [] xs).map .dct) s else .no
  | .mu m p es, s => (bor (plE p) s .no).bind fun x s => if muTy m x then (evs es s).bind fun os s => (match (dsOf os).bind (muD m (getPl p s)) with
      | some (r, o) => (match setPl p o s with
        | some s => .ok r s
        | none => .no)
      | none => .no) else .no
  | .mex m p es, s => (bor (plE p) s .no).bind fun x s => match x with
    | .ins c fs => (match C.meth c m with
      | some f => (evs es s).bind fun os s => (match C.call f (.ins c fs :: os) with
        | .ok r (.ins c' fs' :: _) => if c' = c then (match setPl p (.ins c' fs') s with
          | some s => .ok r s
          | none => .no) else .no
        | .exc c0 p' (.ins c' fs' :: _) => if c' = c then (match setPl p (.ins c' fs') s with
          | some s => .exc c0 p' s
          | none => .no) else .no
        | _ => .no)
      | none => .no)
    | _ => .no
  | .cax f p es, s => (bor (plE p) s .no).bind fun _ s => (evs es s).bind fun os s => match C.call f (getPl p s :: os) with
    | .ok r (o :: _) => (match setPl p o s with
      | some s => .ok r s
      | none => .no)
    | _ => .no
/-- the values of arguments, shared -/
def evs : List E → St → R (List O)
  | [], s => .ok [] s
  | e :: es, s => (ev e s).bind fun o s => (evs es s).bind fun os s => .ok (fz o :: os) s
/-- what is walked -/
def evi : Src → St → R (List D)
  | .itr k es, s => (evs es s).bind fun os s => match (dsOf os).bind (itrD k) with
    | some xs => .ok xs s
    | none => .no
  | .e a, s => (bor a s (ev a s)).bind fun x s => match x.d?.bind seqD with
    | some xs => .ok xs s
    | none => .no
end
end

inductive Fl where
  | nx | brk | cnt
  | ret (o : O)

def whlGo (c : St → R O) (b : St → R Fl) : Nat → St → R Fl
  | 0, _ => .no
  | n + 1, s => match c s with
    | .ok (.dat (.bool true)) s => (match b s with
      | .ok .nx s => whlGo c b n s
      | .ok .cnt s => whlGo c b n s
      | .ok .brk s => .ok .nx s
      | .ok (.ret o) s => .ok (.ret o) s
      | .exc c p s => .exc c p s
      | .no => .no)
    | .ok (.dat (.bool false)) s => .ok .nx s
    | .exc c p s => .exc c p s
    | _ => .no
def forGo (b : D → St → R Fl) : List D → St → R Fl
  | [], s => .ok .nx s
  | x :: xs, s => match b x s with
    | .ok .nx s => forGo b xs s
    | .ok .cnt s => forGo b xs s
    | .ok .brk s => .ok .nx s
    | .ok (.ret o) s => .ok (.ret o) s
    | .exc c p s => .exc c p s
    | .no => .no
/-- the value goes into a slot, shared -/
def R.put (r : R O) (f : O → St → Option St) : R Fl := r.bind fun o s => match f o s with
  | some s => .ok .nx s
  | none => .no
def putV (i : Nat) (o : O) (s : St) : Option St := match fz o with
  | .un => none
  | o => some (s.set i o)
def ownV (i : Nat) (o : O) (s : St) : Option St := match o with
  | .un => none
  | o => some (s.set i o)
def putF (fo : Nat → Nat → Bool) (i x : Nat) (o : O) (s : St) : Option St := match fz o, s.getD i .un with
  | .un, _ => none
  | o, .ins c fs => if fo c x && decide (fs.length < 900) then some (s.set i (.ins c (aput fs x o))) else none
  | _, _ => none
def ownFd (fo : Nat → Nat → Bool) (i x : Nat) (o : O) (s : St) : Option St := match o, s.getD i .un with
  | .un, _ => none
  | o, .ins c fs => if fo c x && decide (fs.length < 900) then some (s.set i (.ins c (aput fs x o))) else none
  | _, _ => none
/-- an owned list, dict -/
def isC : O → Bool
  | .lst _ => true
  | .dct _ => true
  | _ => false
/-- p[k] = v -/
def setO (p : Pl) (k : D) (v : D) (s : St) : Option St := match getPl p s with
  | .lst xs => (match k with
    | .int i => (ixN xs.length i).bind fun j => setPl p (.lst (xs.set j v)) s
    | _ => none)
  | .dct kvs => (dputO kvs k v).bind fun kvs => setPl p (.dct kvs) s
  | _ => none
def getO (p : Pl) (k : D) (s : St) : Option D := match (getPl p s).d? with
  | some d => idxD d k
  | none => none

/-- names take values, from the left -/
def setOs : List Nat → List O → St → St
  | i :: is, o :: os, s => setOs is os (s.set i o)
  | _, _, s => s

section
variable (C : Cf) (sub : Nat → Nat → Bool)
def lhs : Lh → O → St → R Fl
  | .a i, o, s => R.put (.ok o s) (putV i)
  | .o i, o, s => R.put (.ok o s) (ownV i)
  | .f i x, o, s => R.put (.ok o s) (putF C.fo i x)
  | .fo i x, o, s => R.put (.ok o s) (ownFd C.fo i x)
  | .it p k, o, s => (bor (plE p) s .no).bind fun x s => if isC x then (ev C k s).bind fun k s => (match (fz k).d?, (fz o).d? with
    | some k, some v => R.put (.ok .un s) fun _ s => setO p k v s
    | _, _ => .no) else .no
def lhss : List Lh → List O → St → R Fl
  | [], [], s => .ok .nx s
  | l :: ls, o :: os, s => (lhs C l o s).bind fun _ s => lhss ls os s
  | _, _, _ => .no
/-- the parts of a display, each as it is -/
def evw : List E → St → R (List O)
  | [], s => .ok [] s
  | e :: es, s => (ev C e s).bind fun o s => (evw es s).bind fun os s => .ok (o :: os) s
/-- what a for statement walks: shared -/
def evj : Src → St → R (List D)
  | .e a, s => (ev C a s).bind fun o s => match (fz o).d?.bind seqD with
    | some xs => .ok xs s
    | none => .no
  | .itr k es, s => (evs C es s).bind fun os s => match (dsOf os).bind (itrD k) with
    | some xs => .ok xs s
    | none => .no
/-- an except suite that raises is not looked at -/
def quiet (r : R Fl) : R Fl := match r with
  | .exc _ _ _ => .no
  | r => r
def catches (c : Nat) : List Nat → Bool
  | [] => false
  | k :: ks => sub c k || catches c ks
mutual
def exec : S → St → R Fl
  | .asg i e, s => (ev C e s).put (putV i)
  | .own i e, s => (ev C e s).put (ownV i)
  | .frz i, s => .ok .nx (s.set i (fz (s.getD i .un)))
  | .unp t e, s => (ev C e s).bind fun o s => match (fz o).d? with
    | some d => (match tset t d s with
      | some s => .ok .nx s
      | none => .no)
    | none => .no
  | .unpO is e, s => (ev C e s).bind fun o s => match o with
    | .tpo os => if os.length = is.length then .ok .nx (setOs is os s) else .no
    | _ => .no
  | .par ls es, s => (evw C es s).bind fun os s => lhss C ls os s
  | .setI p k e, s => (ev C e s).bind fun o s => (bor (plE p) s .no).bind fun x s => if isC x then (ev C k s).bind fun k s => (match (fz k).d?, (fz o).d? with
    | some k, some v => (match setO p k v s with
      | some s => .ok .nx s
      | none => .no)
    | _, _ => .no) else .no
  | .setF i x e, s => (ev C e s).put (putF C.fo i x)
  | .ownF i x e, s => (ev C e s).put (ownFd C.fo i x)
  | .augV i o e, s => (bor (.var i) s .no).bind fun x s => (ev C e s).bind fun y s => match x.d?, (fz y).d? with
    | some d, some e => (match augD o d e with
      | some (.dat z) => .ok .nx (s.set i (.dat z))
      | _ => .no)
    | _, _ => .no
  | .augI p o k e, s => (bor (plE p) s .no).bind fun x s => if isC x then (ev C k s).bind fun k s => match (fz k).d?.bind fun k => getO p k s, (fz k).d? with
    | some x, some k => (ev C e s).bind fun y s => (match (fz y).d?.bind (augD o x) with
      | some (.dat z) => (match setO p k z s with
        | some s => .ok .nx s
        | none => .no)
      | _ => .no)
    | _, _ => .no else .no
  | .augF i x o e, s => (bor (.fld (.var i) x) s .no).bind fun v s => (ev C e s).bind fun y s => match v.d?, (fz y).d? with
    | some d, some e => (match augD o d e with
      | some (.dat z) => (match putF C.fo i x (.dat z) s with
        | some s => .ok .nx s
        | none => .no)
      | _ => .no)
    | _, _ => .no
  | .ex e, s => (ev C e s).bind fun _ s => .ok .nx s
  | .ret e, s => (ev C e s).bind fun o s => .ok (.ret o) s
  | .retM i, s => match s.getD i .un with
    | .un => .no
    | o => .ok (.ret o) (s.set i .un)
  | .retN, s => .ok (.ret (.dat .none)) s
  | .ite c a b, s => (ev C c s).bind fun x s => match x with
    | .dat (.bool true) => execs a s
    | .dat (.bool false) => execs b s
    | _ => .no
  | .whl c b, s => whlGo (fun s => ev C c s) (fun s => execs b s) C.wf s
  | .forr t a b, s => (evj C a s).bind fun xs s => forGo (fun x s => match tset t x s with
    | some s => execs b s
    | none => .no) xs s
  | .brk, s => .ok .brk s
  | .cnt, s => .ok .cnt s
  | .pass, s => .ok .nx s
  | .rai c es, s => match es with
    | [.str _] => .exc c [] s
    | _ => .no
  | .tri b hs, s => match execs b s with
    | .exc c p s => handle hs c p s
    | r => r
def execs : List S → St → R Fl
  | [], s => .ok .nx s
  | a :: r, s => match exec a s with
    | .ok .nx s => execs r s
    | x => x
def handle : List (List Nat × Option Nat × List S) → Nat → List (Nat × D) → St → R Fl
  | [], c, p, s => .exc c p s
  | (ks, n, b) :: hs, c, p, s => if sub c c && ks.all (fun k => sub k k) then (if catches sub c ks then (match n with
      | some i => quiet (execs b (s.set i (.fin c (p.map fun q => (q.1, .dat q.2)))))
      | none => quiet (execs b s)) else handle hs c p s) else .no
end
end

structure Fn where
  np : Nat
  ns : Nat
  body : List S

/-- a program -/
structure Pg where
  fn : Nat → Option Fn
  glb : Nat → Option D
  meth : Nat → Nat → Option Nat
  init : Nat → Option Nat
  fo : Nat → Nat → Bool
  sub : Nat → Nat → Bool
  wf : Nat

def finish (np : Nat) : R Fl → CR
  | .ok (.ret o) s => .ok o (s.take np)
  | .ok .nx s => .ok (.dat .none) (s.take np)
  | .exc c p s => .exc c p (s.take np)
  | _ => .no
def callF (P : Pg) : Nat → Nat → List O → CR
  | 0, _, _ => .no
  | n + 1, f, args => match P.fn f with
    | none => .no
    | some fn => if args.length = fn.np then finish fn.np (execs ⟨P.glb, P.meth, P.init, P.fo, callF P n, P.wf⟩ P.sub fn.body (args ++ List.replicate (fn.ns - fn.np) .un)) else .no
end Lw

set_option autoImplicit false
set_option linter.all false
set_option Elab.async false
set_option maxRecDepth 100000
/-! LRep: how the values of LCore lie in the abstract heap. Shared data lie in a part Hf of the heap that never changes; what a slot owns lies apart, each address once. -/
namespace Lw
open PySem PySem.Spec PyProof.Rows L2

/-- the text's names: the written part, the classes' addresses, the fields' names -/
structure Gx where
  prog : Program
  w : World
  K : PySem.W.Frag
  ca : Nat → Addr
  fnm : Nat → Str
  nf : Nat
  inj : ∀ i j, i < nf → j < nf → fnm i = fnm j → i = j

def keyD : Key → D
  | .inl i => .int i
  | .inr x => .str x

/-- a dict with tuples as keys: its own object -/
def dphi (P : Program) (w : World) (a : Addr) (xs : List (NestedKey × Addr × V)) (h : Heap) : Prop :=
  xs.length ≤ sizeLine ∧ (a == sysModules) = false ∧ (xs.map (·.1)).Nodup ∧ ∃ us : List (NestedKey × Addr × Value), Paired (fun p q => p.1 = q.1 ∧ p.2.1 = q.2.1 ∧ RelV p.2.2 q.2.2) xs us ∧
    ∃ o es ep, h.get? a = some o ∧ o.ExactDict ∧ o.data = .dict es ep ∧ es.toList = us.map (entryOfKey (nestedKind P w))

/-- a dict of the text's own top -/
def wrD (P : Program) (w : World) (K : PySem.W.Frag) (a : Addr) (kvs : List (Key × V)) : Prop :=
  kvs.length ≤ sizeLine ∧ (a == sysModules) = false ∧ ∃ vs, KV kvs vs ∧ ∀ h : Heap, K.In h → h.DictOf (mixKind P w) a vs

section
variable (G : Gx)
mutual
/-- the value v is the datum d, all of it in the part H of the heap -/
inductive Rp (H : Hp) : V → D → Prop
  | non : Rp H .non .none
  | bl (b : Bool) : Rp H (.bl b) (.bool b)
  | int (i : Int) : Rp H (.int i) (.int i)
  | str (x : Str) : Rp H (.str x) (.str x)
  | lst {a : Addr} {vs : List V} {ds : List D} : SqL G.K H a vs → Rps H vs ds → Rp H (.ref a) (.list ds)
  | tup {a : Addr} {vs : List V} {ds : List D} : SqT G.K H a vs → Rps H vs ds → Rp H (.ref a) (.tuple ds)
  | dK {a : Addr} {kvs : List (Key × V)} {ds : List (D × D)} : H a = some (.dK kvs) → Rpk H (kvs.map fun p => (keyD p.1, p.2)) ds → Rp H (.ref a) (.dict ds)
  | dW {a : Addr} {kvs : List (Key × V)} {ds : List (D × D)} : wrD G.prog G.w G.K a kvs → Rpk H (kvs.map fun p => (keyD p.1, p.2)) ds → Rp H (.ref a) (.dict ds)
  | dT {a : Addr} {xs : List (NestedKey × Addr × V)} {ds : List (D × D)} : H a = some (.ext (dphi G.prog G.w a xs)) → Rpt H xs → Rpk H (xs.map fun p => (p.1.data, p.2.2)) ds → Rp H (.ref a) (.dict ds)
inductive Rps (H : Hp) : List V → List D → Prop
  | nil : Rps H [] []
  | cons {v : V} {vs : List V} {d : D} {ds : List D} : Rp H v d → Rps H vs ds → Rps H (v :: vs) (d :: ds)
/-- the entries of a dict, the keys being known -/
inductive Rpk (H : Hp) : List (D × V) → List (D × D) → Prop
  | nil : Rpk H [] []
  | cons {k : D} {v : V} {ks : List (D × V)} {d : D} {ds : List (D × D)} : Rp H v d → Rpk H ks ds → Rpk H ((k, v) :: ks) ((k, d) :: ds)
/-- the keys' own tuples -/
inductive Rpt (H : Hp) : List (NestedKey × Addr × V) → Prop
  | nil : Rpt H []
  | cons {k : NestedKey} {a : Addr} {v : V} {r : List (NestedKey × Addr × V)} : tupK k.data = true → k.depth ≤ 8 → Rp H (.ref a) k.data → Rpt H r → Rpt H ((k, a, v) :: r)
end
end

/-- one part of the heap in another one -/
def Le (H H' : Hp) : Prop := ∀ a o, H a = some o → H' a = some o
theorem Le.refl (H : Hp) : Le H H := fun _ _ h => h
theorem Le.trans {H H1 H2 : Hp} (a : Le H H1) (b : Le H1 H2) : Le H H2 := fun x o h => b x o (a x o h)
theorem Le.rd {H H' : Hp} (l : Le H H') {a : Addr} {u : HO} (r : Rd H a u) : Rd H' a u := by
  rcases r with r | ⟨o, r⟩
  · exact .inl (l _ _ r)
  · exact .inr ⟨o, l _ _ r⟩
theorem Le.sqL {H H' : Hp} (l : Le H H') {K : PySem.W.Frag} {a : Addr} {xs : List V} (r : SqL K H a xs) : SqL K H' a xs := r.imp l.rd id
theorem Le.sqT {H H' : Hp} (l : Le H H') {K : PySem.W.Frag} {a : Addr} {xs : List V} (r : SqT K H a xs) : SqT K H' a xs := r.imp l.rd id

section
variable {G : Gx} {H H' : Hp}
mutual
theorem Rp.mono (l : Le H H') : ∀ {v : V} {d : D}, Rp G H v d → Rp G H' v d
  | _, _, .non => .non
  | _, _, .bl b => .bl b
  | _, _, .int i => .int i
  | _, _, .str x => .str x
  | _, _, .lst a b => .lst (l.sqL a) (b.mono l)
  | _, _, .tup a b => .tup (l.sqT a) (b.mono l)
  | _, _, .dK a b => .dK (l _ _ a) (b.mono l)
  | _, _, .dW a b => .dW a (b.mono l)
  | _, _, .dT a b c => .dT (l _ _ a) (b.mono l) (c.mono l)
theorem Rps.mono (l : Le H H') : ∀ {v : List V} {d : List D}, Rps G H v d → Rps G H' v d
  | _, _, .nil => .nil
  | _, _, .cons a b => .cons (a.mono l) (b.mono l)
theorem Rpk.mono (l : Le H H') : ∀ {v : List (D × V)} {d : List (D × D)}, Rpk G H v d → Rpk G H' v d
  | _, _, .nil => .nil
  | _, _, .cons a b => .cons (a.mono l) (b.mono l)
theorem Rpt.mono (l : Le H H') : ∀ {v : List (NestedKey × Addr × V)}, Rpt G H v → Rpt G H' v
  | _, .nil => .nil
  | _, .cons a b c d => .cons a b (c.mono l) (d.mono l)
end

theorem Rps.length : ∀ {v : List V} {d : List D}, Rps G H v d → v.length = d.length
  | _, _, .nil => rfl
  | _, _, .cons _ b => by rw [List.length_cons, List.length_cons, b.length]
theorem Rps.get : ∀ {vs : List V} {ds : List D} {i : Nat} {d : D}, Rps G H vs ds → ds[i]? = some d → ∃ v, vs[i]? = some v ∧ Rp G H v d
  | _, _, _, _, .nil, e => by simp at e
  | _, _, 0, _, .cons a _, e => by simp at e; subst e; exact ⟨_, rfl, a⟩
  | _, _, i + 1, _, .cons _ b, e => by
    obtain ⟨v, h1, h2⟩ := b.get (i := i) (by simpa using e)
    exact ⟨v, by simpa using h1, h2⟩
theorem Rps.get' : ∀ {vs : List V} {ds : List D} {i : Nat} {v : V}, Rps G H vs ds → vs[i]? = some v → ∃ d, ds[i]? = some d ∧ Rp G H v d
  | _, _, _, _, .nil, e => by simp at e
  | _, _, 0, _, .cons a _, e => by simp at e; subst e; exact ⟨_, rfl, a⟩
  | _, _, i + 1, _, .cons _ b, e => by
    obtain ⟨v, h1, h2⟩ := b.get' (i := i) (by simpa using e)
    exact ⟨v, by simpa using h1, h2⟩
theorem Rps.append : ∀ {a b : List V} {x y : List D}, Rps G H a x → Rps G H b y → Rps G H (a ++ b) (x ++ y)
  | _, _, _, _, .nil, h => h
  | _, _, _, _, .cons a b, h => .cons a (b.append h)
theorem Rps.take (n : Nat) : ∀ {a : List V} {x : List D}, Rps G H a x → Rps G H (a.take n) (x.take n) := by
  induction n with
  | zero => intro a x _; exact .nil
  | succ n ih =>
    intro a x h
    cases h with
    | nil => exact .nil
    | cons p q => exact .cons p (ih q)
theorem Rps.drop (n : Nat) : ∀ {a : List V} {x : List D}, Rps G H a x → Rps G H (a.drop n) (x.drop n) := by
  induction n with
  | zero => intro a x h; exact h
  | succ n ih =>
    intro a x h
    cases h with
    | nil => exact .nil
    | cons p q => exact ih q
theorem Rps.set (n : Nat) {v : V} {d : D} (r : Rp G H v d) : ∀ {a : List V} {x : List D}, Rps G H a x → Rps G H (a.set n v) (x.set n d) := by
  induction n with
  | zero =>
    intro a x h
    cases h with
    | nil => exact .nil
    | cons p q => exact .cons r q
  | succ n ih =>
    intro a x h
    cases h with
    | nil => exact .nil
    | cons p q => exact .cons p (ih q)
theorem Rps.reverse : ∀ {a : List V} {x : List D}, Rps G H a x → Rps G H a.reverse x.reverse
  | _, _, .nil => .nil
  | _, _, .cons p q => by
    rw [List.reverse_cons, List.reverse_cons]
    exact q.reverse.append (.cons p .nil)

/-- the class at c is a plain one; x is a field of its instances: no class of it has the name -/
def COk (G : Gx) (c : Nat) : Prop := Cls G.K (G.ca c)
def FOk (G : Gx) (c x : Nat) : Prop := x < G.nf ∧ NoAttr G.K (G.ca c) (G.fnm x)
/-- a shared value -/
inductive RpO (G : Gx) (H : Hp) : V → O → Prop
  | dat {v : V} {d : D} : Rp G H v d → RpO G H v (.dat d)
  | fin {a dx : Addr} {c : Nat} {vs : List V} {fs : List (Nat × O)} : H a = some (.ins (G.ca c) dx ((fs.map fun p => G.fnm p.1).zip vs)) → H dx = some (.own a) → COk G c → (∀ p ∈ fs, FOk G c p.1) → vs.length = fs.length →
      (∀ (i : Nat) (p : Nat × O) (v : V), fs[i]? = some p → vs[i]? = some v → RpO G H v p.2) → RpO G H (.ref a) (.fin c fs)
  | tpo {a : Addr} {vs : List V} {os : List O} : SqT G.K H a vs → vs.length = os.length → (∀ (i : Nat) (o : O) (v : V), os[i]? = some o → vs[i]? = some v → RpO G H v o) → RpO G H (.ref a) (.tpo os)
theorem RpO.mono (l : Le H H') {v : V} {o : O} (h : RpO G H v o) : RpO G H' v o := by
  induction h with
  | dat a => exact .dat (a.mono l)
  | fin a b c d e _ ih => exact .fin (l _ _ a) (l _ _ b) c d e ih
  | tpo a b _ ih => exact .tpo (l.sqT a) b ih
theorem RpO.shared {v : V} {o : O} (h : RpO G H v o) : o.shared = true := by
  cases h <;> rfl
end

/-- how what slots have lies: nothing; shared; an owned list, dict, instance -/
inductive Gt where
  | un
  | sh (v : V) (o : O)
  | lst (a : Addr) (vs : List V) (ds : List D)
  | dK (a : Addr) (kvs : List (Key × V)) (ds : List (D × D))
  | dT (a : Addr) (xs : List (NestedKey × Addr × V)) (ds : List (D × D))
  | ins (a dx : Addr) (c : Nat) (fs : List (Nat × Gt))

namespace Gt
mutual
def er : Gt → O
  | .un => .un
  | .sh _ o => o
  | .lst _ _ ds => .lst ds
  | .dK _ _ ds => .dct ds
  | .dT _ _ ds => .dct ds
  | .ins _ _ c fs => .ins c (ers fs)
def ers : List (Nat × Gt) → List (Nat × O)
  | [] => []
  | (n, t) :: r => (n, er t) :: ers r
end
def rt : Gt → V
  | .un => .non
  | .sh v _ => v
  | .lst a _ _ => .ref a
  | .dK a _ _ => .ref a
  | .dT a _ _ => .ref a
  | .ins a _ _ _ => .ref a
mutual
def ads : Gt → List Addr
  | .un => []
  | .sh _ _ => []
  | .lst a _ _ => [a]
  | .dK a _ _ => [a]
  | .dT a _ _ => [a]
  | .ins a dx _ fs => a :: dx :: adss fs
def adss : List (Nat × Gt) → List Addr
  | [] => []
  | (_, t) :: r => ads t ++ adss r
end
end Gt
open Gt

section
variable (G : Gx)
mutual
/-- the heap bears the tree -/
inductive OkT (H Hf : Hp) : Gt → Prop
  | un : OkT H Hf .un
  | sh {v : V} {o : O} : RpO G Hf v o → OkT H Hf (.sh v o)
  | lst {a : Addr} {vs : List V} {ds : List D} : H a = some (.lst vs) → Rps G Hf vs ds → OkT H Hf (.lst a vs ds)
  | dK {a : Addr} {kvs : List (Key × V)} {ds : List (D × D)} : H a = some (.dK kvs) → Rpk G Hf (kvs.map fun p => (keyD p.1, p.2)) ds → OkT H Hf (.dK a kvs ds)
  | dT {a : Addr} {xs : List (NestedKey × Addr × V)} {ds : List (D × D)} : H a = some (.ext (dphi G.prog G.w a xs)) → Rpt G Hf xs → Rpk G Hf (xs.map fun p => (p.1.data, p.2.2)) ds → OkT H Hf (.dT a xs ds)
  | ins {a dx : Addr} {c : Nat} {fs : List (Nat × Gt)} : H a = some (.ins (G.ca c) dx (fs.map fun p => (G.fnm p.1, p.2.rt))) → H dx = some (.own a) → COk G c → OkTs H Hf c fs → OkT H Hf (.ins a dx c fs)
inductive OkTs (H Hf : Hp) : Nat → List (Nat × Gt) → Prop
  | nil {c : Nat} : OkTs H Hf c []
  | cons {c n : Nat} {t : Gt} {r : List (Nat × Gt)} : FOk G c n → t ≠ .un → OkT H Hf t → OkTs H Hf c r → OkTs H Hf c ((n, t) :: r)
end
/-- the heap bears the trees, apart from each other and from what is shared -/
structure Ok (H Hf : Hp) (ts : List Gt) : Prop where
  le : Le Hf H
  ok : ∀ t ∈ ts, OkT G H Hf t
  nd : (ts.flatMap ads).Nodup
  ap : ∀ a ∈ ts.flatMap ads, Hf a = none
end

section
variable {G : Gx} {H H' Hf Hf' : Hp} {ts us : List Gt} {t u : Gt}
mutual
theorem OkT.keep (l : Le Hf Hf') : ∀ {t : Gt}, (∀ b ∈ t.ads, H' b = H b) → OkT G H Hf t → OkT G H' Hf' t
  | _, _, .un => .un
  | _, _, .sh a => .sh (a.mono l)
  | _, k, .lst a b => .lst ((k _ (by simp [ads])).trans a) (b.mono l)
  | _, k, .dK a b => .dK ((k _ (by simp [ads])).trans a) (b.mono l)
  | _, k, .dT a b c => .dT ((k _ (by simp [ads])).trans a) (b.mono l) (c.mono l)
  | _, k, .ins a b o c => .ins ((k _ (by simp [ads])).trans a) ((k _ (by simp [ads])).trans b) o (OkTs.keep l (fun x hx => k x (by simp [ads, hx])) c)
theorem OkTs.keep (l : Le Hf Hf') : ∀ {c : Nat} {fs : List (Nat × Gt)}, (∀ b ∈ adss fs, H' b = H b) → OkTs G H Hf c fs → OkTs G H' Hf' c fs
  | _, _, _, .nil => .nil
  | _, _, k, .cons a b c d => .cons a b (OkT.keep l (fun x hx => k x (by simp [adss, hx])) c) (OkTs.keep l (fun x hx => k x (by simp [adss, hx])) d)
end
mutual
/-- an owned address is there -/
theorem OkT.there : ∀ {t : Gt}, OkT G H Hf t → ∀ b ∈ t.ads, H b ≠ none
  | _, .un, b, h => by simp [ads] at h
  | _, .sh _, b, h => by simp [ads] at h
  | _, .lst a _, b, h => by
    simp only [ads, List.mem_cons, List.not_mem_nil, or_false] at h
    rw [h, a]; simp
  | _, .dK a _, b, h => by
    simp only [ads, List.mem_cons, List.not_mem_nil, or_false] at h
    rw [h, a]; simp
  | _, .dT a _ _, b, h => by
    simp only [ads, List.mem_cons, List.not_mem_nil, or_false] at h
    rw [h, a]; simp
  | _, .ins a c _ d, b, h => by
    rw [ads, List.mem_cons, List.mem_cons] at h
    rcases h with e | e | h
    · rw [e, a]; simp
    · rw [e, c]; simp
    · exact d.there b h
theorem OkTs.there : ∀ {c : Nat} {fs : List (Nat × Gt)}, OkTs G H Hf c fs → ∀ b ∈ adss fs, H b ≠ none
  | _, _, .nil, b, h => by simp [adss] at h
  | _, _, .cons _ _ c d, b, h => by
    rw [adss, List.mem_append] at h
    rcases h with h | h
    · exact c.there b h
    · exact d.there b h
end
theorem Ok.there (o : Ok G H Hf ts) : ∀ b ∈ ts.flatMap ads, H b ≠ none := fun b hb => by
  obtain ⟨t, ht, hb⟩ := List.mem_flatMap.mp hb
  exact (o.ok t ht).there b hb
theorem Ok.perm (o : Ok G H Hf ts) (p : us.Perm ts) : Ok G H Hf us :=
  ⟨o.le, fun t ht => o.ok t (p.mem_iff.mp ht), ((p.flatMap_right ads).nodup_iff).mpr o.nd, fun a ha => o.ap a ((p.flatMap_right ads).mem_iff.mp ha)⟩
theorem sub_flat {α β : Type} (f : α → List β) {xs ys : List α} (p : xs.Sublist ys) : (xs.flatMap f).Sublist (ys.flatMap f) := by
  induction p with
  | slnil => exact List.Sublist.refl _
  | cons a _ ih => rw [List.flatMap_cons]; exact ih.trans (List.sublist_append_right _ _)
  | cons_cons a _ ih => rw [List.flatMap_cons, List.flatMap_cons]; exact (List.Sublist.refl _).append ih
theorem Ok.sub (o : Ok G H Hf ts) (p : us.Sublist ts) : Ok G H Hf us :=
  ⟨o.le, fun t ht => o.ok t (p.subset ht), o.nd.sublist (sub_flat ads p), fun a ha => o.ap a ((sub_flat ads p).subset ha)⟩
theorem Ok.drop (o : Ok G H Hf (t :: ts)) : Ok G H Hf ts := o.sub (List.sublist_cons_self _ _)
/-- trees are exchanged, nothing new is owned -/
theorem Ok.less {u : Gt} (o : Ok G H Hf (t :: ts)) (hu : OkT G H Hf u) (ha : u.ads.Sublist t.ads) : Ok G H Hf (u :: ts) := by
  have hs : ((u :: ts).flatMap ads).Sublist ((t :: ts).flatMap ads) := by
    rw [List.flatMap_cons, List.flatMap_cons]
    exact ha.append (List.Sublist.refl _)
  exact ⟨o.le, fun x hx => (List.mem_cons.mp hx).elim (fun e => e ▸ hu) fun h => o.ok x (.tail _ h), o.nd.sublist hs, fun a h => o.ap a (hs.subset h)⟩
/-- a shared value is one more -/
theorem Ok.sh {v : V} {x : O} (o : Ok G H Hf ts) (r : RpO G Hf v x) : Ok G H Hf (.sh v x :: ts) :=
  ⟨o.le, fun t ht => (List.mem_cons.mp ht).elim (fun e => e ▸ .sh r) fun h => o.ok t h, by simpa [ads] using o.nd, fun a ha => o.ap a (by simpa [ads] using ha)⟩
/-- a new object, owned -/
theorem Ok.new {p : Addr} {ob : HO} (o : Ok G H Hf ts) (hp : H p = none) (hu : OkT G (upd H p ob) Hf u) (ha : u.ads = [p]) : Ok G (upd H p ob) Hf (u :: ts) := by
  have hn : p ∉ ts.flatMap ads := fun h => o.there p h hp
  have hf : Hf p = none := by
    cases e : Hf p with
    | none => rfl
    | some x => rw [o.le p x e] at hp; cases hp
  refine ⟨fun a x e => ?_, fun t ht => ?_, ?_, fun a h => ?_⟩
  · rw [upd_ne (fun z => by subst z; rw [hf] at e; cases e)]; exact o.le a x e
  · rcases List.mem_cons.mp ht with rfl | h
    · exact hu
    · refine (o.ok t h).keep (Le.refl _) fun b hb => upd_ne fun z => hn ?_
      subst z
      exact List.mem_flatMap.mpr ⟨t, h, hb⟩
  · rw [List.flatMap_cons, ha]
    exact List.nodup_cons.mpr ⟨hn, o.nd⟩
  · rw [List.flatMap_cons, ha] at h
    rcases List.mem_cons.mp h with rfl | h
    · exact hf
    · exact o.ap a h
/-- a new object, shared -/
theorem Ok.newS {p : Addr} {ob : HO} (o : Ok G H Hf ts) (hp : H p = none) : Le Hf (upd Hf p ob) ∧ Ok G (upd H p ob) (upd Hf p ob) ts := by
  have hn : p ∉ ts.flatMap ads := fun h => o.there p h hp
  have hf : Hf p = none := by
    cases e : Hf p with
    | none => rfl
    | some x => rw [o.le p x e] at hp; cases hp
  have l : Le Hf (upd Hf p ob) := fun a x e => by rw [upd_ne (fun z => by subst z; rw [hf] at e; cases e)]; exact e
  refine ⟨l, fun a x e => ?_, fun t ht => ?_, o.nd, fun a h => ?_⟩
  · by_cases z : a = p
    · subst z; rw [upd_same] at e ⊢; exact e
    · rw [upd_ne z] at e ⊢; exact o.le a x e
  · exact (o.ok t ht).keep l fun b hb => upd_ne fun z => hn (by subst z; exact List.mem_flatMap.mpr ⟨t, ht, hb⟩)
  · rw [upd_ne (fun z => hn (by subst z; exact h))]; exact o.ap a h
/-- a new object that nobody owns -/
theorem Ok.newN {p : Addr} {ob : HO} (o : Ok G H Hf ts) (hp : H p = none) : Ok G (upd H p ob) Hf ts := by
  have hn : p ∉ ts.flatMap ads := fun h => o.there p h hp
  have hf : Hf p = none := by
    cases e : Hf p with
    | none => rfl
    | some x => rw [o.le p x e] at hp; cases hp
  refine ⟨fun a x e => ?_, fun t ht => ?_, o.nd, o.ap⟩
  · rw [upd_ne (fun z => by subst z; rw [hf] at e; cases e)]; exact o.le a x e
  · exact (o.ok t ht).keep (Le.refl _) fun b hb => upd_ne fun z => hn (by subst z; exact List.mem_flatMap.mpr ⟨t, ht, hb⟩)
/-- the object of a tree's top is changed -/
theorem Ok.write {a : Addr} {ob : HO} (o : Ok G H Hf (t :: ts)) (ht : a ∈ t.ads) (hu : OkT G (upd H a ob) Hf u) (ha : u.ads.Sublist t.ads) : Ok G (upd H a ob) Hf (u :: ts) := by
  have hf : Hf a = none := o.ap a (by rw [List.flatMap_cons]; exact List.mem_append_left _ ht)
  have hn : a ∉ ts.flatMap ads := fun h => by
    have := o.nd
    rw [List.flatMap_cons, List.nodup_append] at this
    exact this.2.2 a ht a h rfl
  have hs : ((u :: ts).flatMap ads).Sublist ((t :: ts).flatMap ads) := by
    rw [List.flatMap_cons, List.flatMap_cons]
    exact ha.append (List.Sublist.refl _)
  refine ⟨fun b x e => ?_, fun x hx => ?_, o.nd.sublist hs, fun b h => o.ap b (hs.subset h)⟩
  · rw [upd_ne (fun z => by subst z; rw [hf] at e; cases e)]; exact o.le b x e
  · rcases List.mem_cons.mp hx with rfl | h
    · exact hu
    · exact (o.ok x (.tail _ h)).keep (Le.refl _) fun b hb => upd_ne fun z => hn (by subst z; exact List.mem_flatMap.mpr ⟨x, h, hb⟩)

/-! ### an owned tree becomes shared -/
/-- the shared part with these addresses more -/
def grow (H Hf : Hp) (as : List Addr) : Hp := fun b => if b ∈ as then H b else Hf b
theorem grow_le {as : List Addr} (h : ∀ a ∈ as, Hf a = none) : Le Hf (grow H Hf as) := fun a o e => by
  unfold grow
  rw [if_neg (fun m => by rw [h a m] at e; cases e)]
  exact e
mutual
theorem OkT.fz {Hg : Hp} (l : Le Hf Hg) : ∀ {t : Gt}, t ≠ .un → (∀ b ∈ t.ads, Hg b = H b) → OkT G H Hf t → RpO G Hg t.rt (fz t.er)
  | _, n, _, .un => absurd rfl n
  | .sh v o, _, _, .sh a => by
    have e : Lw.fz o = o := by cases a <;> rfl
    show RpO G Hg v (Lw.fz o)
    rw [e]
    exact a.mono l
  | _, _, k, .lst a b => .dat (.lst (SqL.of ((k _ (by simp [ads])).trans a)) (b.mono l))
  | _, _, k, .dK a b => .dat (.dK ((k _ (by simp [ads])).trans a) (b.mono l))
  | _, _, k, .dT a b c => .dat (.dT ((k _ (by simp [ads])).trans a) (b.mono l) (c.mono l))
  | .ins x dx c fs, _, k, .ins a b co d => by
    obtain ⟨h1, h2, h3, h4⟩ := OkTs.fz l (fun y hy => k y (by simp [ads, hy])) d
    show RpO G Hg (.ref x) (.fin c (fzs (ers fs)))
    refine .fin (dx := dx) (vs := fs.map fun p => p.2.rt) ?_ ((k _ (by simp [ads])).trans b) co h1 h2 h4
    rw [h3, k x (by simp [ads]), a]
theorem OkTs.fz {Hg : Hp} (l : Le Hf Hg) : ∀ {c : Nat} {fs : List (Nat × Gt)}, (∀ b ∈ adss fs, Hg b = H b) → OkTs G H Hf c fs →
    (∀ p ∈ fzs (ers fs), FOk G c p.1) ∧ (fs.map fun p => p.2.rt).length = (fzs (ers fs)).length ∧ (((fzs (ers fs)).map fun p => G.fnm p.1).zip (fs.map fun p => p.2.rt)) = (fs.map fun p => (G.fnm p.1, p.2.rt)) ∧
    (∀ (i : Nat) (p : Nat × O) (v : V), (fzs (ers fs))[i]? = some p → (fs.map fun p => p.2.rt)[i]? = some v → RpO G Hg v p.2)
  | _, [], _, .nil => ⟨(fun _ h => absurd h (by simp [ers, fzs])), rfl, rfl, (fun i p v h => absurd h (by simp [ers, fzs]))⟩
  | _, (n, t) :: r, k, .cons a b c d => by
    have i1 := OkT.fz l b (fun y hy => k y (by simp [adss, hy])) c
    obtain ⟨h1, h2, h3, h4⟩ := OkTs.fz l (fun y hy => k y (by simp [adss, hy])) d
    refine ⟨fun p hp => ?_, ?_, ?_, fun i p v e1 e2 => ?_⟩
    · rw [ers, fzs] at hp
      rcases List.mem_cons.mp hp with rfl | hp
      · exact a
      · exact h1 p hp
    · rw [ers, fzs, List.map_cons, List.length_cons, List.length_cons, h2]
    · rw [ers, fzs, List.map_cons, List.map_cons, List.map_cons, List.zip_cons_cons, h3]
    · rw [ers, fzs] at e1
      cases i with
      | zero =>
        rw [List.getElem?_cons_zero] at e1
        rw [List.map_cons, List.getElem?_cons_zero] at e2
        cases e1; cases e2
        exact i1
      | succ i =>
        rw [List.getElem?_cons_succ] at e1
        rw [List.map_cons, List.getElem?_cons_succ] at e2
        exact h4 i p v e1 e2
end
theorem Ok.freeze (o : Ok G H Hf (t :: ts)) (n : t ≠ .un) : ∃ Hg, Le Hf Hg ∧ Ok G H Hg (.sh t.rt (Lw.fz t.er) :: ts) := by
  have hf : ∀ a ∈ t.ads, Hf a = none := fun a ha => o.ap a (by rw [List.flatMap_cons]; exact List.mem_append_left _ ha)
  have l := grow_le (H := H) hf
  have hd := o.nd
  rw [List.flatMap_cons, List.nodup_append] at hd
  refine ⟨grow H Hf t.ads, l, fun a x e => ?_, fun y hy => ?_, ?_, fun a ha => ?_⟩
  · unfold grow at e
    split at e
    · exact e
    · exact o.le a x e
  · rcases List.mem_cons.mp hy with rfl | h
    · exact .sh ((o.ok t (.head _)).fz l n fun b hb => by unfold grow; rw [if_pos hb])
    · exact (o.ok y (.tail _ h)).keep l fun _ _ => rfl
  · rw [List.flatMap_cons]
    simpa [ads] using hd.2.1
  · have ha : a ∈ ts.flatMap ads := by simpa [List.flatMap_cons, ads] using ha
    unfold grow
    rw [if_neg fun m => hd.2.2 a m a ha rfl]
    exact o.ap a (by rw [List.flatMap_cons]; exact List.mem_append_right _ ha)
end

/-! ### slots -/
/-- the slots' values in the machine -/
def Rel (σ : L2.St) (gs : List Gt) : Prop := σ.length = gs.length ∧ ∀ (i : Nat) (t : Gt), gs[i]? = some t → t ≠ .un → σ[i]? = some (some t.rt)
theorem Rel.set {σ : L2.St} {gs : List Gt} (r : Rel σ gs) (i : Nat) {v : V} {t : Gt} (e : t.rt = v) : Rel (σ.set i (some v)) (gs.set i t) := by
  refine ⟨by simp [r.1], fun j u h n => ?_⟩
  by_cases hj : i = j
  · subst hj
    by_cases hl : i < gs.length
    · rw [List.getElem?_set_self hl] at h
      cases h
      rw [List.getElem?_set_self (by rw [r.1]; exact hl), e]
    · rw [List.getElem?_eq_none (by simpa using hl)] at h; cases h
  · rw [List.getElem?_set_ne hj] at h ⊢
    exact r.2 j u h n
/-- a slot's tree changed, its root as it was -/
theorem Rel.upd {σ : L2.St} {gs : List Gt} (r : Rel σ gs) (i : Nat) {t u : Gt} (h : gs[i]? = some t) (n : t ≠ .un) (e : u.rt = t.rt) : Rel σ (gs.set i u) := by
  refine ⟨by simp [r.1], fun j x hx hn => ?_⟩
  by_cases hj : i = j
  · subst hj
    have hl : i < gs.length := (List.getElem?_eq_some_iff.mp h).1
    rw [List.getElem?_set_self hl] at hx
    cases hx
    rw [e]
    exact r.2 i t h n
  · rw [List.getElem?_set_ne hj] at hx
    exact r.2 j x hx hn
/-- a slot's tree goes -/
theorem Rel.un {σ : L2.St} {gs : List Gt} (r : Rel σ gs) (i : Nat) : Rel σ (gs.set i .un) := by
  refine ⟨by simp [r.1], fun j x hx hn => ?_⟩
  by_cases hj : i = j
  · subst hj
    by_cases hl : i < gs.length
    · rw [List.getElem?_set_self hl] at hx
      cases hx
      exact absurd rfl hn
    · rw [List.getElem?_eq_none (by simpa using hl)] at hx; cases hx
  · rw [List.getElem?_set_ne hj] at hx
    exact r.2 j x hx hn
end Lw

set_option autoImplicit false
set_option linter.all false
set_option Elab.async false
set_option maxRecDepth 100000
set_option maxHeartbeats 1000000
/-! LSnd1: the readings of LCore's expressions as HandS readings; the expressions that call nothing. -/
namespace Lw
open PySem PySem.Spec PyProof.Rows L2
open Gt

/-! ### places of trees -/
def lkT (fs : List (Nat × Gt)) (x : Nat) : Gt := (fs.lookup x).getD .un
def ptT (fs : List (Nat × Gt)) (x : Nat) (t : Gt) : List (Nat × Gt) := match fs with
  | [] => [(x, t)]
  | (y, u) :: r => if y = x then (x, t) :: r else (y, u) :: ptT r x t
theorem er_lk (x : Nat) : ∀ fs : List (Nat × Gt), alook (ers fs) x = (lkT fs x).er
  | [] => rfl
  | (y, t) :: r => by
    have ih := er_lk x r
    unfold alook lkT at *
    rw [ers]
    simp only [List.lookup]
    cases h : x == y with
    | true => rfl
    | false => exact ih
theorem er_pt (x : Nat) (t : Gt) : ∀ fs : List (Nat × Gt), ers (ptT fs x t) = aput (ers fs) x t.er
  | [] => rfl
  | (y, u) :: r => by
    rw [ers, aput, ptT]
    by_cases h : y = x
    · rw [if_pos h, if_pos h]; rfl
    · rw [if_neg h, if_neg h, ers, er_pt x t r]
def getT : Pl → List Gt → Gt
  | .v i, gs => gs.getD i .un
  | .f i x, gs => match gs.getD i .un with
    | .ins _ _ _ fs => lkT fs x
    | _ => .un
def setT : Pl → Gt → List Gt → List Gt
  | .v i, t, gs => gs.set i t
  | .f i x, t, gs => match gs.getD i .un with
    | .ins a dx c fs => gs.set i (.ins a dx c (ptT fs x t))
    | _ => gs
/-- the places are apart -/
def dj : Pl → Pl → Bool
  | .v i, .v j => i != j
  | .v i, .f j _ => i != j
  | .f i _, .v j => i != j
  | .f i x, .f j y => i != j || x != y
/-- nothing has changed but at these places -/
def Same (l : List Pl) (gs gs' : List Gt) : Prop := gs'.length = gs.length ∧ ∀ p, (∀ q ∈ l, dj p q = true) → getT p gs' = getT p gs
theorem Same.refl (l : List Pl) (gs : List Gt) : Same l gs gs := ⟨rfl, fun _ _ => rfl⟩
theorem Same.trans {l m : List Pl} {a b c : List Gt} (h : Same l a b) (k : Same m b c) : Same (l ++ m) a c :=
  ⟨k.1.trans h.1, fun p hp => (k.2 p fun q hq => hp q (List.mem_append_right _ hq)).trans (h.2 p fun q hq => hp q (List.mem_append_left _ hq))⟩
theorem Same.weak {l m : List Pl} {a b : List Gt} (h : Same l a b) (k : ∀ q ∈ l, q ∈ m) : Same m a b := ⟨h.1, fun p hp => h.2 p fun q hq => hp q (k q hq)⟩
theorem Same.nil {a b : List Gt} (h : Same [] a b) : b = a := by
  refine List.ext_getElem? fun i => ?_
  have e : b.getD i .un = a.getD i .un := h.2 (.v i) fun q hq => by cases hq
  by_cases hi : i < a.length
  · have hb : i < b.length := by rw [h.1]; exact hi
    rw [List.getD_eq_getElem?_getD, List.getD_eq_getElem?_getD, List.getElem?_eq_getElem hi, List.getElem?_eq_getElem hb] at e
    rw [List.getElem?_eq_getElem hi, List.getElem?_eq_getElem hb]
    exact congrArg some e
  · rw [List.getElem?_eq_none (Nat.le_of_not_lt hi), List.getElem?_eq_none (by rw [h.1]; exact Nat.le_of_not_lt hi)]

mutual
/-- the places that an expression changes -/
def eff : E → List Pl
  | .tup es => effs es
  | .lst es => effs es
  | .dct es => effs es
  | .bop _ a b => eff a ++ eff b
  | .neg a => eff a
  | .cmp _ a b => eff a ++ eff b
  | .chn _ _ a b c => eff a ++ eff b ++ eff c
  | .isn a => eff a
  | .notn a => eff a
  | .and a b => eff a ++ eff b
  | .or a b => eff a ++ eff b
  | .not a => eff a
  | .ife c a b => eff c ++ eff a ++ eff b
  | .idx a i => eff a ++ eff i
  | .slc a lo hi => eff a ++ eff lo ++ eff hi
  | .rev a => eff a
  | .fld a _ => eff a
  | .call _ es => effs es
  | .new _ es => effs es
  | .meth _ a es => eff a ++ effs es
  | .bi _ es => effs es
  | .isi a _ => eff a
  | .bs _ s => effS s
  | .mt _ a es => eff a ++ effs es
  | .lc _ s _ => effS s
  | .lci _ s _ _ => effS s
  | .dc _ s _ _ => effS s
  | .dci _ s _ _ _ => effS s
  | .mu _ p es => effs es ++ [p]
  | .mex _ p es => effs es ++ [p]
  | .cax _ p es => effs es ++ [p]
  | _ => []
def effs : List E → List Pl
  | [] => []
  | e :: es => eff e ++ effs es
def effS : Src → List Pl
  | .e a => eff a
  | .itr _ es => effs es
end
/-- a, borrowed, stays as it is while b is worked out -/
def sep (a : E) (l : List Pl) : Bool := match plOf a with
  | some p => l.all fun q => dj p q
  | none => true

section
variable (G : Gx) (C : Cf) (W : WX)
/-- an exception's own fields -/
def ExcP (H : Hp) (d : Option Addr) (p : List (Nat × D)) : Prop := match p with
  | [] => True
  | p => ∃ (da : Addr) (vs : List (Str × V)), d = some da ∧ H da = some (.xd vs) ∧ ∀ q ∈ p, ∃ v, vs.lookup (G.fnm q.1) = some v ∧ Rp G H v q.2
/-- what is wanted behind an expression -/
def PostV (r : R O) (l : List Pl) (σ : L2.St) (gs Rm : List Gt) (Hf : Hp) (Q : VK) : Prop := match r with
  | .ok o s => ∀ (H' Hf' : Hp) (t : Gt) (gs' : List Gt), t ≠ .un → Le Hf Hf' → Ok G H' Hf' (t :: (gs' ++ Rm)) → t.er = o → gs'.map er = s → Rel σ gs' → Same l gs gs' → Q t.rt H'
  | .exc c p s => ∀ (d : Option Addr) (H' Hf' : Hp) (gs' : List Gt), Le Hf Hf' → Ok G H' Hf' (gs' ++ Rm) → gs'.map er = s → Rel σ gs' → ExcP G H' d p → W (.ref (G.ca c)) d σ H'
  | .no => False
/-- .. behind one whose value is borrowed -/
def PostB (a : E) (r : R O) (l : List Pl) (σ : L2.St) (gs Rm : List Gt) (Hf : Hp) (Q : VK) : Prop := match r with
  | .ok o s => ∀ (H' Hf' : Hp) (t : Gt) (gs' T : List Gt), t ≠ .un → Le Hf Hf' → Ok G H' Hf' (gs' ++ (T ++ Rm)) → OkT G H' Hf' t → ((T = [t] ∧ (plOf a = none ∨ ∃ v o, t = .sh v o)) ∨ (T = [] ∧ ∃ p, plOf a = some p ∧ getT p gs' = t)) →
      t.er = o → gs'.map er = s → Rel σ gs' → Same l gs gs' → Q t.rt H'
  | .exc c p s => ∀ (d : Option Addr) (H' Hf' : Hp) (gs' : List Gt), Le Hf Hf' → Ok G H' Hf' (gs' ++ Rm) → gs'.map er = s → Rel σ gs' → ExcP G H' d p → W (.ref (G.ca c)) d σ H'
  | .no => False
/-- .. behind arguments, all shared -/
def PostVs (r : R (List O)) (l : List Pl) (σ : L2.St) (gs Rm : List Gt) (Hf : Hp) (Q : List V → Hp → Prop) : Prop := match r with
  | .ok os s => ∀ (H' Hf' : Hp) (vs : List V) (gs' : List Gt), Le Hf Hf' → Ok G H' Hf' (gs' ++ Rm) → Paired (RpO G Hf') vs os → gs'.map er = s → Rel σ gs' → Same l gs gs' → Q vs H'
  | .exc c p s => ∀ (d : Option Addr) (H' Hf' : Hp) (gs' : List Gt), Le Hf Hf' → Ok G H' Hf' (gs' ++ Rm) → gs'.map er = s → Rel σ gs' → ExcP G H' d p → W (.ref (G.ca c)) d σ H'
  | .no => False
def tE (e : E) : TE := fun σ H Q => ∃ gs Rm Hf, Ok G H Hf (gs ++ Rm) ∧ Rel σ gs ∧ PostV G W (ev C e (gs.map er)) (eff e) σ gs Rm Hf Q
def tB (e : E) : TE := fun σ H Q => ∃ gs Rm Hf, Ok G H Hf (gs ++ Rm) ∧ Rel σ gs ∧ PostB G W e (bor e (gs.map er) (ev C e (gs.map er))) (eff e) σ gs Rm Hf Q
def tEs (es : List E) : TA := fun σ H Q => ∃ gs Rm Hf, Ok G H Hf (gs ++ Rm) ∧ Rel σ gs ∧ PostVs G W (evs C es (gs.map er)) (effs es) σ gs Rm Hf Q
/-- as a test -/
def tT (e : E) : TT := fun σ H Q => ∃ gs Rm Hf, Ok G H Hf (gs ++ Rm) ∧ Rel σ gs ∧ PostV G W (ev C e (gs.map er)) (eff e) σ gs Rm Hf fun v H => ∃ b, v = .bl b ∧ Q b H
end

theorem _root_.L2.PE.imp {X : Cx} {e : Expr} {t t' : TE} (h : PE X e t) (m : ∀ σ H Q, t' σ H Q → t σ H Q) : PE X e t' := ⟨fun pins s σ H Q I q => h.run pins s σ H Q I (m σ H Q q)⟩
theorem _root_.L2.PA.imp {X : Cx} {e : List Expr} {t t' : TA} (h : PA X e t) (m : ∀ σ H Q, t' σ H Q → t σ H Q) : PA X e t' := ⟨fun pos pins s σ H Q I q => h.run pos pins s σ H Q I (m σ H Q q)⟩
theorem _root_.L2.PT.imp {X : Cx} {e : Expr} {t t' : TT} (h : PT X e t) (m : ∀ σ H Q, t' σ H Q → t σ H Q) : PT X e t' := ⟨fun pins s σ H Q I q => h.run pins s σ H Q I (m σ H Q q)⟩

section
variable {G : Gx} {C : Cf} {W : WX} {X : Cx} {σ : L2.St} {gs Rm : List Gt} {H Hf H2 Hf2 : Hp} {l : List Pl} {Q : VK}

theorem Ok.tailR {T : List Gt} (o : Ok G H Hf (gs ++ (T ++ Rm))) : Ok G H Hf (gs ++ Rm) := o.sub ((List.Sublist.refl gs).append (List.sublist_append_right T Rm))
theorem mid_perm (t : Gt) (a b : List Gt) : (a ++ (t :: b)).Perm (t :: (a ++ b)) := List.perm_middle
/-- a constant's end -/
theorem post_sh {v : V} {o : O} (ok : Ok G H Hf2 (gs ++ Rm)) (le : Le Hf Hf2) (r : RpO G Hf2 v o) (rel : Rel σ gs) {gs0 : List Gt} (sm : Same l gs0 gs) (h : PostV G W (.ok o (gs.map er)) l σ gs0 Rm Hf Q) : Q v H :=
  h H Hf2 (.sh v o) gs (fun e => by cases e) le (ok.sh r) rfl rfl rel sm

theorem snd_lit {pe : Expr} {v : V} {o : O} {e : E} (hp : PE X pe (tC v)) (he : ∀ s, ev C e s = .ok o s) (r : ∀ H, RpO G H v o) : PE X pe (tE G C W e) := by
  refine hp.imp fun σ H Q ⟨gs, Rm, Hf, ok, rel, h⟩ => ?_
  rw [he] at h
  exact post_sh ok (Le.refl _) (r _) rel (Same.refl _ _) h
theorem snd_non {j pos} : PE X (.Constant .none j pos) (tE G C W .non) := snd_lit pe_non (fun _ => by rw [ev]) fun _ => .dat .non
theorem snd_bl {b j pos} : PE X (.Constant (.bool b) j pos) (tE G C W (.bl b)) := snd_lit pe_bl (fun _ => by rw [ev]) fun _ => .dat (.bl b)
theorem snd_int {i j pos} : PE X (.Constant (.int i) j pos) (tE G C W (.int i)) := snd_lit pe_int (fun _ => by rw [ev]) fun _ => .dat (.int i)
theorem snd_str {x j pos} : PE X (.Constant (.str x) j pos) (tE G C W (.str x)) := snd_lit pe_str (fun _ => by rw [ev]) fun _ => .dat (.str x)

theorem getD_map (gs : List Gt) (i : Nat) : (gs.map er).getD i .un = (gs.getD i .un).er := by
  rw [List.getD_eq_getElem?_getD, List.getD_eq_getElem?_getD, List.getElem?_map]
  cases gs[i]? <;> rfl
theorem getT_f {i x : Nat} {a dx : Addr} {c : Nat} {fs : List (Nat × Gt)} (e : gs.getD i .un = .ins a dx c fs) : getT (.f i x) gs = lkT fs x := by
  show (match gs.getD i .un with | .ins _ _ _ fs => lkT fs x | _ => .un) = _
  rw [e]
theorem getPl_f {i x : Nat} {a dx : Addr} {c : Nat} {fs : List (Nat × Gt)} (e : gs.getD i .un = .ins a dx c fs) : getPl (.f i x) (gs.map er) = (lkT fs x).er := by
  show fldO ((gs.map er).getD i .un) x = _
  rw [getD_map, e]
  exact er_lk x fs
theorem getPl_s {i x : Nat} {v : V} {o : O} (e : gs.getD i .un = .sh v o) : getPl (.f i x) (gs.map er) = fldO o x := by
  show fldO ((gs.map er).getD i .un) x = _
  rw [getD_map, e] <;> rfl
end
end Lw

set_option autoImplicit false
set_option linter.all false
set_option Elab.async false
set_option maxRecDepth 100000
set_option maxHeartbeats 1000000
/-! LSnd2: operators on data, by values. -/
namespace Lw
open PySem PySem.Spec PyProof.Rows L2
open Gt

section
variable {G : Gx} {H Hf H' Hf' : Hp} {v : V} {d : D}
/-- a value's top in H, all below it shared -/
inductive RpT (G : Gx) (H Hf : Hp) : V → D → Prop
  | non : RpT G H Hf .non .none
  | bl (b : Bool) : RpT G H Hf (.bl b) (.bool b)
  | int (i : Int) : RpT G H Hf (.int i) (.int i)
  | str (x : Str) : RpT G H Hf (.str x) (.str x)
  | lst {a : Addr} {vs : List V} {ds : List D} : SqL G.K H a vs → Rps G Hf vs ds → RpT G H Hf (.ref a) (.list ds)
  | tup {a : Addr} {vs : List V} {ds : List D} : SqT G.K Hf a vs → Rps G Hf vs ds → RpT G H Hf (.ref a) (.tuple ds)
  | dK {a : Addr} {kvs : List (Key × V)} {ds : List (D × D)} : H a = some (.dK kvs) → Rpk G Hf (kvs.map fun p => (keyD p.1, p.2)) ds → RpT G H Hf (.ref a) (.dict ds)
  | dW {a : Addr} {kvs : List (Key × V)} {ds : List (D × D)} : wrD G.prog G.w G.K a kvs → Rpk G Hf (kvs.map fun p => (keyD p.1, p.2)) ds → RpT G H Hf (.ref a) (.dict ds)
  | dT {a : Addr} {xs : List (NestedKey × Addr × V)} {ds : List (D × D)} : H a = some (.ext (dphi G.prog G.w a xs)) → Rpt G Hf xs → Rpk G Hf (xs.map fun p => (p.1.data, p.2.2)) ds → RpT G H Hf (.ref a) (.dict ds)
theorem Rp.top (l : Le Hf H) (r : Rp G Hf v d) : RpT G H Hf v d := by
  cases r with
  | non => exact .non
  | bl b => exact .bl b
  | int i => exact .int i
  | str x => exact .str x
  | lst a b => exact .lst (l.sqL a) b
  | tup a b => exact .tup a b
  | dK a b => exact .dK (l _ _ a) b
  | dW a b => exact .dW a b
  | dT a b c => exact .dT (l _ _ a) b c
theorem OkT.top {t : Gt} (l : Le Hf H) (k : OkT G H Hf t) (e : t.er.d? = some d) : RpT G H Hf t.rt d := by
  cases k with
  | un => cases e
  | sh r =>
    cases r with
    | dat r => cases e; exact r.top l
    | fin => cases e
    | tpo => cases e
  | lst a b => cases e; exact .lst (SqL.of a) b
  | dK a b => cases e; exact .dK a b
  | dT a b c => cases e; exact .dT a b c
  | ins => cases e

mutual
theorem Rp.dp (l : Le Hf H) : ∀ {v : V} {d : D}, Rp G Hf v d → d.plain = true → Dp G.K H v d
  | _, _, .non, _ => .non
  | _, _, .bl b, _ => .bl b
  | _, _, .int i, _ => .int i
  | _, _, .str x, _ => .str x
  | _, _, .lst a b, p => .lst (l.sqL a) (Rps.dp l b (by simpa [PyData.plain] using p))
  | _, _, .tup a b, p => .tup (l.sqT a) (Rps.dp l b (by simpa [PyData.plain] using p))
  | _, _, .dK _ _, p => by simp [PyData.plain] at p
  | _, _, .dW _ _, p => by simp [PyData.plain] at p
  | _, _, .dT _ _ _, p => by simp [PyData.plain] at p
theorem Rps.dp (l : Le Hf H) : ∀ {vs : List V} {ds : List D}, Rps G Hf vs ds → PyData.plainAll ds = true → DpAll G.K H vs ds
  | _, _, .nil, _ => .nil
  | _, d :: ds, .cons a b, p => by
    have p : PyData.plain d = true ∧ PyData.plainAll ds = true := by simpa [PyData.plainAll] using p
    exact .cons (Rp.dp l a p.1) (Rps.dp l b p.2)
end
theorem RpT.dp (l : Le Hf H) (r : RpT G H Hf v d) (p : d.plain = true) : Dp G.K H v d := by
  cases r with
  | non => exact .non
  | bl b => exact .bl b
  | int i => exact .int i
  | str x => exact .str x
  | lst a b => exact .lst a (Rps.dp l b (by simpa [PyData.plain] using p))
  | tup a b => exact .tup (l.sqT a) (Rps.dp l b (by simpa [PyData.plain] using p))
  | dK => simp [PyData.plain] at p
  | dW => simp [PyData.plain] at p
  | dT => simp [PyData.plain] at p

/-- what is wanted of a result -/
def PostO (G : Gx) (Hf : Hp) (ts : List Gt) (o : Option O) (Q : VK) : Prop := match o with
  | some o => ∀ (H' Hf' : Hp) (t : Gt), t ≠ .un → Le Hf Hf' → Ok G H' Hf' (t :: ts) → t.er = o → Q t.rt H'
  | none => False
theorem PostO.sh {ts : List Gt} {o : O} {Q : VK} (h : PostO G Hf ts (some o) Q) (ok : Ok G H Hf' ts) (le : Le Hf Hf') (r : RpO G Hf' v o) : Q v H :=
  h H Hf' (.sh v o) (fun e => by cases e) le (ok.sh r) rfl
theorem PostO.lst {ts : List Gt} {Q : VK} {ds : List D} {vs : List V} {p : Addr} (h : PostO G Hf ts (some (.lst ds)) Q) (ok : Ok G H Hf' ts) (le : Le Hf Hf') (hp : H p = none) (r : Rps G Hf' vs ds) : Q (.ref p) (upd H p (.lst vs)) :=
  h _ Hf' (.lst p vs ds) (fun e => by cases e) le (ok.new hp (.lst upd_same r) rfl) rfl
theorem PostO.tup {ts : List Gt} {Q : VK} {ds : List D} {vs : List V} {p : Addr} (h : PostO G Hf ts (some (.dat (.tuple ds))) Q) (ok : Ok G H Hf' ts) (le : Le Hf Hf') (hp : H p = none) (r : Rps G Hf' vs ds) : Q (.ref p) (upd H p (.tup vs)) := by
  obtain ⟨l, ok2⟩ := ok.newS (ob := .tup vs) hp
  exact h _ _ (.sh (.ref p) (.dat (.tuple ds))) (fun e => by cases e) (le.trans l) (ok2.sh (.dat (.tup (SqT.of upd_same) (r.mono l)))) rfl

/-- a two-place operation as the semantics k has it -/
def rK (G : Gx) (k : D → D → Option O) : R2 := fun x y H Q => ∃ (d e : D) (Hf : Hp) (ts : List Gt), Ok G H Hf ts ∧ RpT G H Hf x d ∧ RpT G H Hf y e ∧ PostO G Hf ts (k d e) Q
end


/-! ### list + list, list * int, whatever the list's own object -/
open AutoSeq1 (wpAny_loadPart')
theorem int_rmul_listW (a : Int) (t : Tok) (l : Addr) (items : Array Value) (n : Nat) (dd : Option Addr) (sl : Array (Option Value)) :
    Meets (Builtin.«int.__rmul__» ⟨[.int a t, .ref l], []⟩) (fun _ R s => s.heap.get? l = some { cls := .type "list", dict := dd, data := .seq items n, slots := sl } ∧ R (.ok (.ret Value.notImplemented)) s) :=
  .of_wp fun prog w A R s h => by obtain ⟨hp, g, d, tk, os⟩ := s; obtain ⟨hl, h⟩ := h; wp_walk using wpAny_loadPart' hl; exact ⟨_, rfl, h⟩
theorem list_mulW (l : Addr) (items : Array Value) (n : Nat) (dd : Option Addr) (sl : Array (Option Value)) (x : Int) (u : Tok) (hc0 : ¬(!Builtin.List.listFitsIndex x) = true) (hc1 : ¬items.size * x.toNat > (2 ^ 63 - 1) / 8) (hc2 : ¬Builtin.List.listTooLong (items.size * x.toNat) = true)
    (hsz : (List.foldl (fun x1 x2 => x1 ++ x2) #[] (List.replicate (if items.isEmpty = true then 0 else x.toNat) items)).size ≤ sizeLine) :
    Meets (Builtin.«list.__mul__» ⟨[.ref l, .int x u], []⟩) (fun _ R s => s.heap.get? l = some { cls := .type "list", dict := dd, data := .seq items n, slots := sl } ∧
      R (.ok (.ret (Value.ref s.heap.objs.size))) { s with heap := s.heap.push { cls := Value.type "list", data := Data.seq (List.foldl (fun x1 x2 => x1 ++ x2) #[] (List.replicate (if items.isEmpty = true then 0 else x.toNat) items)) }, toks := s.toks }) :=
  .of_wp fun prog w A R s h => by
    obtain ⟨hp, g, d, tk, os⟩ := s
    obtain ⟨hl, h⟩ := h
    have f1 := AutoSeq1.idx_int
    wp_walk using wpAny_loadPart' hl
    repeat (first
      | (refine wpAny_ite_false (decide_eq_false hc0) ?_; wp_walk using wpAny_loadPart' hl)
      | (refine wpAny_ite_false (decide_eq_false hc1) ?_; wp_walk using wpAny_loadPart' hl)
      | (refine wpAny_ite_false (decide_eq_false hc2) ?_; wp_walk using wpAny_loadPart' hl)
      | (refine wpAny_ite_false (decide_eq_false (Nat.not_lt.mpr hsz)) ?_; wp_walk using wpAny_loadPart' hl))
    exact ⟨_, rfl, h⟩

section
variable {X : Cx}
theorem sqL_obj {pins : List (Addr × Obj)} {s : Shared} {σ : L2.St} {H : Hp} {a : Addr} {xs : List V} (I : Inv X pins σ H s) (h : SqL X.K H a xs) :
    ∃ (its : List Value) (n : Nat) (dd : Option Addr) (sl : Array (Option Value)), Vals xs its ∧ xs.length = its.length ∧ xs.length ≤ sizeLine ∧ s.heap.get? a = some { cls := .type "list", dict := dd, data := .seq its.toArray n, slots := sl } := by
  obtain ⟨its, r, ⟨⟨cls, dd, data, sl⟩, n, e, hc, hd, hs⟩, z⟩ := I.list h
  simp only at hc hd hs
  subst hc hs
  exact ⟨its, n, dd, sl, r, r.length, z, e⟩
def rCatL (K : PySem.W.Frag) : R2 := fun x y H Q => ∃ l b xs zs, x = .ref l ∧ y = .ref b ∧ SqL K H l xs ∧ SqL K H b zs ∧ xs.length + zs.length ≤ sizeLine ∧ ∀ p, H p = none → Q (.ref p) (upd H p (.lst (xs ++ zs)))
theorem op_catL : OpR X (binaryOp .Add) (rCatL X.K) := by
  intro pins s σ H x y v u Q I rx ry h
  obtain ⟨l, b, xs, zs, rfl, rfl, hH, hB, hz, q⟩ := h
  cases rx
  cases ry
  obtain ⟨its, n, dd, sl, r, hl, z, e⟩ := sqL_obj I hH
  obtain ⟨its2, n2, dd2, sl2, r2, hl2, z2, e2⟩ := sqL_obj I hB
  have ea : its.toArray ++ its2.toArray = (its ++ its2).toArray := by simp
  refine concat_meets ⟨_, e, rfl⟩ ⟨_, e2, rfl⟩ noFill_list_add seq_list_add PySem.F.slot_list_add PySem.F.entry_list_add (PySem.F.args_list_add_2 _ _) (list_addW l b its.toArray its2.toArray n n2 dd dd2 sl sl2 (by rw [List.size_toArray, List.size_toArray]; omega)) ⟨e, e2, ?_⟩
  rw [ea]
  exact ⟨.ref _, _, I.lnew (t' := s.toks) (r.append r2) (by rw [List.length_append]; omega), rfl, q _ I.fresh⟩
def rRepL (K : PySem.W.Frag) : R2 := fun x y H Q => ∃ l k xs, x = .ref l ∧ y = .int k ∧ SqL K H l xs ∧ -(2 ^ 63) ≤ k ∧ k < 2 ^ 63 ∧ xs.length * k.toNat ≤ sizeLine ∧
  ∀ p, H p = none → Q (.ref p) (upd H p (.lst (List.replicate k.toNat xs).flatten))
theorem op_repL : OpR X (binaryOp .Mult) (rRepL X.K) := by
  intro pins s σ H x y v u Q I rx ry h
  obtain ⟨l, k, xs, rfl, rfl, hH, h1, h2, hz, q⟩ := h
  cases rx
  obtain ⟨t, rfl⟩ := ry
  obtain ⟨its, n, dd, sl, r, hl, z, e⟩ := sqL_obj I hH
  have hlen : its.toArray.size * k.toNat ≤ sizeLine := by rw [List.size_toArray, ← hl]; exact hz
  have hcap : ¬ its.toArray.size * k.toNat > (2 ^ 63 - 1) / 8 := by
    have : (sizeLine : Nat) ≤ (2 ^ 63 - 1) / 8 := by decide
    omega
  have hfit : ¬ (!Builtin.List.listFitsIndex k) = true := by
    rw [fitsIndex_both h1 h2]
    exact Bool.false_ne_true
  have hlong : ¬ Builtin.List.listTooLong (its.toArray.size * k.toNat) = true := by
    rw [notLongL hlen]
    exact Bool.false_ne_true
  have hnew : List.foldl (fun x1 x2 => x1 ++ x2) #[] (List.replicate (if its.toArray.isEmpty = true then 0 else k.toNat) its.toArray) = (List.replicate k.toNat its).flatten.toArray := by
    have f0 : ∀ m : Nat, List.foldl (fun x1 x2 => x1 ++ x2) #[] (List.replicate m its.toArray) = (List.replicate m its).flatten.toArray := fun m => by
      have := foldl_rep its m []
      rw [List.nil_append] at this
      exact this
    rw [f0]
    cases its with
    | nil => simp
    | cons a r' => rw [if_neg (by simp)]
  have hfl : (List.replicate k.toNat its).flatten.length ≤ sizeLine := by rw [PyProof.Rows.lm_len_rep_flat, Nat.mul_comm, ← hl]; exact hz
  have tl : s.TypeIs (.ref l) "list" := ⟨_, e, rfl⟩
  refine wpAny_binaryOp_repeat_ref (T := "list") (U := "int") (by decide) tl (fun s' => typeIs_int s' k t) noFill_list_mul F.fills_int_mul F.slot_int_rmul repeat_list F.slot_int_index.lookup
    (call_meets F.slot_int_rmul (typeIs_int s k t) F.entry_int_rmul (F.args_int_rmul_2 _ _) (int_rmul_listW k t l its.toArray n dd sl)
      ⟨e, ?_⟩)
  refine ⟨rfl, tl, call_meets F.slot_list_mul tl F.entry_list_mul (F.args_list_mul_2 _ _) (list_mulW l its.toArray n dd sl k t hfit hcap hlong (by rw [hnew, List.size_toArray]; exact hfl)) ⟨e, ?_⟩⟩
  rw [hnew]
  exact ⟨.ref _, _, I.lnew (t' := s.toks) (r.rep k.toNat) (by rw [PyProof.Rows.lm_len_rep_flat, Nat.mul_comm]; exact hz), rfl, q _ I.fresh⟩
end
section
set_option maxHeartbeats 4000000
/-- t * 1: the tuple itself -/
theorem tuple_mul1W (l : Addr) (items : Array Value) (n : Nat) (dd : Option Addr) (sl : Array (Option Value)) (u : Tok) :
    Meets (Builtin.«tuple.__mul__» ⟨[.ref l, .int 1 u], []⟩) (fun _ R s => s.heap.get? l = some { cls := .type "tuple", dict := dd, data := .seq items n, slots := sl } ∧
      R (.ok (.ret (Value.ref l))) s) :=
  .of_wp fun prog w A R s h => by
    obtain ⟨hp, g, d, tk, os⟩ := s
    obtain ⟨hl, h⟩ := h
    have f1 := AutoSeq1.idx_int
    have c1 : (items.isEmpty || (1 : Int) == 1) = true := by rw [Bool.or_comm]; rfl
    wp_walk using wpAny_loadPart' hl
    repeat (first
      | (refine wpAny_ite_false (decide_eq_false (by decide)) ?_; wp_walk using wpAny_loadPart' hl)
      | (refine wpAny_ite_true (decide_eq_true c1) ?_; wp_walk using wpAny_loadPart' hl))
    exact ⟨_, rfl, h⟩
def rRep1 (K : PySem.W.Frag) : R2 := fun x y H Q => ∃ l xs, x = .ref l ∧ y = .int 1 ∧ SqT K H l xs ∧ Q (.ref l) H
theorem op_rep1 {X : Cx} : OpR X (binaryOp .Mult) (rRep1 X.K) := by
  intro pins s σ H x y v u Q I rx ry h
  obtain ⟨l, xs, rfl, rfl, hT, q⟩ := h
  cases rx
  obtain ⟨t, rfl⟩ := ry
  obtain ⟨its, r, ⟨⟨cls, dd, data, sl⟩, ho, hc, n, hd⟩, hs⟩ := I.tuple hT
  simp only at hc hd
  subst hc hd
  refine wpAny_binaryOp_repeat_ref (T := "tuple") (U := "int") (by decide) ⟨_, ho, rfl⟩ (fun s' => typeIs_int s' 1 t) noFill_tuple_mul F.fills_int_mul F.slot_int_rmul repeat_tuple F.slot_int_index.lookup
    (call_meets F.slot_int_rmul (typeIs_int s 1 t) F.entry_int_rmul (F.args_int_rmul_2 _ _) (int_rmul_tuple 1 t l its.toArray n dd sl)
      ⟨ho, rfl, ⟨_, ho, rfl⟩, call_meets F.slot_tuple_mul ⟨_, ho, rfl⟩ F.entry_tuple_mul (F.args_tuple_mul_2 _ _) (tuple_mul1W l its.toArray n dd sl t) ⟨ho, ?_⟩⟩)
  exact ⟨.ref l, H, I, rfl, q⟩
end
end Lw

set_option autoImplicit false
set_option linter.all false
set_option Elab.async false
set_option maxRecDepth 100000
set_option maxHeartbeats 1000000
/-! LSnd3: operators, comparisons, indices, slices of data as HandS rules. -/
namespace Lw
open PySem PySem.Spec PyProof.Rows L2
open Gt

/-- the text's names are the context's -/
structure GX (G : Gx) (X : Cx) : Prop where
  p : X.prog = G.prog
  w : X.w = G.w
  k : X.K = G.K

def Bop.py : Bop → Operator
  | .add => .Add | .sub => .Sub | .mul => .Mult | .fdiv => .FloorDiv | .mod => .Mod | .pow => .Pow
def Cop.py : Cop → CmpOp
  | .eq => .Eq | .ne => .NotEq | .lt => .Lt | .le => .LtE | .gt => .Gt | .ge => .GtE | .mem => .In | .nmem => .NotIn

theorem szOk_le {n : Nat} (h : szOk n = true) : n ≤ sizeLine := of_decide_eq_true h
section
variable {G : Gx} {H Hf Hf' : Hp} {ts : List Gt} {Q : VK} {v : V}
theorem PostO.if {b : Bool} {o : Option O} (h : PostO G Hf ts (if b = true then o else none) Q) : b = true ∧ PostO G Hf ts o Q := by
  cases b with
  | true => exact ⟨rfl, h⟩
  | false => exact h.elim
theorem PostO.if' {p : Prop} [Decidable p] {o : Option O} (h : PostO G Hf ts (if p then o else none) Q) : p ∧ PostO G Hf ts o Q := by
  by_cases hp : p
  · rw [if_pos hp] at h; exact ⟨hp, h⟩
  · rw [if_neg hp] at h; exact h.elim
theorem PostO.dat {d : D} (h : PostO G Hf ts (some (.dat d)) Q) (ok : Ok G H Hf' ts) (le : Le Hf Hf') (r : Rp G Hf' v d) : Q v H := h.sh ok le (.dat r)
theorem Rps.rep {vs : List V} {ds : List D} (r : Rps G Hf vs ds) : ∀ k : Nat, Rps G Hf (List.replicate k vs).flatten (List.replicate k ds).flatten
  | 0 => .nil
  | k + 1 => by
    rw [List.replicate_succ, List.replicate_succ, List.flatten_cons, List.flatten_cons]
    exact r.append (r.rep k)
theorem Rps.nil_iff {vs : List V} {ds : List D} (r : Rps G Hf vs ds) : vs = [] ↔ ds = [] := by
  cases r with
  | nil => exact ⟨fun _ => rfl, fun _ => rfl⟩
  | cons a b => constructor <;> intro h <;> cases h
end

theorem log2_lt {n b : Nat} (h : n < 2 ^ b) : n.log2 ≤ b := by
  by_cases h0 : n = 0
  · subst h0; simp
  · have := (Nat.log2_lt h0).mpr h
    omega

section
variable {G : Gx} {X : Cx} (gx : GX G X)
include gx
theorem op_bop (o : Bop) : OpR X (binaryOp o.py) (rK G (bopD o)) := by
  intro pins s σ H x y v u Q I rx ry ⟨d, e, Hf, ts, ok, r1, r2, p⟩
  have kk := gx.k
  cases r1 <;> cases r2 <;> cases o <;> first | exact p.elim | skip
  case int.int.add i j => exact op_add pins s σ H _ _ v u Q I rx ry ⟨i, j, rfl, rfl, p.dat ok (Le.refl _) (.int _)⟩
  case int.int.sub i j => exact op_sub pins s σ H _ _ v u Q I rx ry ⟨i, j, rfl, rfl, p.dat ok (Le.refl _) (.int _)⟩
  case int.int.mul i j =>
    obtain ⟨hb, p⟩ := PostO.if p
    have q := p.dat ok (Le.refl _) (.int _)
    unfold mulOk at hb
    rw [Bool.or_eq_true, Bool.or_eq_true] at hb
    rcases hb with (hb | hb) | hb
    · exact op_mul pins s σ H _ _ v u Q I rx ry ⟨i, j, rfl, rfl, .inr (by have := of_decide_eq_true hb; omega), q⟩
    · exact op_mul pins s σ H _ _ v u Q I rx ry ⟨i, j, rfl, rfl, .inl (by have := of_decide_eq_true hb; omega), q⟩
    · exact op_mulW pins s σ H _ _ v u Q I rx ry ⟨i, j, rfl, rfl, (by have := of_decide_eq_true hb; unfold CMulW; omega), q⟩
  case int.int.fdiv i j =>
    obtain ⟨hb, p⟩ := PostO.if p
    rw [Bool.and_eq_true] at hb
    exact op_fdiv pins s σ H _ _ v u Q I rx ry ⟨i, j, rfl, rfl, ⟨of_decide_eq_true hb.1, of_decide_eq_true hb.2⟩, p.dat ok (Le.refl _) (.int _)⟩
  case int.int.mod i j =>
    obtain ⟨hb, p⟩ := PostO.if' p
    exact op_mod pins s σ H _ _ v u Q I rx ry ⟨i, j, rfl, rfl, hb, p.dat ok (Le.refl _) (.int _)⟩
  case int.int.pow i j =>
    obtain ⟨hb, p⟩ := PostO.if p
    rw [Bool.and_eq_true, Bool.and_eq_true] at hb
    exact op_pow pins s σ H _ _ v u Q I rx ry ⟨i, j, rfl, rfl, ⟨of_decide_eq_true hb.1.1, of_decide_eq_true hb.1.2, of_decide_eq_true hb.2⟩, p.dat ok (Le.refl _) (.int _)⟩
  case str.str.add i j =>
    obtain ⟨hb, p⟩ := PostO.if p
    exact op_add_str pins s σ H _ _ v u Q I rx ry ⟨i, j, rfl, rfl, szOk_le hb, p.dat ok (Le.refl _) (.str _)⟩
  case lst.lst.add a vs ds h1 g1 b ws es h2 g2 =>
    obtain ⟨hb, p⟩ := PostO.if p
    exact op_catL pins s σ H _ _ v u Q I rx ry ⟨a, b, vs, ws, rfl, rfl, kk ▸ h1, kk ▸ h2, by rw [g1.length, g2.length]; exact szOk_le hb, fun q hq => p.lst ok (Le.refl _) hq (g1.append g2)⟩
  case tup.tup.add a vs ds h1 g1 b ws es h2 g2 =>
    obtain ⟨hb, p⟩ := PostO.if p
    refine op_catA pins s σ H _ _ v u Q I rx ry ⟨a, b, vs, ws, rfl, rfl, kk ▸ ok.le.sqT h1, kk ▸ ok.le.sqT h2, by rw [g1.length, g2.length]; exact szOk_le hb, fun hv => ?_, fun _ hw => ?_, fun _ _ q hq => p.tup ok (Le.refl _) hq (g1.append g2)⟩
    · have e := g1.nil_iff.mp hv
      subst e
      exact p.dat ok (Le.refl _) (.tup h2 g2)
    · have e := g2.nil_iff.mp hw
      subst e
      rw [List.append_nil] at p
      exact p.dat ok (Le.refl _) (.tup h1 g1)
  case lst.int.mul a vs ds h1 g1 k =>
    obtain ⟨hb, p⟩ := PostO.if p
    rw [Bool.and_eq_true, Bool.and_eq_true] at hb
    have b1 := of_decide_eq_true hb.1.1
    have b2 := of_decide_eq_true hb.1.2
    exact op_repL pins s σ H _ _ v u Q I rx ry ⟨a, k, vs, rfl, rfl, kk ▸ h1, by omega, by omega, by rw [g1.length]; exact szOk_le hb.2, fun q hq => p.lst ok (Le.refl _) hq (g1.rep _)⟩
  case tup.int.mul a vs ds h1 g1 k =>
    obtain ⟨hb, p⟩ := PostO.if p
    rw [Bool.and_eq_true, Bool.and_eq_true, Bool.and_eq_true] at hb
    have b1 := of_decide_eq_true hb.1.1.1
    have b2 := of_decide_eq_true hb.1.1.2
    have b3 := of_decide_eq_true hb.1.2
    by_cases hk1 : k = 1
    · subst hk1
      have e1 : (List.replicate (1 : Int).toNat ds).flatten = ds := by
        show (List.replicate 1 ds).flatten = ds
        simp
      rw [e1] at p
      exact op_rep1 pins s σ H _ _ v u Q I rx ry ⟨a, vs, rfl, rfl, kk ▸ ok.le.sqT h1, p.dat ok (Le.refl _) (.tup h1 g1)⟩
    refine op_repT pins s σ H _ _ v u Q I rx ry ⟨a, k, vs, rfl, rfl, kk ▸ ok.le.sqT h1, fun e => ?_, by omega, b2, by rw [g1.length]; exact b3, fun q hq => p.tup ok (Le.refl _) hq (g1.rep _)⟩
    have := g1.nil_iff.mp e
    subst this
    exact absurd hb.2 (by decide)
end

theorem nice_plain {d : D} (h : nice d = true) : d.plain = true := ((Bool.and_eq_true _ _).mp h).1
theorem nice_depth {d : D} (h : nice d = true) : d.depth ≤ 100 := of_decide_eq_true ((Bool.and_eq_true _ _).mp h).2
theorem nice_all : ∀ {ds : List D}, ds.all nice = true → PyData.plainAll ds = true
  | [], _ => rfl
  | d :: ds, h => by
    rw [List.all_cons, Bool.and_eq_true] at h
    show (d.plain && PyData.plainAll ds) = true
    rw [nice_plain h.1, nice_all h.2]; rfl
theorem nice_depthAll : ∀ {ds : List D}, ds.all nice = true → PyData.depthAll ds ≤ 100
  | [], _ => by simp [PyData.depthAll]
  | d :: ds, h => by
    rw [List.all_cons, Bool.and_eq_true] at h
    have := nice_depth h.1
    have := nice_depthAll h.2
    simp only [PyData.depthAll]
    omega
theorem nice_list {ds : List D} (h : ds.all nice = true) : (PyData.list ds).plain = true := by
  show PyData.plainAll ds = true
  exact nice_all h
theorem nice_tuple {ds : List D} (h : ds.all nice = true) : (PyData.tuple ds).plain = true := by
  show PyData.plainAll ds = true
  exact nice_all h

/-- a two-place operation that tells a truth value -/
def rB (G : Gx) (k : D → D → Option Bool) : R2 := fun x y H Q => ∃ (d e : D) (Hf : Hp) (ts : List Gt), Ok G H Hf ts ∧ RpT G H Hf x d ∧ RpT G H Hf y e ∧ ∃ b, k d e = some b ∧ Q (.bl b) H

section
variable {G : Gx} {X : Cx} {pins : List (Addr × Obj)} {s : Shared} {σ : L2.St} {H Hf : Hp} {x y : V} {v u : Value} {d e : D}
theorem RpT.reads (gx : GX G X) (I : Inv X pins σ H s) (l : Le Hf H) (r : RpT G H Hf x d) (rx : RelV x v) (p : d.plain = true) : ∃ as, Reads s.heap v d as :=
  Dp.reads I d x v (gx.k ▸ r.dp l p) rx
theorem ite_some {b : Bool} {α : Type} {o : Option α} {a : α} (h : (if b = true then o else none) = some a) : b = true ∧ o = some a := by
  cases b with
  | true => exact ⟨rfl, h⟩
  | false => cases h
theorem ltD_cases {d e : D} {b : Bool} (h : ltD d e = some b) : (∃ i j, d = .int i ∧ e = .int j ∧ b = decide (i < j)) ∨ (ordD d e = true ∧ nice d = true ∧ nice e = true ∧ b = W.dataLt d e) := by
  unfold ltD at h
  split at h
  · cases h; exact .inl ⟨_, _, rfl, rfl, rfl⟩
  · obtain ⟨c, h⟩ := ite_some h
    rw [Bool.and_eq_true, Bool.and_eq_true] at c
    cases h
    exact .inr ⟨c.1.1, c.1.2, c.2, rfl⟩
theorem leD_cases {d e : D} {b : Bool} (h : leD d e = some b) : (∃ i j, d = .int i ∧ e = .int j ∧ b = decide (i ≤ j)) ∨ (ordD d e = true ∧ nice d = true ∧ nice e = true ∧ b = !W.dataLt e d) := by
  unfold leD at h
  split at h
  · cases h; exact .inl ⟨_, _, rfl, rfl, rfl⟩
  · obtain ⟨c, h⟩ := ite_some h
    rw [Bool.and_eq_true, Bool.and_eq_true] at c
    cases h
    exact .inr ⟨c.1.1, c.1.2, c.2, rfl⟩
theorem ordD_alike {d e : D} (h : ordD d e = true) : W.alike d e = true ∧ d ≠ .none ∧ d.depth ≤ 100 := by
  unfold ordD ordD.alikeB at h
  rw [Bool.and_eq_true, Bool.and_eq_true] at h
  refine ⟨h.1.1, fun e => ?_, of_decide_eq_true h.2⟩
  subst e
  exact absurd h.1.2 (by decide)

variable (gx : GX G X) (hu : X.A.units + 150 < cLine)
include gx hu
theorem cmp_lt {Q : VK} {b : Bool} (I : Inv X pins σ H s) (l : Le Hf H) (r1 : RpT G H Hf x d) (r2 : RpT G H Hf y e) (rx : RelV x v) (ry : RelV y u) (h : ltD d e = some b) (q : Q (.bl b) H) :
    wpAny (model X.prog X.w) X.A (compareOp .Lt v u) (EP X pins σ Q) X.xe s := by
  rcases ltD_cases h with ⟨i, j, rfl, rfl, rfl⟩ | ⟨c, n1, n2, rfl⟩
  · cases r1; cases r2
    exact op_lt pins s σ H _ _ v u Q I rx ry ⟨i, j, rfl, rfl, q⟩
  · obtain ⟨as, q1⟩ := r1.reads gx I l rx (nice_plain n1)
    obtain ⟨bs, q2⟩ := r2.reads gx I l ry (nice_plain n2)
    obtain ⟨a1, a2, a3⟩ := ordD_alike c
    exact W.lt_data q1 q2 a1 a2 (by omega) ⟨.bl _, H, I, rfl, q⟩
theorem cmp_gt {Q : VK} {b : Bool} (I : Inv X pins σ H s) (l : Le Hf H) (r1 : RpT G H Hf x d) (r2 : RpT G H Hf y e) (rx : RelV x v) (ry : RelV y u) (h : ltD e d = some b) (q : Q (.bl b) H) :
    wpAny (model X.prog X.w) X.A (compareOp .Gt v u) (EP X pins σ Q) X.xe s := by
  rcases ltD_cases h with ⟨i, j, rfl, rfl, rfl⟩ | ⟨c, n1, n2, rfl⟩
  · cases r1; cases r2
    exact op_gt pins s σ H _ _ v u Q I rx ry ⟨j, i, rfl, rfl, q⟩
  · obtain ⟨as, q1⟩ := r1.reads gx I l rx (nice_plain n2)
    obtain ⟨bs, q2⟩ := r2.reads gx I l ry (nice_plain n1)
    obtain ⟨a1, a2, a3⟩ := ordD_alike c
    rw [W.alike_comm] at a1
    exact W.gt_data q1 q2 a1 (W.ne_none_both (W.alike_comm _ _ ▸ a1) a2) (by omega) ⟨.bl _, H, I, rfl, q⟩
theorem cmp_le {Q : VK} {b : Bool} (I : Inv X pins σ H s) (l : Le Hf H) (r1 : RpT G H Hf x d) (r2 : RpT G H Hf y e) (rx : RelV x v) (ry : RelV y u) (h : leD d e = some b) (q : Q (.bl b) H) :
    wpAny (model X.prog X.w) X.A (compareOp .LtE v u) (EP X pins σ Q) X.xe s := by
  rcases leD_cases h with ⟨i, j, rfl, rfl, rfl⟩ | ⟨c, n1, n2, rfl⟩
  · cases r1; cases r2
    exact op_le pins s σ H _ _ v u Q I rx ry ⟨i, j, rfl, rfl, q⟩
  · obtain ⟨as, q1⟩ := r1.reads gx I l rx (nice_plain n1)
    obtain ⟨bs, q2⟩ := r2.reads gx I l ry (nice_plain n2)
    obtain ⟨a1, a2, a3⟩ := ordD_alike c
    exact W.le_data q1 q2 a1 a2 (by omega) ⟨.bl _, H, I, rfl, q⟩
theorem cmp_ge {Q : VK} {b : Bool} (I : Inv X pins σ H s) (l : Le Hf H) (r1 : RpT G H Hf x d) (r2 : RpT G H Hf y e) (rx : RelV x v) (ry : RelV y u) (h : leD e d = some b) (q : Q (.bl b) H) :
    wpAny (model X.prog X.w) X.A (compareOp .GtE v u) (EP X pins σ Q) X.xe s := by
  rcases leD_cases h with ⟨i, j, rfl, rfl, rfl⟩ | ⟨c, n1, n2, rfl⟩
  · cases r1; cases r2
    exact op_ge pins s σ H _ _ v u Q I rx ry ⟨j, i, rfl, rfl, q⟩
  · obtain ⟨as, q1⟩ := r1.reads gx I l rx (nice_plain n2)
    obtain ⟨bs, q2⟩ := r2.reads gx I l ry (nice_plain n1)
    obtain ⟨a1, a2, a3⟩ := ordD_alike c
    rw [W.alike_comm] at a1
    exact W.ge_data q1 q2 a1 (W.ne_none_both (W.alike_comm _ _ ▸ a1) a2) (by omega) ⟨.bl _, H, I, rfl, q⟩
theorem cmp_eq {Q : VK} {b : Bool} (I : Inv X pins σ H s) (l : Le Hf H) (r1 : RpT G H Hf x d) (r2 : RpT G H Hf y e) (rx : RelV x v) (ry : RelV y u) (h : cmpD .eq d e = some b) (q : Q (.bl b) H) :
    wpAny (model X.prog X.w) X.A (compareOp .Eq v u) (EP X pins σ Q) X.xe s := by
  have h : (if (nice d && nice e) = true then some (PyData.eqv d e) else none) = some b := by
    unfold cmpD at h
    exact h
  obtain ⟨c, h⟩ := ite_some h
  rw [Bool.and_eq_true] at c
  cases h
  obtain ⟨as, q1⟩ := r1.reads gx I l rx (nice_plain c.1)
  obtain ⟨bs, q2⟩ := r2.reads gx I l ry (nice_plain c.2)
  have := nice_depth c.1
  exact SeqAt.eq_plain q1 q2 (nice_plain c.1) (nice_plain c.2) (by omega) ⟨.bl _, H, I, rfl, q⟩
theorem cmp_ne {Q : VK} {b : Bool} (I : Inv X pins σ H s) (l : Le Hf H) (r1 : RpT G H Hf x d) (r2 : RpT G H Hf y e) (rx : RelV x v) (ry : RelV y u) (h : cmpD .ne d e = some b) (q : Q (.bl b) H) :
    wpAny (model X.prog X.w) X.A (compareOp .NotEq v u) (EP X pins σ Q) X.xe s := by
  have h : (if (nice d && nice e) = true then some (!PyData.eqv d e) else none) = some b := by
    unfold cmpD at h
    exact h
  obtain ⟨c, h⟩ := ite_some h
  rw [Bool.and_eq_true] at c
  cases h
  obtain ⟨as, q1⟩ := r1.reads gx I l rx (nice_plain c.1)
  obtain ⟨bs, q2⟩ := r2.reads gx I l ry (nice_plain c.2)
  have := nice_depth c.1
  exact SeqAt.ne_plain q1 q2 (nice_plain c.1) (nice_plain c.2) (by omega) ⟨.bl _, H, I, rfl, q⟩
end
end Lw

set_option autoImplicit false
set_option linter.all false
set_option Elab.async false
set_option maxRecDepth 100000
set_option maxHeartbeats 1000000
/-! LDict: dicts asked. -/
namespace Lw
open PySem PySem.Spec PyProof.Rows L2
open Gt

theorem eqv_key (a b : Key) : PyData.eqv (keyD a) (keyD b) = decide (a = b) := by
  cases a <;> cases b <;> simp [keyD, PyData.eqv, BEq.beq]
mutual
theorem eqv_nk : ∀ a b : NestedKey, PyData.eqv a.data b.data = NestedKey.beq a b
  | .none, b => by cases b <;> simp [NestedKey.data, PyData.eqv, NestedKey.beq]
  | .num i, b => by cases b <;> simp [NestedKey.data, PyData.eqv, NestedKey.beq, BEq.beq]
  | .text x, b => by cases b <;> simp [NestedKey.data, PyData.eqv, NestedKey.beq, BEq.beq]
  | .tup ks, .none => by simp [NestedKey.data, PyData.eqv, NestedKey.beq]
  | .tup ks, .num _ => by simp [NestedKey.data, PyData.eqv, NestedKey.beq]
  | .tup ks, .text _ => by simp [NestedKey.data, PyData.eqv, NestedKey.beq]
  | .tup ks, .tup js => by
    rw [NestedKey.data, NestedKey.data, PyData.eqv, NestedKey.beq]
    exact eqv_nks ks js
theorem eqv_nks : ∀ a b : List NestedKey, PyData.eqvAll (NestedKey.datas a) (NestedKey.datas b) = NestedKey.beqAll a b
  | [], [] => by simp [NestedKey.datas, PyData.eqvAll, NestedKey.beqAll]
  | [], _ :: _ => by simp [NestedKey.datas, PyData.eqvAll, NestedKey.beqAll]
  | _ :: _, [] => by simp [NestedKey.datas, PyData.eqvAll, NestedKey.beqAll]
  | a :: as, b :: bs => by
    rw [NestedKey.datas, NestedKey.datas, PyData.eqvAll, NestedKey.beqAll, eqv_nk a b, eqv_nks as bs]
end
mutual
theorem nk_depth : ∀ a : NestedKey, a.data.depth = a.depth
  | .none => by simp [NestedKey.data, PyData.depth, NestedKey.depth]
  | .num i => by simp [NestedKey.data, PyData.depth, NestedKey.depth]
  | .text x => by simp [NestedKey.data, PyData.depth, NestedKey.depth]
  | .tup ks => by
    rw [NestedKey.data, PyData.depth, NestedKey.depth, nks_depth ks]
theorem nks_depth : ∀ a : List NestedKey, PyData.depthAll (NestedKey.datas a) = NestedKey.depthAll a
  | [] => by simp [NestedKey.datas, PyData.depthAll, NestedKey.depthAll]
  | a :: as => by rw [NestedKey.datas, PyData.depthAll, NestedKey.depthAll, nk_depth a, nks_depth as]
end

section
variable {G : Gx} {X : Cx} {pins : List (Addr × Obj)} {s : Shared} {σ : L2.St} {H Hf : Hp}
mutual
/-- shared data that may be a key is one -/
theorem Rp.nkey (gx : GX G X) (I : Inv X pins σ H s) (l : Le Hf H) : ∀ {v : V} {d : D} {u : Value}, Rp G Hf v d → keyOk d = true → RelV v u → ∃ k : NestedKey, k.data = d ∧ NestedIs s.heap k u
  | _, _, _, .non, _, r => by cases r; exact ⟨.none, rfl, .none⟩
  | _, _, _, .bl b, k, _ => by cases k
  | _, _, _, .int i, _, r => by
    obtain ⟨t, rfl⟩ := r
    exact ⟨.num i, rfl, .int i t⟩
  | _, _, _, .str x, _, r => by
    obtain ⟨t, rfl⟩ := r
    exact ⟨.text x, rfl, .text x t⟩
  | _, _, _, .lst _ _, k, _ => by cases k
  | _, _, _, .tup a b, k, r => by
    cases r
    obtain ⟨its, r1, ⟨o, e, hc, n, hd⟩, z⟩ := I.tuple (gx.k ▸ l.sqT a)
    obtain ⟨ks, e1, q⟩ := Rps.nkeys gx I l b (by simpa [keyOk] using k) r1
    exact ⟨.tup ks, by rw [NestedKey.data, e1], .tup e hc hd q⟩
  | _, _, _, .dK _ _, k, _ => by cases k
  | _, _, _, .dW _ _, k, _ => by cases k
  | _, _, _, .dT _ _ _, k, _ => by cases k
theorem Rps.nkeys (gx : GX G X) (I : Inv X pins σ H s) (l : Le Hf H) : ∀ {vs : List V} {ds : List D} {us : List Value}, Rps G Hf vs ds → keysOk ds = true → Vals vs us → ∃ ks : List NestedKey, NestedKey.datas ks = ds ∧ NestedAll s.heap ks us
  | _, _, _, .nil, _, r => by cases r; exact ⟨[], rfl, .nil⟩
  | _, _, _, .cons a b, k, r => by
    cases r with
    | cons r1 r2 =>
      rw [keysOk, Bool.and_eq_true] at k
      obtain ⟨x, e, q⟩ := Rp.nkey gx I l a k.1 r1
      obtain ⟨xs, es, qs⟩ := Rps.nkeys gx I l b k.2 r2
      exact ⟨x :: xs, by rw [NestedKey.datas, e, es], .cons q qs⟩
end
end

/-- what a dict asked at a key answers -/
structure DAsk (X : Cx) (s : Shared) (a : Addr) (u : Value) (o : Option Value) : Prop where
  ty : s.TypeIs (.ref a) "dict"
  nod : ∃ ob, s.heap.get? a = some ob ∧ ob.dict = none
  inn : ∀ (E Q : Value → Shared → Prop), (∀ tk, Q (.bool o.isSome) { s with toks := tk }) → wpAny (model X.prog X.w) X.A (compareOp .In u (.ref a)) Q E s
  nin : ∀ (E Q : Value → Shared → Prop), (∀ tk, Q (.bool (!o.isSome)) { s with toks := tk }) → wpAny (model X.prog X.w) X.A (compareOp .NotIn u (.ref a)) Q E s
  get : ∀ (E Q : Value → Shared → Prop) (x : Value), o = some x → (∀ tk, Q x { s with toks := tk }) → wpAny (model X.prog X.w) X.A (getItem (.ref a) u) Q E s
  g1 : ∀ (E Q : Value → Shared → Prop), (∀ tk, Q (o.getD .none) { s with toks := tk }) → wpAny (model X.prog X.w) X.A (call (.builtin "dict.get") [.ref a, u]) Q E s
  g2 : ∀ (E Q : Value → Shared → Prop) (r : Value), (∀ tk, Q (o.getD r) { s with toks := tk }) → wpAny (model X.prog X.w) X.A (call (.builtin "dict.get") [.ref a, u, r]) Q E s
theorem DAsk.of_k {X : Cx} {s : Shared} {a : Addr} {u : Value} {k : Key} {vs : List (Key × Value)} (hd : (a == sysModules) = false) (dd : s.heap.DictOf (mixKind X.prog X.w) a vs) (hk : (mixKind X.prog X.w).is k u = true) : DAsk X s a u (valueAt vs k) where
  ty := dd.typeIs
  nod := let ⟨o, _, _, e, x, _⟩ := dd; ⟨o, e, x.2.1⟩
  inn := fun _ _ h => wpAny_in_of hk hd dd.mapOf (h _)
  nin := fun _ _ h => wpAny_notIn_of hk hd dd.mapOf (h _)
  get := fun _ _ _ e h => wpAny_getItem_of hk dd.mapOf e (h _)
  g1 := fun _ _ h => call_meetsIn PySem.F.slot_dict_get dd.typeIs PySem.F.entry_dict_get (PySem.F.args_dict_get_2 _ _) (meets_dict_get (mixKind X.prog X.w) a hk hd) ⟨_, dd.mapOf, h _⟩
  g2 := fun _ _ r h => call_meetsIn PySem.F.slot_dict_get dd.typeIs PySem.F.entry_dict_get (PySem.F.args_dict_get_3 _ _ _) (meets_dict_get_default (mixKind X.prog X.w) a hk hd r) ⟨_, dd.mapOf, h _⟩
theorem DAsk.of_t {X : Cx} {s : Shared} {a b : Addr} {k : NestedKey} {xs : List (NestedKey × Addr × Value)} (hu : X.A.units + 150 < cLine) (hd : (a == sysModules) = false) (dd : s.heap.DictOfH (nestedKind X.prog X.w) a xs) (hk : (nestedKind X.prog X.w).is s.heap k b) :
    DAsk X s a (.ref b) ((atKey xs k).map (·.2)) := by
  have hr : (nestedKind X.prog X.w).room X.A.in1 := by
    show X.A.units + 1 + 8 < cLine
    omega
  exact {
    ty := dd.typeIs
    nod := let ⟨o, _, _, e, x, _⟩ := dd; ⟨o, e, x.2.1⟩
    inn := fun _ _ h => wpAny_in_heap hr hk hd dd (by rw [← Option.isSome_map (f := (·.2))]; exact h _)
    nin := fun _ _ h => wpAny_notIn_heap hr hk hd dd (by rw [← Option.isSome_map (f := (·.2))]; exact h _)
    get := fun _ _ x e h => by
      obtain ⟨p, hp, rfl⟩ := Option.map_eq_some_iff.mp e
      exact wpAny_getItem_heap hr hk dd hp (h _)
    g1 := fun _ _ h => call_meetsIn PySem.F.slot_dict_get dd.typeIs PySem.F.entry_dict_get (PySem.F.args_dict_get_2 _ _) (meetsH_dict_get (nestedKind X.prog X.w) a b hd) ⟨hr, k, xs, hk, dd, h _⟩
    g2 := fun _ _ r h => call_meetsIn PySem.F.slot_dict_get dd.typeIs PySem.F.entry_dict_get (PySem.F.args_dict_get_3 _ _ _) (meetsH_dict_get_default (nestedKind X.prog X.w) a b hd r) ⟨hr, k, xs, hk, dd, h _⟩ }

/-- a dict's value, on both sides -/
def DV (G : Gx) (Hf : Hp) (x : Option D) (o : Option Value) : Prop := match x, o with
  | some d, some u => ∃ v, RelV v u ∧ Rp G Hf v d
  | none, none => True
  | _, _ => False
section
variable {G : Gx} {X : Cx} {pins : List (Addr × Obj)} {s : Shared} {σ : L2.St} {H Hf : Hp}
theorem DV.k (k : Key) : ∀ {kvs : List (Key × V)} {vs : List (Key × Value)} {ds : List (D × D)}, Rpk G Hf (kvs.map fun p => (keyD p.1, p.2)) ds → KV kvs vs → DV G Hf (dget ds (keyD k)) (valueAt vs k)
  | [], _, _, r, .nil => by cases r; exact True.intro
  | (k1, v1) :: kvs, _, _, r, .cons (b := (k2, u2)) (l₂ := vs) q qs => by
    obtain ⟨q1, q2⟩ := q
    simp only at q1 q2
    subst q1
    rw [List.map_cons] at r
    cases r with
    | cons r1 r2 =>
      have ih := DV.k k r2 qs
      unfold dget valueAt at *
      rw [List.find?_cons, List.find?_cons]
      simp only [eqv_key]
      by_cases h : k1 = k
      · rw [decide_eq_true h]; exact ⟨v1, q2, r1⟩
      · rw [decide_eq_false h]; exact ih
theorem DV.t (k : NestedKey) : ∀ {xs : List (NestedKey × Addr × V)} {us : List (NestedKey × Addr × Value)} {ds : List (D × D)}, Rpk G Hf (xs.map fun p => (p.1.data, p.2.2)) ds →
    Paired (fun (p : NestedKey × Addr × V) (q : NestedKey × Addr × Value) => p.1 = q.1 ∧ p.2.1 = q.2.1 ∧ RelV p.2.2 q.2.2) xs us → DV G Hf (dget ds k.data) ((atKey us k).map (·.2))
  | [], _, _, r, .nil => by cases r; exact True.intro
  | (k1, a1, v1) :: xs, _, _, r, .cons (b := (k2, a2, u2)) (l₂ := us) q qs => by
    obtain ⟨q1, q2, q3⟩ := q
    simp only at q1 q2 q3
    subst q1 q2
    rw [List.map_cons] at r
    cases r with
    | cons r1 r2 =>
      have ih := DV.t k r2 qs
      unfold dget atKey at *
      rw [List.find?_cons, List.find?_cons]
      simp only [eqv_nk, ← NestedKey.decide_eq]
      by_cases h : k1 = k
      · rw [decide_eq_true h]; exact ⟨v1, q3, r1⟩
      · rw [decide_eq_false h]; exact ih
theorem DV.some {x : Option D} {o : Option Value} {d : D} (h : DV G Hf x o) (e : x = some d) : ∃ u v, o = some u ∧ RelV v u ∧ Rp G Hf v d := by
  subst e
  cases o with
  | none => exact h.elim
  | some u => obtain ⟨v, a, b⟩ := h; exact ⟨u, v, rfl, a, b⟩
theorem DV.isSome {x : Option D} {o : Option Value} (h : DV G Hf x o) : o.isSome = x.isSome := by
  cases x <;> cases o <;> first | rfl | exact h.elim

/-- an empty dict is one of either kind -/
theorem empty_t {P : Program} {w : World} {h : Heap} {a : Addr} (d : h.DictOf (mixKind P w) a []) : h.DictOfH (nestedKind P w) a [] := by
  obtain ⟨o, es, ep, e, x, dd, _, ps, _⟩ := d
  refine ⟨o, es, ep, e, x, dd, ?_, (fun _ h => nomatch h), List.nodup_nil⟩
  cases hx : es.toList with
  | nil => rfl
  | cons a b => rw [hx] at ps; cases ps
theorem empty_k {P : Program} {w : World} {h : Heap} {a : Addr} (d : h.DictOfH (nestedKind P w) a []) : h.DictOf (mixKind P w) a [] := by
  obtain ⟨o, es, ep, e, x, dd, hx, _, _⟩ := d
  have h0 : es = #[] := by
    apply Array.toList_inj.mp
    rw [hx]; rfl
  subst h0
  exact ⟨o, #[], ep, e, x, dd, (fun _ h => by simp at h), .nil, List.nodup_nil⟩
mutual
theorem nk_ok : ∀ k : NestedKey, keyOk k.data = true
  | .none => rfl
  | .num _ => rfl
  | .text _ => rfl
  | .tup ks => by rw [NestedKey.data, keyOk]; exact nks_ok ks
theorem nks_ok : ∀ ks : List NestedKey, keysOk (NestedKey.datas ks) = true
  | [] => rfl
  | k :: ks => by rw [NestedKey.datas, keysOk, nk_ok k, nks_ok ks]; rfl
end
theorem nk_inj {a b : NestedKey} (e : a.data = b.data) : a = b := by
  apply NestedKey.eq_of_beq
  rw [← eqv_nk, e, eqv_nk]
  exact NestedKey.beq_self b
theorem Rp.nk (gx : GX G X) (I : Inv X pins σ H s) (l : Le Hf H) {k : NestedKey} {v : V} {u : Value} (r : Rp G Hf v k.data) (ru : RelV v u) : NestedIs s.heap k u := by
  obtain ⟨k', e, h⟩ := r.nkey gx I l (nk_ok k) ru
  rw [← nk_inj e]; exact h
abbrev XU : List (NestedKey × Addr × V) → List (NestedKey × Addr × Value) → Prop := Paired fun (p : NestedKey × Addr × V) (q : NestedKey × Addr × Value) => p.1 = q.1 ∧ p.2.1 = q.2.1 ∧ RelV p.2.2 q.2.2
theorem XU.keys : ∀ {xs : List (NestedKey × Addr × V)} {us : List (NestedKey × Addr × Value)}, XU xs us → us.map (·.1) = xs.map (·.1)
  | _, _, .nil => rfl
  | _, _, .cons h r => by rw [List.map_cons, List.map_cons, XU.keys r, h.1]
theorem XU.is (gx : GX G X) (I : Inv X pins σ H s) (l : Le Hf H) : ∀ {xs : List (NestedKey × Addr × V)} {us : List (NestedKey × Addr × Value)}, XU xs us → Rpt G Hf xs → ∀ x ∈ us, (nestedKind X.prog X.w).is s.heap x.1 x.2.1
  | _, _, .nil, _ => fun _ h => nomatch h
  | _, _, .cons h r, .cons t1 t2 t3 t4 => fun x hx => by
    rcases List.mem_cons.mp hx with rfl | hx
    · obtain ⟨h1, h2, h3⟩ := h
      simp only at h1 h2 h3
      rw [← h1, ← h2]
      exact ⟨t3.nk gx I l rfl, t2⟩
    · exact XU.is gx I l r t4 x hx
/-- the dict with tuples as keys -/
theorem dT_at (gx : GX G X) (I : Inv X pins σ H s) (l : Le Hf H) {a : Addr} {xs : List (NestedKey × Addr × V)} (hH : H a = some (.ext (dphi G.prog G.w a xs))) (rt : Rpt G Hf xs) : xs.length ≤ sizeLine ∧ (a == sysModules) = false ∧ (xs.map (·.1)).Nodup ∧
    ∃ us : List (NestedKey × Addr × Value), XU xs us ∧ s.heap.DictOfH (nestedKind X.prog X.w) a us := by
  obtain ⟨⟨z, hd, nd, us, pr, o, es, ep, e, x, dd, hx⟩, _, _⟩ := I.hok a _ hH
  refine ⟨z, hd, nd, us, pr, o, es, ep, e, x, dd, ?_, XU.is gx I l pr rt, ?_⟩
  · rw [gx.p, gx.w]; exact hx
  · rw [XU.keys pr]; exact nd
theorem scal_key {k : D} {y : V} (r : RpT G H Hf y k) (t : topKey k = true) (n : tupK k = false) : ∃ κ : Key, k = keyD κ ∧ y = kV κ := by
  cases r with
  | int i => exact ⟨.inl i, rfl, rfl⟩
  | str x => exact ⟨.inr x, rfl, rfl⟩
  | tup => cases n
  | _ => cases t
theorem tup_key (gx : GX G X) (I : Inv X pins σ H s) (l : Le Hf H) {k : D} {y : V} {u : Value} (r : RpT G H Hf y k) (ry : RelV y u) (t : topKey k = true) (n : tupK k = true) (dp : k.depth ≤ 8) :
    ∃ (κ : NestedKey) (b : Addr), k = κ.data ∧ y = .ref b ∧ u = .ref b ∧ (nestedKind X.prog X.w).is s.heap κ b := by
  cases r with
  | tup a b =>
    cases ry
    obtain ⟨κ, e, h⟩ := Rp.nkey gx I l (.tup a b) (by rw [keyOk]; exact t) rfl
    exact ⟨κ, _, e.symm, rfl, rfl, h, by rw [← nk_depth, e]; exact dp⟩
  | _ => cases n
theorem kOk_top {ds : List (D × D)} {k : D} (h : kOk ds k = true) : topKey k = true ∧ k.depth ≤ 8 ∧ ∀ p r, ds = p :: r → tupK k = tupK p.1 := by
  unfold kOk at h
  rw [Bool.and_eq_true, Bool.and_eq_true] at h
  refine ⟨h.1.1, of_decide_eq_true h.1.2, fun p r e => ?_⟩
  subst e
  obtain ⟨a, b⟩ := p
  exact beq_iff_eq.mp h.2
theorem Rpk.head_k {kvs : List (Key × V)} {ds : List (D × D)} (r : Rpk G Hf (kvs.map fun p => (keyD p.1, p.2)) ds) : kvs = [] ∧ ds = [] ∨ ∃ p q, ds = p :: q ∧ tupK p.1 = false := by
  cases kvs with
  | nil => cases r; exact .inl ⟨rfl, rfl⟩
  | cons a b =>
    rw [List.map_cons] at r
    cases r
    refine .inr ⟨_, _, rfl, ?_⟩
    obtain ⟨k, v⟩ := a
    cases k <;> rfl
theorem Rpk.head_t {xs : List (NestedKey × Addr × V)} {ds : List (D × D)} (t : Rpt G Hf xs) (r : Rpk G Hf (xs.map fun p => (p.1.data, p.2.2)) ds) : xs = [] ∧ ds = [] ∨ ∃ p q, ds = p :: q ∧ tupK p.1 = true := by
  cases t with
  | nil => cases r; exact .inl ⟨rfl, rfl⟩
  | cons a b c d =>
    rw [List.map_cons] at r
    cases r
    exact .inr ⟨_, _, rfl, a⟩
/-- a written or tracked dict with ints and texts as keys -/
theorem ask_k (gx : GX G X) (hu : X.A.units + 150 < cLine) (I : Inv X pins σ H s) (l : Le Hf H) {a : Addr} {y : V} {u : Value} {kvs : List (Key × V)} {ds : List (D × D)} {k : D} (hd : (a == sysModules) = false) {vs : List (Key × Value)} (rel : KV kvs vs) (dd : s.heap.DictOf (mixKind X.prog X.w) a vs)
    (r : Rpk G Hf (kvs.map fun p => (keyD p.1, p.2)) ds) (rk : RpT G H Hf y k) (ry : RelV y u) (ko : kOk ds k = true) : ∃ o, DAsk X s a u o ∧ DV G Hf (dget ds k) o := by
  obtain ⟨t, dp, hh⟩ := kOk_top ko
  cases n : tupK k with
  | false =>
    obtain ⟨κ, rfl, rfl⟩ := scal_key rk t n
    exact ⟨_, DAsk.of_k hd dd (kV_is ry), DV.k κ r rel⟩
  | true =>
    rcases r.head_k with ⟨rfl, rfl⟩ | ⟨p, q, e, e2⟩
    · cases rel
      obtain ⟨κ, b, rfl, rfl, rfl, hk⟩ := tup_key gx I l rk ry t n dp
      exact ⟨_, DAsk.of_t hu hd (empty_t dd) hk, True.intro⟩
    · rw [hh p q e, e2] at n; cases n
/-- a dict asked -/
theorem RpT.ask (gx : GX G X) (hu : X.A.units + 150 < cLine) (I : Inv X pins σ H s) (l : Le Hf H) {x y : V} {v u : Value} {ds : List (D × D)} {k : D} (r : RpT G H Hf x (.dict ds)) (rx : RelV x v) (rk : RpT G H Hf y k) (ry : RelV y u) (ko : kOk ds k = true) :
    ∃ a o, x = .ref a ∧ v = .ref a ∧ DAsk X s a u o ∧ DV G Hf (dget ds k) o := by
  cases r with
  | dK hH rr =>
    cases rx
    obtain ⟨z, hd, vs, rel, dd⟩ := dk_of I.hok hH
    obtain ⟨o, h1, h2⟩ := ask_k gx hu I l hd rel dd rr rk ry ko
    exact ⟨_, o, rfl, rfl, h1, h2⟩
  | dW w rr =>
    cases rx
    obtain ⟨z, hd, vs, rel, dd⟩ := w
    have dd := dd s.heap (gx.k ▸ I.kIn)
    rw [← gx.p, ← gx.w] at dd
    obtain ⟨o, h1, h2⟩ := ask_k gx hu I l hd rel dd rr rk ry ko
    exact ⟨_, o, rfl, rfl, h1, h2⟩
  | dT hH rt rr =>
    cases rx
    obtain ⟨z, hd, nd, us, pr, dd⟩ := dT_at gx I l hH rt
    obtain ⟨t, dp, hh⟩ := kOk_top ko
    cases n : tupK k with
    | true =>
      obtain ⟨κ, b, rfl, rfl, rfl, hk⟩ := tup_key gx I l rk ry t n dp
      exact ⟨_, _, rfl, rfl, DAsk.of_t hu hd dd hk, DV.t κ rr pr⟩
    | false =>
      rcases Rpk.head_t rt rr with ⟨rfl, rfl⟩ | ⟨p, q, e, e2⟩
      · cases pr
        obtain ⟨κ, rfl, rfl⟩ := scal_key rk t n
        exact ⟨_, _, rfl, rfl, DAsk.of_k hd (empty_k dd) (kV_is ry), True.intro⟩
      · rw [hh p q e, e2] at n; cases n

/-! ### writing -/
theorem dphi_ok {P P' : Program} {w w' : World} {H' : Hp} {h : Heap} {a : Addr} {xs : List (NestedKey × Addr × V)} (d : dphi P w a xs h) : ObjOk P' w' H' h a (.ext (dphi P w a xs)) := by
  refine ⟨d, ?_, fun h1 h2 x k => ?_⟩
  · obtain ⟨_, _, _, us, pr, o, es, ep, e, _⟩ := d
    exact ⟨o, e⟩
  · obtain ⟨z, hd, nd, us, pr, o, es, ep, e, r⟩ := x
    exact ⟨z, hd, nd, us, pr, o, es, ep, k o e, r⟩
theorem dget_k (k : Key) : ∀ {kvs : List (Key × V)} {ds : List (D × D)}, Rpk G Hf (kvs.map fun p => (keyD p.1, p.2)) ds → (dget ds (keyD k)).isSome = (valV kvs k).isSome
  | [], _, r => by cases r; rfl
  | (k1, v1) :: kvs, _, r => by
    rw [List.map_cons] at r
    cases r with
    | cons r1 r2 =>
      have ih := dget_k k r2
      unfold dget valV at *
      rw [List.find?_cons, List.find?_cons]
      simp only [eqv_key]
      by_cases h : k1 = k
      · rw [decide_eq_true h]; rfl
      · rw [decide_eq_false h]; exact ih
theorem dget_t (k : NestedKey) : ∀ {xs : List (NestedKey × Addr × V)} {us : List (NestedKey × Addr × Value)} {ds : List (D × D)}, Rpk G Hf (xs.map fun p => (p.1.data, p.2.2)) ds → XU xs us → (dget ds k.data).isSome = (atKey us k).isSome := fun r p => by
  have := (DV.t k r p).isSome
  rw [Option.isSome_map] at this
  exact this.symm
theorem Rpk.snoc {k : D} {v : V} {d : D} (rv : Rp G Hf v d) : ∀ {ks : List (D × V)} {ds : List (D × D)}, Rpk G Hf ks ds → Rpk G Hf (ks ++ [(k, v)]) (ds ++ [(k, d)])
  | _, _, .nil => .cons rv .nil
  | _, _, .cons a b => .cons a (Rpk.snoc rv b)
theorem Rpk.repl_k (k : Key) {v : V} {d : D} (rv : Rp G Hf v d) : ∀ {kvs : List (Key × V)} {ds : List (D × D)}, Rpk G Hf (kvs.map fun p => (keyD p.1, p.2)) ds →
    Rpk G Hf ((kvs.map fun kv => if kv.1 = k then (kv.1, v) else kv).map fun p => (keyD p.1, p.2)) (ds.map fun p => if PyData.eqv p.1 (keyD k) then (p.1, d) else p)
  | [], _, r => by cases r; exact .nil
  | (k1, v1) :: kvs, _, r => by
    rw [List.map_cons] at r
    cases r with
    | cons r1 r2 =>
      rw [List.map_cons, List.map_cons, List.map_cons]
      simp only [eqv_key]
      by_cases h : k1 = k
      · rw [if_pos h, decide_eq_true h]; exact .cons rv (Rpk.repl_k k rv r2)
      · rw [if_neg h, decide_eq_false h]; exact .cons r1 (Rpk.repl_k k rv r2)
theorem Rpk.put_k (k : Key) {v : V} {d : D} (rv : Rp G Hf v d) {kvs : List (Key × V)} {ds : List (D × D)} (r : Rpk G Hf (kvs.map fun p => (keyD p.1, p.2)) ds) :
    Rpk G Hf ((putK kvs k v).map fun p => (keyD p.1, p.2)) (dput ds (keyD k) d) := by
  unfold putK dput dhas
  rw [valV_any, dget_k k r]
  cases (valV kvs k).isSome with
  | true => exact Rpk.repl_k k rv r
  | false =>
    show Rpk G Hf ((kvs ++ [(k, v)]).map _) _
    rw [List.map_append]
    exact r.snoc rv
/-- a dict with tuples as keys: one entry put -/
def putX (xs : List (NestedKey × Addr × V)) (k : NestedKey) (b : Addr) (v : V) : List (NestedKey × Addr × V) :=
  if (xs.any fun x => decide (x.1 = k)) = true then xs.map fun x => if x.1 = k then (x.1, x.2.1, v) else x else xs ++ [(k, b, v)]
theorem any_atKey (k : NestedKey) : ∀ {xs : List (NestedKey × Addr × V)} {us : List (NestedKey × Addr × Value)}, XU xs us → (xs.any fun x => decide (x.1 = k)) = (atKey us k).isSome
  | _, _, .nil => rfl
  | _, _, .cons (a := x) (b := y) h r => by
    have ih := any_atKey k r
    unfold atKey at *
    rw [List.any_cons, List.find?_cons, h.1]
    by_cases e : y.1 = k
    · rw [decide_eq_true e]; rfl
    · rw [decide_eq_false e, Bool.false_or]; exact ih
theorem XU.put (k : NestedKey) (b : Addr) {v : V} {u : Value} (ru : RelV v u) {xs : List (NestedKey × Addr × V)} {us : List (NestedKey × Addr × Value)} (p : XU xs us) : XU (putX xs k b v) (storedH us k b u) := by
  unfold putX storedH
  rw [any_atKey k p]
  cases (atKey us k).isSome with
  | true =>
    show XU (xs.map _) (us.map _)
    clear b
    induction p with
    | nil => exact .nil
    | @cons x y xs us h _ ih =>
      rw [List.map_cons, List.map_cons]
      refine .cons ?_ ih
      unfold putAt
      rw [← h.1]
      by_cases e : x.1 = k
      · rw [if_pos e, if_pos e]; exact ⟨rfl, h.2.1, ru⟩
      · rw [if_neg e, if_neg e]; exact h
  | false =>
    show XU (xs ++ _) (us ++ _)
    induction p with
    | nil => exact .cons ⟨rfl, rfl, ru⟩ .nil
    | cons h _ ih => exact .cons h ih
theorem putX_keys (k : NestedKey) (b : Addr) (v : V) {xs : List (NestedKey × Addr × V)} : (putX xs k b v).map (·.1) = if (xs.any fun x => decide (x.1 = k)) = true then xs.map (·.1) else xs.map (·.1) ++ [k] := by
  unfold putX
  split
  · rw [List.map_map]
    refine List.map_congr_left fun x _ => ?_
    show (if x.1 = k then (x.1, x.2.1, v) else x).1 = x.1
    split <;> rfl
  · rw [List.map_append]; rfl
theorem putX_nd (k : NestedKey) (b : Addr) (v : V) {xs : List (NestedKey × Addr × V)} (nd : (xs.map (·.1)).Nodup) : ((putX xs k b v).map (·.1)).Nodup := by
  rw [putX_keys]
  split
  · exact nd
  · rename_i h
    refine List.nodup_append.mpr ⟨nd, List.nodup_cons.mpr ⟨(fun h => nomatch h), List.nodup_nil⟩, fun a ha c hc => ?_⟩
    rw [List.mem_singleton] at hc
    subst hc
    rintro rfl
    refine h ?_
    obtain ⟨x, hx, e⟩ := List.mem_map.mp ha
    exact List.any_eq_true.mpr ⟨x, hx, decide_eq_true e⟩
theorem putX_len (k : NestedKey) (b : Addr) (v : V) {xs : List (NestedKey × Addr × V)} : (putX xs k b v).length ≤ xs.length + 1 := by
  unfold putX
  split
  · rw [List.length_map]; omega
  · rw [List.length_append]; exact Nat.le_refl _
theorem Rpt.put (k : NestedKey) (b : Addr) (v : V) (t : tupK k.data = true) (d : k.depth ≤ 8) (r : Rp G Hf (.ref b) k.data) {xs : List (NestedKey × Addr × V)} (rt : Rpt G Hf xs) : Rpt G Hf (putX xs k b v) := by
  unfold putX
  split
  · clear r
    rename_i h
    clear h
    induction xs with
    | nil => exact .nil
    | cons x xs ih =>
      obtain ⟨k1, a1, v1⟩ := x
      cases rt with
      | cons h1 h2 h3 h4 =>
        rw [List.map_cons]
        by_cases e : k1 = k
        · rw [if_pos e]; exact .cons h1 h2 h3 (ih h4)
        · rw [if_neg e]; exact .cons h1 h2 h3 (ih h4)
  · rename_i h
    clear h
    induction xs with
    | nil => exact .cons t d r .nil
    | cons x xs ih =>
      cases rt with
      | cons h1 h2 h3 h4 => exact .cons h1 h2 h3 (ih h4)
theorem Rpk.put_t (k : NestedKey) (b : Addr) {v : V} {d : D} (rv : Rp G Hf v d) {xs : List (NestedKey × Addr × V)} {us : List (NestedKey × Addr × Value)} (p : XU xs us) {ds : List (D × D)} (r : Rpk G Hf (xs.map fun p => (p.1.data, p.2.2)) ds) :
    Rpk G Hf ((putX xs k b v).map fun p => (p.1.data, p.2.2)) (dput ds k.data d) := by
  unfold putX dput dhas
  rw [any_atKey k p, dget_t k r p]
  cases (atKey us k).isSome with
  | true =>
    show Rpk G Hf ((xs.map _).map _) (ds.map _)
    clear p
    induction xs generalizing ds with
    | nil => cases r; exact .nil
    | cons x xs ih =>
      obtain ⟨k1, a1, v1⟩ := x
      rw [List.map_cons] at r
      cases r with
      | cons r1 r2 =>
        rw [List.map_cons, List.map_cons, List.map_cons]
        simp only [eqv_nk, ← NestedKey.decide_eq]
        by_cases h : k1 = k
        · rw [if_pos h, decide_eq_true h]; exact .cons rv (ih r2)
        · rw [if_neg h, decide_eq_false h]; exact .cons r1 (ih r2)
  | false =>
    show Rpk G Hf ((xs ++ [(k, b, v)]).map _) _
    rw [List.map_append]
    exact r.snoc rv
theorem Rpk.length : ∀ {ks : List (D × V)} {ds : List (D × D)}, Rpk G Hf ks ds → ks.length = ds.length
  | _, _, .nil => rfl
  | _, _, .cons _ b => by rw [List.length_cons, List.length_cons, b.length]
theorem dputO_some {ds ds' : List (D × D)} {k d : D} (h : dputO ds k d = some ds') : kOk ds k = true ∧ ds.length < sizeLine ∧ ds' = dput ds k d := by
  unfold dputO at h
  obtain ⟨c, h⟩ := ite_some h
  rw [Bool.and_eq_true] at c
  cases h
  exact ⟨c.1, by have := szOk_le c.2; omega, rfl⟩
/-- d[k] = v, d owned -/
theorem d_put (gx : GX G X) (hu : X.A.units + 150 < cLine) {t : Gt} {ds ds' : List (D × D)} {k d : D} {y z : V} {u r : Value} (I : Inv X pins σ H s) (l : Le Hf H) (kt : OkT G H Hf t) (et : t.er = .dct ds) (rk : Rp G Hf y k) (ry : RelV y u) (rv : Rp G Hf z d) (rz : RelV z r)
    (e : dputO ds k d = some ds') {E : Value → Shared → Prop} {Q : Unit → Shared → Prop} (h : ∀ a s' ob t', Inv X pins σ (upd H a ob) s' → OkT G (upd H a ob) Hf t' → t.ads = [a] → t'.ads = [a] → t'.rt = .ref a → t'.er = .dct ds' → Q () s') :
    ∃ a, t.rt = .ref a ∧ wpAny (model X.prog X.w) X.A (setItem (.ref a) u r) Q E s := by
  obtain ⟨ko, hz, rfl⟩ := dputO_some e
  obtain ⟨tp, dp, hh⟩ := kOk_top ko
  have hr : (nestedKind X.prog X.w).room X.A.in1 := by
    show X.A.units + 1 + 8 < cLine
    omega
  cases t with
  | un => cases et
  | sh v o =>
    cases o with
    | dct => exact absurd kt (fun q => by cases q with | sh q => cases q)
    | _ => cases et
  | lst => cases et
  | ins => cases et
  | dK a kvs ds0 =>
    cases et
    obtain ⟨hH, rr⟩ : H a = some (.dK kvs) ∧ Rpk G Hf (kvs.map fun p => (keyD p.1, p.2)) ds := by
      cases kt with
      | dK a b => exact ⟨a, b⟩
    have lk : kvs.length = ds.length := by have := rr.length; rw [List.length_map] at this; exact this
    refine ⟨a, rfl, ?_⟩
    cases n : tupK k with
    | false =>
      obtain ⟨κ, rfl, rfl⟩ := scal_key (rk.top l) tp n
      refine d_setItem (by omega) I (DPut.k (k := κ) (v := z) hH (by omega)) ry rz fun s' I' => h a s' _ (.dK a (putK kvs κ z) (dput ds (keyD κ) d)) I' (.dK upd_same (rr.put_k κ rv)) rfl rfl rfl rfl
    | true =>
      rcases rr.head_k with ⟨rfl, rfl⟩ | ⟨p, q, e, e2⟩
      · obtain ⟨κ, b, rfl, rfl, rfl, hk⟩ := tup_key gx I l (rk.top l) ry tp n dp
        obtain ⟨z0, hd, vs, rel, dd⟩ := dk_of I.hok hH
        cases rel
        refine wpAny_setItem_heap (xs := []) (hsz := Nat.zero_le _) hr hk (empty_t dd) fun h' dd' hs => h a _ (.ext (dphi G.prog G.w a [(κ, b, z)])) (.dT a [(κ, b, z)] [(κ.data, d)]) ?_ ?_ rfl rfl rfl rfl
        · obtain ⟨q, es, ep, hq, h2, h3, h4, _, h5⟩ := dd'
          refine d_write I (by rw [hH]; exact True.intro) hs ⟨q, hq⟩ (dphi_ok ⟨(by show 1 ≤ sizeLine; decide), hd, List.nodup_cons.mpr ⟨(fun h => nomatch h), List.nodup_nil⟩, [(κ, b, r)], .cons ⟨rfl, rfl, rz⟩ .nil, q, es, ep, hq, h2, h3, ?_⟩)
          rw [gx.p, gx.w] at h4
          exact h4
        · exact .dT upd_same (.cons n hk.2 rk .nil) (.cons rv .nil)
      · rw [hh p q e, e2] at n; cases n
  | dT a xs ds0 =>
    cases et
    obtain ⟨hH, rt, rr⟩ : H a = some (.ext (dphi G.prog G.w a xs)) ∧ Rpt G Hf xs ∧ Rpk G Hf (xs.map fun p => (p.1.data, p.2.2)) ds := by
      cases kt with
      | dT a b c => exact ⟨a, b, c⟩
    have lk : xs.length = ds.length := by have := rr.length; rw [List.length_map] at this; exact this
    obtain ⟨z0, hd, nd, us, pr, dd⟩ := dT_at gx I l hH rt
    refine ⟨a, rfl, ?_⟩
    cases n : tupK k with
    | true =>
      obtain ⟨κ, b, rfl, rfl, rfl, hk⟩ := tup_key gx I l (rk.top l) ry tp n dp
      refine wpAny_setItem_heap (xs := us) (hsz := by rw [← Paired.length pr]; exact z0) hr hk dd fun h' dd' hs => h a _ (.ext (dphi G.prog G.w a (putX xs κ b z))) (.dT a (putX xs κ b z) (dput ds κ.data d)) ?_ ?_ rfl rfl rfl rfl
      · obtain ⟨q, es, ep, hq, h2, h3, h4, _, h5⟩ := dd'
        refine d_write I (by rw [hH]; exact True.intro) hs ⟨q, hq⟩ (dphi_ok ⟨by have := putX_len κ b z (xs := xs); omega, hd, putX_nd κ b z nd, storedH us κ b r, XU.put κ b rz pr, q, es, ep, hq, h2, h3, ?_⟩)
        rw [gx.p, gx.w] at h4
        exact h4
      · exact .dT upd_same (rt.put κ b z n hk.2 rk) (rr.put_t κ b rv pr)
    | false =>
      rcases Rpk.head_t rt rr with ⟨rfl, rfl⟩ | ⟨p, q, e, e2⟩
      · cases pr
        obtain ⟨κ, rfl, rfl⟩ := scal_key (rk.top l) tp n
        refine wpAny_setItem_pairs (kvs := []) (hsz := Nat.zero_le _) (kV_is ry) (empty_k dd) fun h' dd' hs => h a _ (.dK [(κ, z)]) (.dK a [(κ, z)] [(keyD κ, d)]) ?_ ?_ rfl rfl rfl rfl
        · have he : ∃ q, h'.get? a = some q := let ⟨q, _, _, hq, _⟩ := dd'; ⟨q, hq⟩
          exact d_write I (by rw [hH]; exact True.intro) hs he (dk_new (by show 1 ≤ sizeLine; decide) hd (.cons ⟨rfl, rz⟩ .nil) dd')
        · exact .dK upd_same (.cons rv .nil)
      · rw [hh p q e, e2] at n; cases n
end
end Lw

set_option autoImplicit false
set_option linter.all false
set_option Elab.async false
set_option maxRecDepth 100000
set_option maxHeartbeats 1000000
/-! LSnd4: comparisons, subscripts, slices, built-in functions of data, as HandS rules on values. -/
namespace Lw
open PySem PySem.Spec PyProof.Rows L2
open Gt

section
variable {G : Gx} {X : Cx} (gx : GX G X) (hu : X.A.units + 150 < cLine)
include gx hu
theorem op_cmp (c : Cop) : OpR X (compareOp c.py) (rB G (cmpD c)) := by
  intro pins s σ H x y v u Q I rx ry ⟨d, e, Hf, ts, ok, r1, r2, b, h, q⟩
  have l := ok.le
  cases c with
  | eq => exact cmp_eq gx hu I l r1 r2 rx ry h q
  | ne => exact cmp_ne gx hu I l r1 r2 rx ry h q
  | lt => exact cmp_lt gx hu I l r1 r2 rx ry (by unfold cmpD at h; exact h) q
  | gt => exact cmp_gt gx hu I l r1 r2 rx ry (by unfold cmpD at h; exact h) q
  | le => exact cmp_le gx hu I l r1 r2 rx ry (by unfold cmpD at h; exact h) q
  | ge => exact cmp_ge gx hu I l r1 r2 rx ry (by unfold cmpD at h; exact h) q
  | mem =>
    cases e with
    | list ys =>
      have h : (if (nice d && ys.all nice) = true then some (memD d ys) else none) = some b := by cases d <;> exact h
      obtain ⟨c, h⟩ := ite_some h
      rw [Bool.and_eq_true] at c
      cases h
      obtain ⟨as, q1⟩ := r1.reads gx I l rx (nice_plain c.1)
      obtain ⟨bs, q2⟩ := r2.reads gx I l ry (nice_list c.2)
      have := nice_depth c.1
      exact SeqAt.in_list_data q2 q1 (nice_all c.2) (nice_plain c.1) (by omega) ⟨.bl _, H, I, rfl, q⟩
    | tuple ys =>
      have h : (if (nice d && ys.all nice) = true then some (memD d ys) else none) = some b := by cases d <;> exact h
      obtain ⟨c, h⟩ := ite_some h
      rw [Bool.and_eq_true] at c
      cases h
      obtain ⟨as, q1⟩ := r1.reads gx I l rx (nice_plain c.1)
      obtain ⟨bs, q2⟩ := r2.reads gx I l ry (nice_tuple c.2)
      have := nice_depth c.1
      exact SeqAt.in_tuple_data q2 q1 (nice_all c.2) (nice_plain c.1) (by omega) ⟨.bl _, H, I, rfl, q⟩
    | dict kvs =>
      have h : (if kOk kvs d = true then some (dhas kvs d) else none) = some b := by cases d <;> exact h
      obtain ⟨c, h⟩ := ite_some h
      cases h
      obtain ⟨a, o, rfl, rfl, da, dv⟩ := r2.ask gx hu I l ry r1 rx c
      refine da.inn _ _ fun tk => ⟨.bl _, H, I.tok tk, rfl, ?_⟩
      rw [dv.isSome]; exact q
    | str z =>
      cases d with
      | str w =>
        have h : (match w.cps.toList with | [c] => some (decide (c ∈ z.cps.toList)) | _ => none) = some b := h
        cases r1; cases r2
        split at h
        · rename_i k hk
          cases h
          refine op_in_str pins s σ H _ _ v u Q I rx ry ⟨w, z, rfl, rfl, ?_⟩
          have ew : w = ⟨#[k]⟩ := by
            obtain ⟨w⟩ := w
            simp only at hk
            rw [← Array.toList_inj.mp (show w.toList = #[k].toList from hk)]
          subst ew
          rw [PySem.StrLaws.found_one]
          exact q
        · cases h
      | _ => cases h
    | _ => cases d <;> cases h
  | nmem =>
    cases e with
    | list ys =>
      have h : (if (nice d && ys.all nice) = true then some (!memD d ys) else none) = some b := by cases d <;> exact h
      obtain ⟨c, h⟩ := ite_some h
      rw [Bool.and_eq_true] at c
      cases h
      obtain ⟨as, q1⟩ := r1.reads gx I l rx (nice_plain c.1)
      obtain ⟨bs, q2⟩ := r2.reads gx I l ry (nice_list c.2)
      have := nice_depth c.1
      exact SeqAt.notIn_list_data q2 q1 (nice_all c.2) (nice_plain c.1) (by omega) ⟨.bl _, H, I, rfl, q⟩
    | tuple ys =>
      have h : (if (nice d && ys.all nice) = true then some (!memD d ys) else none) = some b := by cases d <;> exact h
      obtain ⟨c, h⟩ := ite_some h
      rw [Bool.and_eq_true] at c
      cases h
      obtain ⟨as, q1⟩ := r1.reads gx I l rx (nice_plain c.1)
      obtain ⟨bs, q2⟩ := r2.reads gx I l ry (nice_tuple c.2)
      have := nice_depth c.1
      exact SeqAt.notIn_tuple_data q2 q1 (nice_all c.2) (nice_plain c.1) (by omega) ⟨.bl _, H, I, rfl, q⟩
    | dict kvs =>
      have h : (if kOk kvs d = true then some (!dhas kvs d) else none) = some b := by cases d <;> exact h
      obtain ⟨c, h⟩ := ite_some h
      cases h
      obtain ⟨a, o, rfl, rfl, da, dv⟩ := r2.ask gx hu I l ry r1 rx c
      refine da.nin _ _ fun tk => ⟨.bl _, H, I.tok tk, rfl, ?_⟩
      rw [dv.isSome]; exact q
    | str z =>
      cases d with
      | str w =>
        have h : (match w.cps.toList with | [c] => some (!decide (c ∈ z.cps.toList)) | _ => none) = some b := h
        cases r1; cases r2
        split at h
        · rename_i k hk
          cases h
          refine op_notIn_str pins s σ H _ _ v u Q I rx ry ⟨w, z, rfl, rfl, ?_⟩
          have ew : w = ⟨#[k]⟩ := by
            obtain ⟨w⟩ := w
            simp only at hk
            rw [← Array.toList_inj.mp (show w.toList = #[k].toList from hk)]
          subst ew
          rw [PySem.StrLaws.found_one]
          exact q
        · cases h
      | _ => cases h
    | _ => cases d <;> cases h
end

section
variable {G : Gx} {X : Cx} (gx : GX G X)
include gx
theorem atI_rps {H : Hp} {vs : List V} {ds : List D} {i : Int} {d : D} (r : Rps G H vs ds) (h : ((ixN ds.length i).bind fun j => ds[j]?) = some d) : ∃ v, atI vs i = some v ∧ Rp G H v d := by
  unfold atI
  rw [r.length]
  cases e : ixN ds.length i with
  | none => rw [e] at h; cases h
  | some j =>
    rw [e] at h
    obtain ⟨v, h1, h2⟩ := r.get (i := j) h
    refine ⟨v, ?_, h2⟩
    show ((ixN ds.length i).bind fun j => vs[j]?) = some v
    rw [e]
    exact h1
theorem ix_data (hu : X.A.units + 150 < cLine) : IxR X (rK G fun d e => (idxD d e).map .dat) := by
  intro value slice pins s σ H x y v u Q I rx ry ⟨d, e, Hf, ts, ok, r1, r2, p⟩ hs
  have l := ok.le
  have kk := gx.k
  have p : PostO G Hf ts ((idxD d e).map .dat) Q := p
  cases h : idxD d e with
  | none => rw [h] at p; exact p.elim
  | some z =>
    rw [h] at p
    have fin : ∀ {v : V}, Rp G Hf v z → Q v H := fun r => p.dat ok (Le.refl _) r
    unfold idxD at h
    split at h
    · cases r1 with
      | lst a b =>
        cases r2
        obtain ⟨w, h1, h2⟩ := atI_rps gx b h
        exact ix_list value slice pins s σ H _ _ v u Q I rx ry ⟨_, _, _, w, rfl, rfl, kk ▸ a, h1, fin h2⟩ hs
    · cases r1 with
      | tup a b =>
        cases r2
        obtain ⟨w, h1, h2⟩ := atI_rps gx b h
        exact ix_tup value slice pins s σ H _ _ v u Q I rx ry ⟨_, _, _, w, rfl, rfl, kk ▸ l.sqT a, h1, fin h2⟩ hs
    · cases r1
      cases r2
      obtain ⟨c, h⟩ := ite_some h
      obtain ⟨k, h1, rfl⟩ := Option.map_eq_some_iff.mp h
      exact ix_str value slice pins s σ H _ _ v u Q I rx ry ⟨_, _, k, rfl, rfl, szOk_le c, h1, fin (.str _)⟩ hs
    · obtain ⟨c, h⟩ := ite_some h
      obtain ⟨a, o, rfl, rfl, da, dv⟩ := r1.ask gx hu I l rx r2 ry c
      obtain ⟨w, v1, e1, e2, e3⟩ := dv.some h
      exact tail_any da.ty slot_dict_getitem.lookup (da.get _ _ w e1 fun tk => ⟨v1, H, I.tok tk, e2, fin e3⟩) hs
    · cases h
theorem Rps.cut {H : Hp} {vs : List V} {ds : List D} (r : Rps G H vs ds) (lo hi : Option Int) : Rps G H (cutV vs lo hi) (Lw.cut ds lo hi) := by
  unfold cutV Lw.cut
  rw [r.length]
  exact (r.drop _).take _
def rS (G : Gx) (k : D → Option Int → Option Int → Option O) : V → Option Int → Option Int → Hp → VK → Prop := fun x lo hi H Q => ∃ (d : D) (Hf : Hp) (ts : List Gt), Ok G H Hf ts ∧ RpT G H Hf x d ∧ PostO G Hf ts (k d lo hi) Q
theorem cut_whole {α : Type} {xs : List α} {lo hi : Option Int} (h1 : HT.sIx xs.length 0 lo = 0) (h2 : HT.sIx xs.length xs.length hi = xs.length) : cut xs lo hi = xs := by
  show (xs.drop (HT.sIx xs.length 0 lo)).take (HT.sIx xs.length xs.length hi - HT.sIx xs.length 0 lo) = xs
  rw [h1, h2, List.drop_zero, Nat.sub_zero, List.take_length]
theorem sl_data : SlR X (rS G slcD) := by
  intro pins s σ H x v vl vu lo hi sl Q I rx hs pl pu ⟨d, Hf, ts, ok, r, p⟩
  have l := ok.le
  have kk := gx.k
  cases r <;> first | exact p.elim | skip
  case lst a vs ds h g => exact sl_list pins s σ H _ v vl vu lo hi sl Q I rx hs pl pu ⟨a, vs, rfl, kk ▸ h, fun q hq => p.lst ok (Le.refl _) hq (g.cut gx lo hi)⟩
  case tup a vs ds h g =>
    refine sl_tupA pins s σ H _ v vl vu lo hi sl Q I rx hs pl pu ⟨a, vs, rfl, kk ▸ l.sqT h, fun hw => ?_, fun _ q hq => p.tup ok (Le.refl _) hq (g.cut gx lo hi)⟩
    rw [g.length] at hw
    have p : PostO G Hf ts (some (.dat (.tuple (Lw.cut ds lo hi)))) Q := p
    rw [cut_whole gx hw.1 hw.2] at p
    exact p.dat ok (Le.refl _) (.tup h g)
  case str x =>
    obtain ⟨c, p⟩ := PostO.if p
    exact sl_str pins s σ H _ v vl vu lo hi sl Q I rx hs pl pu ⟨x, rfl, szOk_le c, p.dat ok (Le.refl _) (.str _)⟩

/-! ### functions -/
def rU1 (G : Gx) (k : D → Option D) : List V → Hp → VK → Prop := fun xs H Q => ∃ (x : V) (d : D) (Hf : Hp) (ts : List Gt), xs = [x] ∧ Ok G H Hf ts ∧ RpT G H Hf x d ∧ PostO G Hf ts ((k d).map .dat) Q
theorem call_len_data : CallR X (.builtin "len") (rU1 G fun d => biD .len [d]) := by
  intro pins s σ H xs us Q I r h0
  obtain ⟨x, d, Hf, ts, rfl, ok, rr, p⟩ := h0
  have l := ok.le
  have kk := gx.k
  have n63 := line63
  cases rr <;> first | exact p.elim | skip
  case lst a vs ds h g => exact call_len_seq pins s σ H _ us Q I r ⟨a, vs, rfl, .inl (kk ▸ h), by rw [g.length]; exact p.dat ok (Le.refl _) (.int _)⟩
  case tup a vs ds h g => exact call_len_seq pins s σ H _ us Q I r ⟨a, vs, rfl, .inr (kk ▸ l.sqT h), by rw [g.length]; exact p.dat ok (Le.refl _) (.int _)⟩
  case str z =>
    by_cases c : szOk z.length = true
    · have p : PostO G Hf ts ((if szOk z.length = true then some (.int z.length) else none : Option D).map .dat) Q := p
      rw [if_pos c] at p
      exact call_len_str pins s σ H _ us Q I r ⟨z, rfl, szOk_le c, p.dat ok (Le.refl _) (.int _)⟩
    · have p : PostO G Hf ts ((if szOk z.length = true then some (.int z.length) else none : Option D).map .dat) Q := p
      rw [if_neg c] at p
      exact p.elim
  case dK a kvs ds hH rr =>
    have e : kvs.length = ds.length := by have := rr.length; rw [List.length_map] at this; exact this
    obtain ⟨u, rfl, ru⟩ := vals1 r
    cases ru
    exact d_len I (.inl hH) fun t s' I' => ⟨.int kvs.length, H, I', ⟨_, rfl⟩, by rw [e]; exact p.dat ok (Le.refl _) (.int _)⟩
  case dW a kvs ds wr rr =>
    have e : kvs.length = ds.length := by have := rr.length; rw [List.length_map] at this; exact this
    obtain ⟨u, rfl, ru⟩ := vals1 r
    cases ru
    obtain ⟨z, hd, vs, rel, dd⟩ := wr
    have dd := dd s.heap (kk ▸ I.kIn)
    rw [← gx.p, ← gx.w] at dd
    refine call_len_dict hd dd (by rw [← rel.length]; rw [sizeLine_eq] at z; omega) ?_
    rw [← rel.length]
    exact ⟨.int kvs.length, H, I.tok _, ⟨_, rfl⟩, by rw [e]; exact p.dat ok (Le.refl _) (.int _)⟩
  case dT a xs ds hH rt rr =>
    have e : xs.length = ds.length := by have := rr.length; rw [List.length_map] at this; exact this
    obtain ⟨u, rfl, ru⟩ := vals1 r
    cases ru
    obtain ⟨z, hd, nd, us, pr, dd⟩ := dT_at gx I l hH rt
    have el := Paired.length pr
    refine call_len_dictH hd dd (by rw [← el]; rw [sizeLine_eq] at z; omega) ?_
    rw [← el]
    exact ⟨.int xs.length, H, I.tok _, ⟨_, rfl⟩, by rw [e]; exact p.dat ok (Le.refl _) (.int _)⟩
omit gx in
theorem call_abs_data : CallR X (.builtin "abs") (rU1 G fun d => biD .abs [d]) := by
  intro pins s σ H xs us Q I r h0
  obtain ⟨x, d, Hf, ts, rfl, ok, rr, p⟩ := h0
  cases rr <;> first | exact p.elim | skip
  case int i => exact call_abs pins s σ H _ us Q I r ⟨i, rfl, p.dat ok (Le.refl _) (.int _)⟩
omit gx in
theorem call_int_data : CallR X (.type "int") (rU1 G fun d => biD .int [d]) := by
  intro pins s σ H xs us Q I r h0
  obtain ⟨x, d, Hf, ts, rfl, ok, rr, p⟩ := h0
  cases rr <;> first | exact p.elim | skip
  case int i => exact call_int1 pins s σ H _ us Q I r (.inl ⟨i, rfl, p.dat ok (Le.refl _) (.int _)⟩)
  case bl b => exact call_int1 pins s σ H _ us Q I r (.inr ⟨b, rfl, p.dat ok (Le.refl _) (.int _)⟩)
omit gx in
theorem call_str_data : CallR X (.type "str") (rU1 G fun d => biD .str [d]) := by
  intro pins s σ H xs us Q I r h0
  obtain ⟨x, d, Hf, ts, rfl, ok, rr, p⟩ := h0
  cases rr <;> first | exact p.elim | skip
  case int i =>
    have p : PostO G Hf ts ((if i.natAbs.log2 < 1920 then some (.str (toString i)) else none : Option D).map .dat) Q := p
    by_cases c : i.natAbs.log2 < 1920
    · rw [if_pos c] at p
      exact call_str_int pins s σ H _ us Q I r ⟨i, rfl, c, p.dat ok (Le.refl _) (.str _)⟩
    · rw [if_neg c] at p; exact p.elim
def rUs (G : Gx) (k : List D → Option D) : List V → Hp → VK → Prop := fun xs H Q => ∃ (ds : List D) (Hf : Hp) (ts : List Gt), Ok G H Hf ts ∧ Rps G Hf xs ds ∧ PostO G Hf ts ((k ds).map .dat) Q
omit gx in
theorem two_ints {Hf : Hp} {ts : List Gt} {Q : VK} {ds : List D} {xs : List V} {b : Bi} (hb : b = .max2 ∨ b = .min2 ∨ b = .gcd) (r : Rps G Hf xs ds) (p : PostO G Hf ts ((biD b ds).map .dat) Q) : ∃ i j, ds = [.int i, .int j] ∧ xs = [.int i, .int j] := by
  cases r with
  | nil => rcases hb with rfl | rfl | rfl <;> exact p.elim
  | cons r1 r =>
    cases r with
    | nil => rcases hb with rfl | rfl | rfl <;> cases r1 <;> exact p.elim
    | cons r2 r =>
      cases r with
      | nil =>
        cases r1 <;> cases r2 <;> first | exact ⟨_, _, rfl, rfl⟩ | (rcases hb with rfl | rfl | rfl <;> exact p.elim)
      | cons r3 r =>
        rcases hb with rfl | rfl | rfl <;> cases r1 <;> cases r2 <;> cases r3 <;> first | exact p.elim | (cases r <;> exact p.elim)
omit gx in
theorem call_max2_data (hc : X.calm = true) : CallR X (.builtin "max") (rUs G (biD .max2)) := by
  intro pins s σ H xs us Q I r ⟨ds, Hf, ts, ok, rr, p⟩
  obtain ⟨i, j, rfl, rfl⟩ := two_ints (.inl rfl) rr p
  exact call_max2 hc pins s σ H _ us Q I r ⟨i, j, rfl, p.dat ok (Le.refl _) (.int _)⟩
omit gx in
theorem call_min2_data (hc : X.calm = true) : CallR X (.builtin "min") (rUs G (biD .min2)) := by
  intro pins s σ H xs us Q I r ⟨ds, Hf, ts, ok, rr, p⟩
  obtain ⟨i, j, rfl, rfl⟩ := two_ints (.inr (.inl rfl)) rr p
  exact call_min2 hc pins s σ H _ us Q I r ⟨i, j, rfl, p.dat ok (Le.refl _) (.int _)⟩
omit gx in
theorem call_gcd_data : CallR X (.builtin "math.gcd") (rUs G (biD .gcd)) := by
  intro pins s σ H xs us Q I r ⟨ds, Hf, ts, ok, rr, p⟩
  obtain ⟨i, j, rfl, rfl⟩ := two_ints (.inr (.inr rfl)) rr p
  exact cr_gcd pins s σ H _ us Q I r ⟨i, j, rfl, p.dat ok (Le.refl _) (.int _)⟩

def Ty.py : Ty → String
  | .int => "int" | .bool => "bool" | .str => "str" | .tup => "tuple" | .lst => "list"
theorem isi_dict {K : PySem.W.Frag} (t : Ty) (ds : List (D × D)) : PySem.W.kitOne K (.type "dict") (.type t.py) = some (isiD t (.dict ds)) := by
  cases t <;> exact rfl
/-- isinstance(x, T) -/
theorem isi_data (t : Ty) {pins : List (Addr × Obj)} {s : Shared} {σ : L2.St} {H Hf : Hp} {x : V} {u : Value} {d : D} {E Q : Value → Shared → Prop} (I : Inv X pins σ H s) (l : Le Hf H) (r : RpT G H Hf x d) (rx : RelV x u) (h : ∀ tk, Q (.bool (isiD t d)) { s with toks := tk }) :
    wpAny (model X.prog X.w) X.A (call (.builtin "isinstance") [u, .type t.py]) Q E s := by
  have kk := gx.k
  cases r with
  | non => cases rx; exact PySem.W.kia_one PySem.W.kitx_none I.kIn True.intro (by cases t <;> exact rfl) (fun z => nomatch z) h
  | bl y => cases rx; exact PySem.W.kia_one PySem.W.kitx_bool I.kIn True.intro (by cases t <;> exact rfl) (fun z => nomatch z) h
  | int i => obtain ⟨tk, q⟩ := rx; cases q; exact PySem.W.kia_one PySem.W.kitx_int I.kIn True.intro (by cases t <;> exact rfl) (fun z => nomatch z) h
  | str y => obtain ⟨tk, q⟩ := rx; cases q; exact PySem.W.kia_one PySem.W.kitx_str I.kIn True.intro (by cases t <;> exact rfl) (fun z => nomatch z) h
  | lst a b =>
    cases rx
    obtain ⟨its, r1, p1, z⟩ := I.list (kk ▸ a)
    exact PySem.W.kia_one PySem.W.kitx_list I.kIn (let ⟨o, _, e, hc, _⟩ := p1; ⟨o, e, hc⟩) (by cases t <;> exact rfl) (fun z => nomatch z) h
  | tup a b =>
    cases rx
    obtain ⟨its, r1, ⟨o, e, hc, _⟩, z⟩ := I.tuple (kk ▸ l.sqT a)
    exact PySem.W.kia_one PySem.W.kitx_tuple I.kIn ⟨o, e, hc⟩ (by cases t <;> exact rfl) (fun z => nomatch z) h
  | dK a b =>
    cases rx
    obtain ⟨z, hd, vs, rel, o, es, ep, e, x, _⟩ := dk_of I.hok a
    exact PySem.W.kia_one PySem.W.kitx_dict I.kIn ⟨o, e, x.1⟩ (isi_dict gx t _) (fun z => nomatch z) h
  | dW a b =>
    cases rx
    obtain ⟨z, hd, vs, rel, dd⟩ := a
    obtain ⟨o, es, ep, e, x, _⟩ := dd s.heap (kk ▸ I.kIn)
    exact PySem.W.kia_one PySem.W.kitx_dict I.kIn ⟨o, e, x.1⟩ (isi_dict gx t _) (fun z => nomatch z) h
  | dT a b c =>
    cases rx
    obtain ⟨z, hd, nd, us, pr, o, es, ep, e, x, _⟩ := dT_at gx I l a b
    exact PySem.W.kia_one PySem.W.kitx_dict I.kIn ⟨o, e, x.1⟩ (isi_dict gx t _) (fun z => nomatch z) h
end
end Lw

set_option autoImplicit false
set_option linter.all false
set_option Elab.async false
set_option maxRecDepth 100000
set_option maxHeartbeats 1000000
/-! LSnd5: expressions that call nothing. -/
namespace Lw
open PySem PySem.Spec PyProof.Rows L2
open Gt

section
variable {G : Gx} {C : Cf} {W : WX} {σ : L2.St} {gs gs' Rm : List Gt} {H Hf H' Hf' : Hp} {l : List Pl} {Q : VK}
theorem Ok.at {i : Nat} (ok : Ok G H Hf (gs ++ Rm)) : OkT G H Hf (gs.getD i .un) := by
  rw [List.getD_eq_getElem?_getD]
  cases e : gs[i]? with
  | none => exact .un
  | some t => exact ok.ok _ (List.mem_append_left _ (List.mem_of_getElem? e))
theorem OkTs.look {c : Nat} {fs : List (Nat × Gt)} (x : Nat) (k : OkTs G H Hf c fs) : OkT G H Hf (lkT fs x) := by
  induction fs with
  | nil => exact .un
  | cons p r ih =>
    obtain ⟨n, t⟩ := p
    cases k with
    | cons a b c d =>
      unfold lkT at ih ⊢
      rw [List.lookup]
      cases e : x == n with
      | true => exact c
      | false => exact ih d
theorem Ok.getT (p : Pl) (ok : Ok G H Hf (gs ++ Rm)) : OkT G H Hf (getT p gs) := by
  cases p with
  | v i => exact ok.at
  | f i x =>
    have h := ok.at (i := i)
    show OkT G H Hf (match gs.getD i .un with | .ins _ _ _ fs => lkT fs x | _ => .un)
    cases e : gs.getD i .un with
    | ins a dx c fs =>
      rw [e] at h
      cases h with
      | ins a b c d => exact d.look x
    | _ => exact .un
/-- a value that is held: its own, or a place's -/
def Held (G : Gx) (H Hf : Hp) (gs T : List Gt) (a : E) (t : Gt) : Prop := OkT G H Hf t ∧ ((T = [t] ∧ (plOf a = none ∨ ∃ v o, t = .sh v o)) ∨ (T = [] ∧ ∃ p, plOf a = some p ∧ getT p gs = t))
theorem Held.next {a : E} {t : Gt} {T T2 : List Gt} (h : Held G H Hf gs T a t) (ok : Ok G H' Hf' (gs' ++ (T2 ++ (T ++ Rm)))) (sm : Same l gs gs') (sp : sep a l = true) : Held G H' Hf' gs' T a t := by
  obtain ⟨_, h⟩ := h
  rcases h with ⟨rfl, hh⟩ | ⟨rfl, p, e, q⟩
  · exact ⟨ok.ok _ (by simp), .inl ⟨rfl, hh⟩⟩
  · have e2 : getT p gs' = t := by
      rw [sm.2 p fun x hx => ?_]
      · exact q
      · unfold sep at sp
        rw [e] at sp
        exact List.all_eq_true.mp sp x hx
    refine ⟨?_, .inr ⟨rfl, p, e, e2⟩⟩
    rw [← e2]
    exact ok.getT p
theorem Ok.tail2 {T2 T : List Gt} (ok : Ok G H Hf (gs ++ (T2 ++ (T ++ Rm)))) : Ok G H Hf (gs ++ (T ++ Rm)) := ok.sub ((List.Sublist.refl gs).append (List.sublist_append_right T2 _))

def ExcQ (G : Gx) (W : WX) (σ : L2.St) (Rm : List Gt) (Hf : Hp) (c : Nat) (p : List (Nat × D)) (s : St) : Prop := ∀ (d : Option Addr) (H' Hf' : Hp) (gs' : List Gt), Le Hf Hf' → Ok G H' Hf' (gs' ++ Rm) → gs'.map er = s → Rel σ gs' → ExcP G H' d p → W (.ref (G.ca c)) d σ H'
theorem ExcQ.more {c : Nat} {p : List (Nat × D)} {s : St} {T : List Gt} (h : ExcQ G W σ Rm Hf c p s) (le : Le Hf Hf') : ExcQ G W σ (T ++ Rm) Hf' c p s :=
  fun d H2 Hf2 gs2 le2 ok2 e r x => h d H2 Hf2 gs2 (le.trans le2) ok2.tailR e r x
/-- what a run's end is to be: P at a value, the wish at an exception -/
structure PostK {α : Type} (G : Gx) (W : WX) (σ : L2.St) (Rm : List Gt) (Hf : Hp) (P : R α → Prop) : Prop where
  ex : ∀ c p s, P (.exc c p s) → ExcQ G W σ Rm Hf c p s
  no : ¬ P .no
theorem pk_v : PostK G W σ Rm Hf fun r => PostV G W r l σ gs Rm Hf Q := ⟨fun _ _ _ h => h, fun h => h⟩
theorem pk_vs {Q : List V → Hp → Prop} : PostK G W σ Rm Hf fun r => PostVs G W r l σ gs Rm Hf Q := ⟨fun _ _ _ h => h, fun h => h⟩
theorem PostK.more {α : Type} {P : R α → Prop} {T : List Gt} (k : PostK G W σ Rm Hf P) (le : Le Hf Hf') : PostK G W σ (T ++ Rm) Hf' P := ⟨fun c p s h => (k.ex c p s h).more le, k.no⟩
theorem PostB.mk {β : Type} {a : E} {r : R O} {k : O → St → R β} {P : R β → Prop} (kk : PostK G W σ Rm Hf P) (h : P (r.bind k))
    (hk : ∀ (H' Hf' : Hp) (t : Gt) (gs' T : List Gt), P (k t.er (gs'.map er)) → t ≠ .un → Le Hf Hf' → Ok G H' Hf' (gs' ++ (T ++ Rm)) → Held G H' Hf' gs' T a t → Rel σ gs' → Same l gs gs' → Q t.rt H') : PostB G W a r l σ gs Rm Hf Q := by
  cases r with
  | no => exact kk.no h
  | exc c p s => exact kk.ex c p s h
  | ok o s =>
    intro H' Hf' t gs' T n le ok okt pl e es rel sm
    subst e es
    exact hk H' Hf' t gs' T h n le ok ⟨okt, pl⟩ rel sm
theorem PostV.mk {β : Type} {r : R O} {k : O → St → R β} {P : R β → Prop} (kk : PostK G W σ Rm Hf P) (h : P (r.bind k))
    (hk : ∀ (H' Hf' : Hp) (t : Gt) (gs' : List Gt), P (k t.er (gs'.map er)) → t ≠ .un → Le Hf Hf' → Ok G H' Hf' (t :: (gs' ++ Rm)) → Rel σ gs' → Same l gs gs' → Q t.rt H') : PostV G W r l σ gs Rm Hf Q := by
  cases r with
  | no => exact kk.no h
  | exc c p s => exact kk.ex c p s h
  | ok o s =>
    intro H' Hf' t gs' n le ok e es rel sm
    subst e es
    exact hk H' Hf' t gs' h n le ok rel sm
theorem PostVs.mk {β : Type} {r : R (List O)} {k : List O → St → R β} {P : R β → Prop} {Q : List V → Hp → Prop} (kk : PostK G W σ Rm Hf P) (h : P (r.bind k))
    (hk : ∀ (H' Hf' : Hp) (vs : List V) (os : List O) (gs' : List Gt), r = .ok os (gs'.map er) → P (k os (gs'.map er)) → Le Hf Hf' → Ok G H' Hf' (gs' ++ Rm) → Paired (RpO G Hf') vs os → Rel σ gs' → Same l gs gs' → Q vs H') : PostVs G W r l σ gs Rm Hf Q := by
  cases r with
  | no => exact kk.no h
  | exc c p s => exact kk.ex c p s h
  | ok os s =>
    intro H' Hf' vs gs' le ok pr es rel sm
    subst es
    exact hk H' Hf' vs os gs' rfl h le ok pr rel sm
/-- data come out -/
theorem PostV.toO {r : Option O} (h : PostV G W (ofO r (gs'.map er)) l σ gs Rm Hf Q) (le : Le Hf Hf') (rel : Rel σ gs') (sm : Same l gs gs') : PostO G Hf' (gs' ++ Rm) r Q := by
  cases r with
  | none => exact h
  | some o => exact fun H2 Hf2 t n le2 ok2 e => h H2 Hf2 t gs' n (le.trans le2) ok2 e rfl rel sm
theorem PostV.toB {r : Option Bool} (h : PostV G W (ofB r (gs'.map er)) l σ gs Rm Hf Q) (le : Le Hf Hf') (ok : Ok G H' Hf' (gs' ++ Rm)) (rel : Rel σ gs') (sm : Same l gs gs') : ∃ b, r = some b ∧ Q (.bl b) H' := by
  cases r with
  | none => exact h.elim
  | some b => exact ⟨b, rfl, post_sh ok le (.dat (.bl b)) rel sm h⟩
theorem ofD_map (r : Option D) (s : St) : ofD r s = ofO (r.map .dat) s := by cases r <;> rfl

/-- two borrowed values, one after the other -/
theorem two_b {a b : E} {k : O → O → St → R O} {K : V → V → Hp → Prop} (ok : Ok G H Hf (gs ++ Rm)) (rel : Rel σ gs) (sp : sep a (eff b) = true)
    (h : PostV G W ((bor a (gs.map er) (ev C a (gs.map er))).bind fun x s => (bor b s (ev C b s)).bind fun y s => k x y s) (eff a ++ eff b) σ gs Rm Hf Q)
    (hk : ∀ (H2 Hf2 : Hp) (t1 t2 : Gt) (gs2 : List Gt), PostV G W (k t1.er t2.er (gs2.map er)) (eff a ++ eff b) σ gs Rm Hf Q → t1 ≠ .un → t2 ≠ .un → Le Hf Hf2 → Ok G H2 Hf2 (gs2 ++ Rm) → OkT G H2 Hf2 t1 → OkT G H2 Hf2 t2 → Rel σ gs2 → Same (eff a ++ eff b) gs gs2 → K t1.rt t2.rt H2) :
    Lw.tB G C W a σ H fun x H1 => Lw.tB G C W b σ H1 fun y H2 => K x y H2 := by
  refine ⟨gs, Rm, Hf, ok, rel, PostB.mk pk_v h fun H1 Hf1 t1 gs1 T1 h n1 le1 ok1 he1 rel1 sm1 => ?_⟩
  refine ⟨gs1, T1 ++ Rm, Hf1, ok1, rel1, PostB.mk (pk_v.more le1) h fun H2 Hf2 t2 gs2 T2 h n2 le2 ok2 he2 rel2 sm2 => ?_⟩
  have he1 := he1.next ok2 sm2 sp
  exact hk H2 Hf2 t1 t2 gs2 h n1 n2 (le1.trans le2) ok2.tailR.tailR he1.1 he2.1 rel2 (sm1.trans sm2)
/-- one borrowed value -/
theorem one_b {a : E} {k : O → St → R O} {K : V → Hp → Prop} (ok : Ok G H Hf (gs ++ Rm)) (rel : Rel σ gs) (h : PostV G W ((bor a (gs.map er) (ev C a (gs.map er))).bind k) (eff a) σ gs Rm Hf Q)
    (hk : ∀ (H2 Hf2 : Hp) (t : Gt) (gs2 : List Gt), PostV G W (k t.er (gs2.map er)) (eff a) σ gs Rm Hf Q → t ≠ .un → Le Hf Hf2 → Ok G H2 Hf2 (gs2 ++ Rm) → OkT G H2 Hf2 t → Rel σ gs2 → Same (eff a) gs gs2 → K t.rt H2) :
    Lw.tB G C W a σ H K :=
  ⟨gs, Rm, Hf, ok, rel, PostB.mk pk_v h fun H1 Hf1 t1 gs1 T1 h n1 le1 ok1 he1 rel1 sm1 => hk H1 Hf1 t1 gs1 h n1 le1 ok1.tailR he1.1 rel1 sm1⟩
/-- one value, not borrowed -/
theorem one_e {a : E} {k : O → St → R O} {K : V → Hp → Prop} (ok : Ok G H Hf (gs ++ Rm)) (rel : Rel σ gs) (h : PostV G W ((ev C a (gs.map er)).bind k) l σ gs Rm Hf Q)
    (hk : ∀ (H2 Hf2 : Hp) (t : Gt) (gs2 : List Gt), PostV G W (k t.er (gs2.map er)) l σ gs Rm Hf Q → t ≠ .un → Le Hf Hf2 → Ok G H2 Hf2 (t :: (gs2 ++ Rm)) → Rel σ gs2 → Same (eff a) gs gs2 → K t.rt H2) :
    Lw.tE G C W a σ H K :=
  ⟨gs, Rm, Hf, ok, rel, PostV.mk pk_v h fun H1 Hf1 t1 gs1 h n1 le1 ok1 rel1 sm1 => hk H1 Hf1 t1 gs1 h n1 le1 ok1 rel1 sm1⟩
end

section
variable {G : Gx} {C : Cf} {W : WX} {X : Cx} {pa pb pc : Expr} {a b c : E} {pos : Pos}

/-- what is borrowed and no place is just worked out -/
theorem PostV.weakR {l : List Pl} {σ : L2.St} {gs Rm : List Gt} {Hf : Hp} {Q Q' : VK} {r : R O} (h : PostV G W r l σ gs Rm Hf Q) (q : ∀ v H, Q v H → Q' v H) : PostV G W r l σ gs Rm Hf Q' := by
  cases r with
  | no => exact h
  | exc => exact h
  | ok o s => exact fun H' Hf' t gs' n le ok e es rel sm => q _ _ (h H' Hf' t gs' n le ok e es rel sm)
theorem snd_b (hp : PE X pa (tE G C W a)) (n0 : plOf a = none) : PE X pa (tB G C W a) := by
  refine hp.imp fun σ H Q ⟨gs, Rm, Hf, ok, rel, h⟩ => ⟨gs, Rm, Hf, ok, rel, ?_⟩
  unfold bor at h
  rw [n0] at h
  cases e : ev C a (gs.map er) with
  | no => rw [e] at h; exact h
  | exc c p s => rw [e] at h; exact h
  | ok o s =>
    rw [e] at h
    intro H' Hf' t gs' n le ok e1 es rel sm
    refine h H' Hf' t gs' [t] n le ?_ (ok.ok _ (.head _)) (.inl ⟨rfl, .inl n0⟩) e1 es rel sm
    exact ok.perm (List.perm_middle (l₁ := gs') (l₂ := Rm))

theorem snd_bop (gx : GX G X) (o : Bop) (ha : PE X pa (tB G C W a)) (hb : PE X pb (tB G C W b)) (sp : sep a (eff b) = true) : PE X (.BinOp pa o.py pb pos) (tE G C W (.bop o a b)) := by
  refine (pe_op (op_bop gx o) ha hb).imp fun σ H Q ⟨gs, Rm, Hf, ok, rel, h⟩ => ?_
  rw [ev, eff] at h
  refine two_b ok rel sp h fun H2 Hf2 t1 t2 gs2 h n1 n2 le ok2 k1 k2 rel2 sm => ?_
  cases e1 : t1.er.d? with
  | none => simp only [e1] at h; exact h.elim
  | some d =>
    cases e2 : t2.er.d? with
    | none => simp only [e1, e2] at h; exact h.elim
    | some e =>
      simp only [e1, e2] at h
      exact ⟨d, e, Hf2, gs2 ++ Rm, ok2, k1.top ok2.le e1, k2.top ok2.le e2, h.toO le rel2 sm⟩
theorem cmp_post (gx : GX G X) (hu : X.A.units + 150 < cLine) (o : Cop) {σ : L2.St} {H : Hp} {Q : VK} (sp : sep a (eff b) = true) (h0 : tE G C W (.cmp o a b) σ H Q) : tOp (rB G (cmpD o)) (tB G C W a) (tB G C W b) σ H Q := by
  obtain ⟨gs, Rm, Hf, ok, rel, h⟩ := h0
  rw [ev, eff] at h
  refine two_b ok rel sp h fun H2 Hf2 t1 t2 gs2 h n1 n2 le ok2 k1 k2 rel2 sm => ?_
  cases e1 : t1.er.d? with
  | none => simp only [e1] at h; exact h.elim
  | some d =>
    cases e2 : t2.er.d? with
    | none => simp only [e1, e2] at h; exact h.elim
    | some e =>
      simp only [e1, e2] at h
      exact ⟨d, e, Hf2, gs2 ++ Rm, ok2, k1.top ok2.le e1, k2.top ok2.le e2, h.toB le ok2 rel2 sm⟩
theorem snd_cmp (gx : GX G X) (hu : X.A.units + 150 < cLine) (o : Cop) (ha : PE X pa (tB G C W a)) (hb : PE X pb (tB G C W b)) (sp : sep a (eff b) = true) (hm : behindInMarks o.py pb = false) : PE X (.Compare pa [o.py] [pb] pos) (tE G C W (.cmp o a b)) :=
  (pe_cmpR (op_cmp gx hu o) ha hb hm).imp fun σ H Q h => cmp_post gx hu o sp h
theorem snd_cmpT (gx : GX G X) (hu : X.A.units + 150 < cLine) (o : Cop) (ha : PE X pa (tB G C W a)) (hb : PE X pb (tB G C W b)) (sp : sep a (eff b) = true) (hm : behindInMarks o.py pb = false) : PT X (.Compare pa [o.py] [pb] pos) (tT G C W (.cmp o a b)) :=
  (pt_cmpR (op_cmp gx hu o) ha hb hm).imp fun σ H Q h => cmp_post gx hu o sp h
theorem snd_neg (ha : PE X pa (tE G C W a)) : PE X (.UnaryOp .USub pa pos) (tE G C W (.neg a)) := by
  refine (pe_un un_neg ha).imp fun σ H Q ⟨gs, Rm, Hf, ok, rel, h⟩ => ?_
  rw [ev, eff] at h
  refine one_e ok rel h fun H2 Hf2 t gs2 h n le ok2 rel2 sm => ?_
  cases t with
  | sh v o =>
    cases ok2.ok _ (.head _) with
    | sh r =>
      cases r with
      | dat r =>
        cases r <;> first | exact h.elim | skip
        case int i => exact ⟨i, rfl, post_sh ok2.drop le (.dat (.int _)) rel2 sm h⟩
      | fin => exact h.elim
      | tpo => exact h.elim
  | _ => exact h.elim
end
end Lw

set_option autoImplicit false
set_option linter.all false
set_option Elab.async false
set_option maxRecDepth 100000
set_option maxHeartbeats 1000000
/-! LSnd6: expressions that call nothing, further. -/
namespace Lw
open PySem PySem.Spec PyProof.Rows L2
open Gt

section
variable {G : Gx} {C : Cf} {W : WX} {σ : L2.St} {gs gs' Rm : List Gt} {H Hf H' Hf' : Hp} {l : List Pl} {Q : VK}
theorem sh_of {t : Gt} {ts : List Gt} (ok : OkT G H Hf t) (s : t.er.shared = true) : RpO G Hf t.rt t.er := by
  cases ok with
  | sh r => exact r
  | _ => cases s
theorem PostV.shd {o : O} (h : PostV G W (sharedO o (gs'.map er)) l σ gs Rm Hf Q) : o.shared = true ∧ PostV G W (.ok o (gs'.map er)) l σ gs Rm Hf Q := by
  unfold sharedO at h
  cases e : o.shared with
  | true => rw [e] at h; exact ⟨rfl, h⟩
  | false => rw [e] at h; exact h.elim
/-- a later place's post is an earlier one's -/
theorem PostV.back {r : R O} {m : List Pl} {gs1 : List Gt} (h : PostV G W r l σ gs Rm Hf Q) (le : Le Hf Hf') (sm : Same m gs gs1) (sub : ∀ q ∈ m, q ∈ l) {n : List Pl} (sub2 : ∀ q ∈ n, q ∈ l) : PostV G W r n σ gs1 Rm Hf' Q := by
  cases r with
  | no => exact h
  | exc c p s => exact fun d H2 Hf2 gs2 le2 ok2 e r x => h d H2 Hf2 gs2 (le.trans le2) ok2 e r x
  | ok o s => exact fun H2 Hf2 t gs2 n0 le2 ok2 e es rel sm2 => h H2 Hf2 t gs2 n0 (le.trans le2) ok2 e es rel ((sm.trans sm2).weak fun q hq => (List.mem_append.mp hq).elim (sub q) (sub2 q))
/-- a test, then the one or the other -/
theorem test_e {a : E} {kt kf : St → R O} {K : Bool → Hp → Prop} (ok : Ok G H Hf (gs ++ Rm)) (rel : Rel σ gs)
    (h : PostV G W ((ev C a (gs.map er)).bind fun x s => match x with | .dat (.bool true) => kt s | .dat (.bool false) => kf s | _ => .no) l σ gs Rm Hf Q)
    (ht : ∀ (H2 Hf2 : Hp) (gs2 : List Gt), PostV G W (kt (gs2.map er)) l σ gs Rm Hf Q → Le Hf Hf2 → Ok G H2 Hf2 (gs2 ++ Rm) → Rel σ gs2 → Same (eff a) gs gs2 → K true H2)
    (hf : ∀ (H2 Hf2 : Hp) (gs2 : List Gt), PostV G W (kf (gs2.map er)) l σ gs Rm Hf Q → Le Hf Hf2 → Ok G H2 Hf2 (gs2 ++ Rm) → Rel σ gs2 → Same (eff a) gs gs2 → K false H2) : tT G C W a σ H K := by
  refine ⟨gs, Rm, Hf, ok, rel, PostV.mk pk_v h fun H2 Hf2 t gs2 h n le ok2 rel2 sm => ?_⟩
  have kk := ok2.ok _ (.head _)
  cases kk with
  | sh r =>
    cases r with
    | dat r =>
      cases r <;> first | exact h.elim | skip
      case bl b =>
        cases b with
        | true => exact ⟨true, rfl, ht H2 Hf2 gs2 h le ok2.drop rel2 sm⟩
        | false => exact ⟨false, rfl, hf H2 Hf2 gs2 h le ok2.drop rel2 sm⟩
    | _ => exact h.elim
  | _ => exact h.elim
end

section
variable {G : Gx} {C : Cf} {W : WX} {X : Cx} {pa pb pc : Expr} {a b c : E} {pos : Pos}
theorem snd_T (h : PE X pa (tE G C W a)) (he : ∀ whole, isTrue pa X.env whole = (do let v ← whole; standAt pa.pos; holding [v] (truthy v)) := by intro _; rfl) : PT X pa (tT G C W a) := pt_val h he
theorem snd_var {i : Nat} {x : Str} (hN : X.N[i]? = some x) (hv : Vis X.env.scope x) (hd : (x == ("__debug__" : Str)) = false) (hcd : (x == ("__classdict__" : Str)) = false) : PE X (.Name x pos) (tE G C W (.var i)) := by
  refine (pe_var hN hv hd hcd).imp fun σ H Q ⟨gs, Rm, Hf, ok, rel, h⟩ => ?_
  rw [ev] at h
  obtain ⟨s, h⟩ := h.shd
  rw [getD_map] at s h
  have kk := ok.at (i := i)
  have n : gs.getD i .un ≠ .un := fun e => by rw [e] at s; cases s
  have e : gs[i]? = some (gs.getD i .un) := by
    rw [List.getD_eq_getElem?_getD]
    cases e : gs[i]? with
    | none => rw [List.getD_eq_getElem?_getD, e] at n; exact absurd rfl n
    | some t => rfl
  exact ⟨_, rel.2 i _ e n, post_sh ok (Le.refl _) (sh_of (ts := []) kk s) rel (Same.refl _ _) h⟩
theorem snd_var_b {i : Nat} {x : Str} (hN : X.N[i]? = some x) (hv : Vis X.env.scope x) (hd : (x == ("__debug__" : Str)) = false) (hcd : (x == ("__classdict__" : Str)) = false) : PE X (.Name x pos) (tB G C W (.var i)) := by
  refine (pe_var hN hv hd hcd).imp fun σ H Q ⟨gs, Rm, Hf, ok, rel, h⟩ => ?_
  have h : PostB G W (.var i) (match getPl (.v i) (gs.map er) with | .un => .no | o => .ok o (gs.map er)) (eff (.var i)) σ gs Rm Hf Q := h
  have kk := ok.at (i := i)
  have n : gs.getD i .un ≠ .un := fun e => by
    rw [show getPl (.v i) (gs.map er) = (gs.map er).getD i .un from rfl, getD_map, e] at h
    exact h
  have e : gs[i]? = some (gs.getD i .un) := by
    rw [List.getD_eq_getElem?_getD]
    cases e : gs[i]? with
    | none => rw [List.getD_eq_getElem?_getD, e] at n; exact absurd rfl n
    | some t => rfl
  refine ⟨_, rel.2 i _ e n, ?_⟩
  have h2 : PostB G W (.var i) (.ok (gs.getD i .un).er (gs.map er)) (eff (.var i)) σ gs Rm Hf Q := by
    rw [show getPl (.v i) (gs.map er) = (gs.map er).getD i .un from rfl, getD_map] at h
    split at h
    · exact h.elim
    · exact h
  exact h2 H Hf (gs.getD i .un) gs [] n (Le.refl _) ok kk (.inr ⟨rfl, _, rfl, rfl⟩) rfl rfl rel (Same.refl _ _)
theorem snd_glb {x : Str} {g : Nat} {v : V} {u : Value} {d : D} (hg : Gl X x) (hm : X.mg x = some u) (r : RelV v u) (hd : (x == ("__debug__" : Str)) = false) (hc : C.glb g = some d) (hr : ∀ Hf, Rp G Hf v d) : PE X (.Name x pos) (tE G C W (.glb g)) := by
  refine (pe_glob hg hm r hd).imp fun σ H Q ⟨gs, Rm, Hf, ok, rel, h⟩ => ?_
  rw [ev, hc] at h
  exact post_sh ok (Le.refl _) (.dat (hr Hf)) rel (Same.refl _ _) h

theorem snd_and (ha : PE X pa (tE G C W a)) {rest : List Expr} (hb : PE X (.BoolOp .And (pb :: rest) pos) (tE G C W b)) : PE X (.BoolOp .And (pa :: pb :: rest) pos) (tE G C W (.and a b)) := by
  refine (pe_and ha hb).imp fun σ H Q ⟨gs, Rm, Hf, ok, rel, h⟩ => ?_
  rw [ev, eff] at h
  refine test_e (K := fun c H1 => if c = true then tE G C W b σ H1 Q else Q (.bl false) H1) ok rel h (fun H2 Hf2 gs2 h le ok2 rel2 sm => ?_) fun H2 Hf2 gs2 h le ok2 rel2 sm => ?_
  · exact ⟨gs2, Rm, Hf2, ok2, rel2, h.back le sm (fun q hq => List.mem_append_left _ hq) fun q hq => List.mem_append_right _ hq⟩
  · exact post_sh ok2 le (.dat (.bl false)) rel2 (sm.weak fun q hq => List.mem_append_left _ hq) h
theorem snd_or (ha : PE X pa (tE G C W a)) {rest : List Expr} (hb : PE X (.BoolOp .Or (pb :: rest) pos) (tE G C W b)) : PE X (.BoolOp .Or (pa :: pb :: rest) pos) (tE G C W (.or a b)) := by
  refine (pe_or ha hb).imp fun σ H Q ⟨gs, Rm, Hf, ok, rel, h⟩ => ?_
  rw [ev, eff] at h
  refine test_e (K := fun c H1 => if c = true then Q (.bl true) H1 else tE G C W b σ H1 Q) ok rel h (fun H2 Hf2 gs2 h le ok2 rel2 sm => ?_) fun H2 Hf2 gs2 h le ok2 rel2 sm => ?_
  · exact post_sh ok2 le (.dat (.bl true)) rel2 (sm.weak fun q hq => List.mem_append_left _ hq) h
  · exact ⟨gs2, Rm, Hf2, ok2, rel2, h.back le sm (fun q hq => List.mem_append_left _ hq) fun q hq => List.mem_append_right _ hq⟩
theorem snd_andW (ha : PT X pa (tT G C W a)) {rest : List Expr} (hb : PW X (.BoolOp .And (pb :: rest) pos) (tT G C W b)) : PW X (.BoolOp .And (pa :: pb :: rest) pos) (tT G C W (.and a b)) := by
  have w := pw_and ha hb
  refine ⟨fun whole pins s σ H Q I ⟨gs, Rm, Hf, ok, rel, h⟩ => w.run whole pins s σ H Q I ?_⟩
  rw [ev, eff] at h
  refine test_e (K := fun c H1 => if c = true then tT G C W b σ H1 Q else Q false H1) ok rel h (fun H2 Hf2 gs2 h le ok2 rel2 sm => ?_) fun H2 Hf2 gs2 h le ok2 rel2 sm => ?_
  · exact ⟨gs2, Rm, Hf2, ok2, rel2, h.back le sm (fun q hq => List.mem_append_left _ hq) fun q hq => List.mem_append_right _ hq⟩
  · obtain ⟨c, e, q⟩ := post_sh ok2 le (.dat (.bl false)) rel2 (sm.weak fun q hq => List.mem_append_left _ hq) h
    cases e
    exact q
theorem snd_orW (ha : PT X pa (tT G C W a)) {rest : List Expr} (hb : PW X (.BoolOp .Or (pb :: rest) pos) (tT G C W b)) : PW X (.BoolOp .Or (pa :: pb :: rest) pos) (tT G C W (.or a b)) := by
  have w := pw_or ha hb
  refine ⟨fun whole pins s σ H Q I ⟨gs, Rm, Hf, ok, rel, h⟩ => w.run whole pins s σ H Q I ?_⟩
  rw [ev, eff] at h
  refine test_e (K := fun c H1 => if c = true then Q true H1 else tT G C W b σ H1 Q) ok rel h (fun H2 Hf2 gs2 h le ok2 rel2 sm => ?_) fun H2 Hf2 gs2 h le ok2 rel2 sm => ?_
  · obtain ⟨c, e, q⟩ := post_sh ok2 le (.dat (.bl true)) rel2 (sm.weak fun q hq => List.mem_append_left _ hq) h
    cases e
    exact q
  · exact ⟨gs2, Rm, Hf2, ok2, rel2, h.back le sm (fun q hq => List.mem_append_left _ hq) fun q hq => List.mem_append_right _ hq⟩
/-- not: the semantics by a test -/
theorem not_post {σ : L2.St} {H : Hp} {Q : VK} (h0 : tE G C W (.not a) σ H Q) : tT G C W a σ H fun c H1 => Q (.bl (!c)) H1 := by
  obtain ⟨gs, Rm, Hf, ok, rel, h⟩ := h0
  rw [ev, eff] at h
  have h : PostV G W ((ev C a (gs.map er)).bind fun x s => match x with | .dat (.bool true) => .ok (.dat (.bool false)) s | .dat (.bool false) => .ok (.dat (.bool true)) s | _ => .no) (eff a) σ gs Rm Hf Q := by
    refine cast ?_ h
    congr 2
    funext x s
    cases x with
    | dat d => cases d with
      | bool b => cases b <;> rfl
      | _ => rfl
    | _ => rfl
  refine test_e ok rel h (fun H2 Hf2 gs2 h le ok2 rel2 sm => ?_) fun H2 Hf2 gs2 h le ok2 rel2 sm => ?_
  · exact post_sh ok2 le (.dat (.bl false)) rel2 sm h
  · exact post_sh ok2 le (.dat (.bl true)) rel2 sm h
theorem snd_not (ha : PE X pa (tE G C W a)) : PE X (.UnaryOp .Not pa pos) (tE G C W (.not a)) := (pe_not ha).imp fun σ H Q h => not_post h
theorem snd_notT (ha : PT X pa (tT G C W a)) : PT X (.UnaryOp .Not pa pos) (tT G C W (.not a)) := by
  refine (pt_not ha).imp fun σ H Q h => ?_
  have h := not_post h
  obtain ⟨gs, Rm, Hf, ok, rel, h⟩ := h
  refine ⟨gs, Rm, Hf, ok, rel, h.weakR fun v H ⟨b, e, c, e2, q⟩ => ⟨b, e, ?_⟩⟩
  cases e2
  exact q
theorem snd_ife (hc : PT X pc (tT G C W c)) (ha : PE X pa (tE G C W a)) (hb : PE X pb (tE G C W b)) : PE X (.IfExp pc pa pb pos) (tE G C W (.ife c a b)) := by
  refine (pe_ifExp hc ha hb).imp fun σ H Q ⟨gs, Rm, Hf, ok, rel, h⟩ => ?_
  rw [ev, eff] at h
  refine test_e (K := fun c H1 => if c = true then tE G C W a σ H1 Q else tE G C W b σ H1 Q) ok rel h (fun H2 Hf2 gs2 h le ok2 rel2 sm => ?_) fun H2 Hf2 gs2 h le ok2 rel2 sm => ?_
  · exact ⟨gs2, Rm, Hf2, ok2, rel2, h.back le sm (fun q hq => by simp [hq]) fun q hq => by simp [hq]⟩
  · exact ⟨gs2, Rm, Hf2, ok2, rel2, h.back le sm (fun q hq => by simp [hq]) fun q hq => by simp [hq]⟩
/-- is None -/
theorem none_rt {H Hf : Hp} {t : Gt} (k : OkT G H Hf t) (n : t ≠ .un) : (match t.er with | .dat .none => true | _ => false) = decide (t.rt = .non) := by
  cases k with
  | un => exact absurd rfl n
  | sh r =>
    cases r with
    | dat r => cases r <;> rfl
    | _ => rfl
  | _ => rfl
theorem snd_isn {j : Nat} {p' : Pos} (ha : PE X pa (tB G C W a)) : PE X (.Compare pa [.Is] [.Constant .none j p'] pos) (tE G C W (.isn a)) := by
  refine (pe_cmp (pc_isN ha)).imp fun σ H Q ⟨gs, Rm, Hf, ok, rel, h⟩ => ?_
  rw [ev, eff] at h
  refine one_b ok rel h fun H2 Hf2 t gs2 h n le ok2 k rel2 sm => ?_
  rw [← none_rt k n]
  exact post_sh ok2 le (.dat (.bl _)) rel2 sm h
theorem snd_notn {j : Nat} {p' : Pos} (ha : PE X pa (tB G C W a)) : PE X (.Compare pa [.IsNot] [.Constant .none j p'] pos) (tE G C W (.notn a)) := by
  refine (pe_cmp (pc_notN ha)).imp fun σ H Q ⟨gs, Rm, Hf, ok, rel, h⟩ => ?_
  rw [ev, eff] at h
  refine one_b ok rel h fun H2 Hf2 t gs2 h n le ok2 k rel2 sm => ?_
  rw [← none_rt k n]
  have e : (match t.er with | .dat .none => false | _ => true) = !(match t.er with | .dat .none => true | _ => false) := by
    split <;> rfl
  have h : PostV G W (.ok (.dat (.bool (match t.er with | .dat .none => false | _ => true))) (gs2.map er)) (eff a) σ gs Rm Hf Q := h
  rw [e] at h
  exact post_sh ok2 le (.dat (.bl _)) rel2 sm h
theorem snd_isnT {j : Nat} {p' : Pos} (ha : PE X pa (tB G C W a)) : PT X (.Compare pa [.Is] [.Constant .none j p'] pos) (tT G C W (.isn a)) := by
  refine (pt_cmp (pc_isN ha)).imp fun σ H Q ⟨gs, Rm, Hf, ok, rel, h⟩ => ?_
  rw [ev, eff] at h
  refine one_b ok rel h fun H2 Hf2 t gs2 h n le ok2 k rel2 sm => ?_
  rw [← none_rt k n]
  exact post_sh ok2 le (.dat (.bl _)) rel2 sm h
theorem snd_notnT {j : Nat} {p' : Pos} (ha : PE X pa (tB G C W a)) : PT X (.Compare pa [.IsNot] [.Constant .none j p'] pos) (tT G C W (.notn a)) := by
  refine (pt_cmp (pc_notN ha)).imp fun σ H Q ⟨gs, Rm, Hf, ok, rel, h⟩ => ?_
  rw [ev, eff] at h
  refine one_b ok rel h fun H2 Hf2 t gs2 h n le ok2 k rel2 sm => ?_
  rw [← none_rt k n]
  have e : (match t.er with | .dat .none => false | _ => true) = !(match t.er with | .dat .none => true | _ => false) := by
    split <;> rfl
  have h : PostV G W (.ok (.dat (.bool (match t.er with | .dat .none => false | _ => true))) (gs2.map er)) (eff a) σ gs Rm Hf _ := h
  rw [e] at h
  exact post_sh ok2 le (.dat (.bl _)) rel2 sm h

/-! ### fields -/
section
variable {H Hf : Hp} {σ : L2.St} {gs Rm : List Gt}
theorem fnm_beq {G : Gx} {n x : Nat} (h1 : n < G.nf) (h2 : x < G.nf) : (G.fnm x == G.fnm n) = (x == n) := by
  by_cases e : x = n
  · subst e; simp
  · have : G.fnm x ≠ G.fnm n := fun z => e (G.inj _ _ h2 h1 z)
    rw [beq_eq_false_iff_ne.mpr this, beq_eq_false_iff_ne.mpr e]
theorem OkTs.fld {c x : Nat} {fs : List (Nat × Gt)} (k : OkTs G H Hf c fs) (n : lkT fs x ≠ .un) : FOk G c x ∧ (fs.map fun p => (G.fnm p.1, p.2.rt)).lookup (G.fnm x) = some (lkT fs x).rt := by
  induction fs with
  | nil => exact absurd rfl n
  | cons p r ih =>
    obtain ⟨m, t⟩ := p
    cases k with
    | cons f1 f2 f3 f4 =>
      unfold lkT at n ih ⊢
      rw [List.lookup] at n ⊢
      rw [List.map_cons, List.lookup]
      by_cases e : x = m
      · subst e
        simp only [beq_self_eq_true]
        exact ⟨f1, rfl⟩
      · simp only [beq_eq_false_iff_ne.mpr e] at n ⊢
        obtain ⟨h1, h2⟩ := ih f4 n
        rw [fnm_beq f1.1 h1.1, beq_eq_false_iff_ne.mpr e]
        exact ⟨h1, h2⟩
theorem fin_fld {c x : Nat} : ∀ {fs : List (Nat × O)} {vs : List V}, (∀ p ∈ fs, FOk G c p.1) → vs.length = fs.length → (∀ (i : Nat) (p : Nat × O) (v : V), fs[i]? = some p → vs[i]? = some v → RpO G H v p.2) → alook fs x ≠ .un →
    ∃ v, FOk G c x ∧ ((fs.map fun p => G.fnm p.1).zip vs).lookup (G.fnm x) = some v ∧ RpO G H v (alook fs x)
  | [], _, _, _, _, n => absurd rfl n
  | (m, o) :: r, [], _, e, _, _ => by cases e
  | (m, o) :: r, v :: vs, f, e, k, n => by
    have f1 := f _ (.head _)
    unfold alook at n ⊢
    rw [List.lookup] at n ⊢
    rw [List.map_cons, List.zip_cons_cons, List.lookup]
    by_cases q : x = m
    · subst q
      simp only [beq_self_eq_true]
      exact ⟨v, f1, rfl, k 0 _ _ rfl rfl⟩
    · simp only [beq_eq_false_iff_ne.mpr q] at n ⊢
      obtain ⟨u, h1, h2, h3⟩ := fin_fld (x := x) (fun p hp => f p (.tail _ hp)) (by simpa using e) (fun i p v a b => k (i + 1) p v (by simpa using a) (by simpa using b)) (show alook r x ≠ .un from n)
      rw [fnm_beq f1.1 h1.1, beq_eq_false_iff_ne.mpr q]
      exact ⟨u, h1, h2, h3⟩
/-- a field of what a tree is -/
theorem OkT.fld {t : Gt} {x : Nat} (l : Le Hf H) (k : OkT G H Hf t) (n : fldO t.er x ≠ .un) : ∃ a C dx fs v, t.rt = .ref a ∧ H a = some (.ins C dx fs) ∧ Cls G.K C ∧ NoAttr G.K C (G.fnm x) ∧ fs.lookup (G.fnm x) = some v ∧
    ((∃ b db c gs, t = .ins b db c gs ∧ (lkT gs x).rt = v ∧ lkT gs x ≠ .un ∧ OkT G H Hf (lkT gs x)) ∨ RpO G Hf v (fldO t.er x)) := by
  cases k with
  | un => exact absurd rfl n
  | lst => exact absurd rfl n
  | dK => exact absurd rfl n
  | dT => exact absurd rfl n
  | sh r =>
    cases r with
    | dat => exact absurd rfl n
    | tpo => exact absurd rfl n
    | fin h1 h2 h3 h4 h5 h6 =>
      obtain ⟨v, f1, f2, f3⟩ := fin_fld h4 h5 h6 n
      exact ⟨_, _, _, _, v, rfl, l _ _ h1, h3, f1.2, f2, .inr f3⟩
  | ins h1 h2 h3 h4 =>
    rename_i a dx c fs
    have e : fldO (Gt.ins a dx c fs).er x = (lkT fs x).er := er_lk x fs
    have n2 : lkT fs x ≠ .un := fun z => n (by rw [e, z]; rfl)
    obtain ⟨f1, f2⟩ := h4.fld n2
    exact ⟨_, _, _, _, _, rfl, h1, h3, f1.2, f2, .inl ⟨_, _, _, _, rfl, rfl, n2, h4.look x⟩⟩
end
theorem shared_ne {o : O} (h : o.shared = true) : o ≠ .un := fun e => by subst e; cases h
theorem snd_fld (gx : GX G X) {x : Nat} (ha : PE X pa (tB G C W a)) (hb : attributeBase pa (G.fnm x) X.env (eval pa X.env) = eval pa X.env) : PE X (.Attribute pa (G.fnm x) pos) (tE G C W (.fld a x)) := by
  refine (pe_fld ha hb).imp fun σ H Q ⟨gs, Rm, Hf, ok, rel, h⟩ => ?_
  rw [ev, eff] at h
  rw [gx.k]
  refine one_b ok rel h fun H2 Hf2 t gs2 h n le ok2 k rel2 sm => ?_
  obtain ⟨s, h⟩ := h.shd
  obtain ⟨a, C, dx, fs, v, e1, e2, e3, e4, e5, e6⟩ := k.fld ok2.le (shared_ne s)
  refine ⟨a, C, dx, fs, v, e1, e2, e3, e4, e5, ?_⟩
  rcases e6 with ⟨b, db, c, fs', rfl, e7, _, kk⟩ | r
  · have e8 : fldO (Gt.ins b db c fs').er x = (lkT fs' x).er := er_lk x fs'
    rw [e8] at s h
    rw [← e7]
    exact post_sh ok2 le (sh_of (ts := []) kk s) rel2 sm h
  · exact post_sh ok2 le r rel2 sm h
/-- a field of a local instance, borrowed -/
theorem snd_fld_b (gx : GX G X) {i x : Nat} (ha : PE X pa (tB G C W (.var i))) (hb : attributeBase pa (G.fnm x) X.env (eval pa X.env) = eval pa X.env) : PE X (.Attribute pa (G.fnm x) pos) (tB G C W (.fld (.var i) x)) := by
  refine (pe_fld ha hb).imp fun σ H Q ⟨gs, Rm, Hf, ok, rel, h⟩ => ?_
  have h : PostB G W (.fld (.var i) x) (match getPl (.f i x) (gs.map er) with | .un => .no | o => .ok o (gs.map er)) (eff (.fld (.var i) x)) σ gs Rm Hf Q := h
  have hn : fldO (gs.getD i .un).er x ≠ .un := fun e => by
    rw [show getPl (.f i x) (gs.map er) = fldO ((gs.map er).getD i .un) x from rfl, getD_map, e] at h
    exact h
  have h2 : PostB G W (.fld (.var i) x) (.ok (fldO (gs.getD i .un).er x) (gs.map er)) (eff (.fld (.var i) x)) σ gs Rm Hf Q := by
    rw [show getPl (.f i x) (gs.map er) = fldO ((gs.map er).getD i .un) x from rfl, getD_map] at h
    split at h
    · exact h.elim
    · exact h
  have n : gs.getD i .un ≠ .un := fun e => by rw [e] at hn; exact hn rfl
  rw [gx.k]
  refine ⟨gs, Rm, Hf, ok, rel, ?_⟩
  have e0 : bor (.var i) (gs.map er) (ev C (.var i) (gs.map er)) = .ok (gs.getD i .un).er (gs.map er) := by
    show (match (gs.map er).getD i .un with | .un => R.no | o => .ok o (gs.map er)) = _
    rw [getD_map]
    cases e : (gs.getD i .un).er with
    | un => rw [e] at hn; exact absurd rfl hn
    | _ => rfl
  rw [e0]
  intro H' Hf' t gs' T nt le ok' kt pl et es rel' sm
  have sm0 := sm.nil
  subst sm0
  have e1 : t.er = (gs'.getD i .un).er := et
  rw [← e1] at h2 hn
  obtain ⟨a, C, dx, fs, v, d1, d2, d3, d4, d5, d6⟩ := kt.fld ok'.le hn
  refine ⟨a, C, dx, fs, v, d1, d2, d3, d4, d5, ?_⟩
  rcases d6 with ⟨b, db, c, fs', rfl, e7, e8, kk⟩ | r
  · have e9 : fldO (Gt.ins b db c fs').er x = (lkT fs' x).er := er_lk x fs'
    rw [e9] at h2
    rw [← e7]
    rcases pl with ⟨rfl, hp | ⟨v', o', hp⟩⟩ | ⟨rfl, p, hp, hg⟩
    · cases hp
    · cases hp
    · cases hp
      exact h2 H' Hf' (lkT fs' x) gs' [] e8 le ok' kk (.inr ⟨rfl, _, rfl, getT_f hg⟩) rfl rfl rel' (Same.refl _ _)
  · exact h2 H' Hf' (.sh v (fldO t.er x)) gs' [.sh v (fldO t.er x)] (fun e => by cases e) le (ok'.sub ((List.Sublist.refl _).append (List.sublist_append_right T Rm)) |>.sh r |>.perm List.perm_middle) (.sh r) (.inl ⟨rfl, .inr ⟨_, _, rfl⟩⟩) rfl rfl rel' (Same.refl _ _)
end
end Lw

set_option autoImplicit false
set_option linter.all false
set_option Elab.async false
set_option maxRecDepth 100000
set_option maxHeartbeats 1000000
/-! LSnd7: arguments, displays, subscripts, slices, built-in functions. -/
namespace Lw
open PySem PySem.Spec PyProof.Rows L2
open Gt

section
variable {G : Gx} {C : Cf} {W : WX} {σ : L2.St} {gs gs' Rm : List Gt} {H Hf H' Hf' : Hp} {l : List Pl} {Q : VK}
theorem sh_mem {v : V} {o : O} {ts : List Gt} (ok : Ok G H Hf ts) (m : Gt.sh v o ∈ ts) : RpO G Hf v o := by
  cases ok.ok _ m with
  | sh r => exact r
/-- a value is frozen and stays as a shared one -/
theorem Ok.fzs {t : Gt} (ok : Ok G H Hf (t :: (gs ++ Rm))) (n : t ≠ .un) : ∃ Hg, Le Hf Hg ∧ Ok G H Hg (gs ++ ([.sh t.rt (fz t.er)] ++ Rm)) ∧ RpO G Hg t.rt (fz t.er) := by
  obtain ⟨Hg, l, ok2⟩ := ok.freeze n
  exact ⟨Hg, l, ok2.perm (List.perm_middle (l₁ := gs) (l₂ := Rm)), sh_mem ok2 (.head _)⟩
theorem rpO_d {v : V} {o : O} {d : D} (r : RpO G Hf v o) (e : o.d? = some d) : Rp G Hf v d := by
  cases r with
  | dat r => cases e; exact r
  | _ => cases e
theorem rps_of : ∀ {vs : List V} {os : List O} {ds : List D}, Paired (RpO G Hf) vs os → dsOf os = some ds → Rps G Hf vs ds
  | _, _, _, .nil, e => by cases e; exact .nil
  | _, _, _, .cons (b := o) (l₂ := os) r rs, e => by
    unfold dsOf at e
    cases e1 : o.d? with
    | none => rw [e1] at e; cases e
    | some d =>
      cases e2 : dsOf os with
      | none => rw [e1, e2] at e; cases e
      | some ds =>
        rw [e1, e2] at e
        cases e
        exact .cons (rpO_d r e1) (rps_of rs e2)
theorem evs_len (C : Cf) : ∀ (es : List E) (s : St) (os : List O) (s' : St), evs C es s = .ok os s' → os.length = es.length
  | [], _, _, _, e => by rw [evs] at e; cases e; rfl
  | a :: es, s, os, s', e => by
    rw [evs] at e
    cases e1 : ev C a s with
    | ok o s1 =>
      rw [e1] at e
      cases e2 : evs C es s1 with
      | ok os2 s2 =>
        have e : R.bind (evs C es s1) (fun os s => R.ok (fz o :: os) s) = .ok os s' := e
        rw [e2] at e
        cases e
        rw [List.length_cons, List.length_cons, evs_len C es s1 os2 _ e2]
      | exc c p s2 =>
        have e : R.bind (evs C es s1) (fun os s => R.ok (fz o :: os) s) = .ok os s' := e
        rw [e2] at e; cases e
      | no =>
        have e : R.bind (evs C es s1) (fun os s => R.ok (fz o :: os) s) = .ok os s' := e
        rw [e2] at e; cases e
    | exc c p s1 => rw [e1] at e; cases e
    | no => rw [e1] at e; cases e
end

section
variable {G : Gx} {C : Cf} {W : WX} {X : Cx} {pa pb pc : Expr} {pes : List Expr} {a b c : E} {es : List E} {pos : Pos}
theorem snd_pa_nil : PA X [] (tEs G C W []) := by
  refine pa_nil.imp fun σ H Q ⟨gs, Rm, Hf, ok, rel, h⟩ => ?_
  rw [evs] at h
  exact h H Hf [] gs (Le.refl _) ok .nil rfl rel (Same.refl _ _)
theorem snd_pa_cons (ha : PE X pa (tE G C W a)) (hr : PA X pes (tEs G C W es)) (hs : starEach (pa :: pes) X.env = (false, eval pa X.env) :: starEach pes X.env) : PA X (pa :: pes) (tEs G C W (a :: es)) := by
  refine (pa_cons ha hr hs).imp fun σ H Q ⟨gs, Rm, Hf, ok, rel, h⟩ => ?_
  rw [evs, effs] at h
  refine ⟨gs, Rm, Hf, ok, rel, PostV.mk pk_vs h fun H1 Hf1 t gs1 h n le1 ok1 rel1 sm1 => ?_⟩
  obtain ⟨Hg, lg, okg, _⟩ := ok1.fzs n
  refine ⟨gs1, _, Hg, okg, rel1, PostVs.mk (pk_vs.more (le1.trans lg)) h fun H2 Hf2 vs os gs2 e2 h le2 ok2 pr rel2 sm2 => ?_⟩
  exact h H2 Hf2 (t.rt :: vs) gs2 ((le1.trans lg).trans le2) ok2.tailR (.cons (sh_mem ok2 (by simp)) pr) rfl rel2 (sm1.trans sm2)
/-- arguments, then what is made of them -/
theorem args_e {σ : L2.St} {H : Hp} {Q : VK} {gs Rm : List Gt} {Hf : Hp} {k : List O → St → R O} {K : List V → Hp → Prop} (ok : Ok G H Hf (gs ++ Rm)) (rel : Rel σ gs) {l : List Pl} (h : PostV G W ((evs C es (gs.map er)).bind k) l σ gs Rm Hf Q)
    (hk : ∀ (H2 Hf2 : Hp) (vs : List V) (os : List O) (gs2 : List Gt), os.length = es.length → PostV G W (k os (gs2.map er)) l σ gs Rm Hf Q → Le Hf Hf2 → Ok G H2 Hf2 (gs2 ++ Rm) → Paired (RpO G Hf2) vs os → Rel σ gs2 → Same (effs es) gs gs2 → K vs H2) : tEs G C W es σ H K :=
  ⟨gs, Rm, Hf, ok, rel, PostVs.mk pk_v h fun H2 Hf2 vs os gs2 e h le ok2 pr rel2 sm => hk H2 Hf2 vs os gs2 (evs_len C es _ _ _ e) h le ok2 pr rel2 sm⟩
theorem snd_tup {x1 : Nat} (ha : PA X pes (tEs G C W es)) (hz : es.length ≤ sizeLine) : PE X (.Tuple pes x1 pos) (tE G C W (.tup es)) := by
  refine (pe_tup ha).imp fun σ H Q ⟨gs, Rm, Hf, ok, rel, h⟩ => ?_
  rw [ev, eff] at h
  refine args_e ok rel h fun H2 Hf2 vs os gs2 hl h le ok2 pr rel2 sm => ?_
  refine ⟨by rw [Paired.length pr, hl]; exact hz, fun p hp => ?_⟩
  unfold mkTup at h
  obtain ⟨l2, ok3⟩ := ok2.newS (ob := .tup vs) hp
  cases e : dsOf os with
  | some ds =>
    simp only [e] at h
    exact post_sh ok3 (le.trans l2) (.dat (.tup (SqT.of upd_same) ((rps_of pr e).mono l2))) rel2 sm h
  | none =>
    simp only [e] at h
    refine post_sh ok3 (le.trans l2) (.tpo (SqT.of upd_same) (Paired.length pr) fun i o v e1 e2 => ?_) rel2 sm h
    obtain ⟨o', h1, h2⟩ := L2.paired_get pr e2
    rw [e1] at h1
    cases h1
    exact h2.mono l2
theorem snd_lst (ha : PA X pes (tEs G C W es)) (hz : es.length ≤ sizeLine) : PE X (.List pes pos) (tE G C W (.lst es)) := by
  refine (pe_lst ha).imp fun σ H Q ⟨gs, Rm, Hf, ok, rel, h⟩ => ?_
  rw [ev, eff] at h
  refine args_e ok rel h fun H2 Hf2 vs os gs2 hl h le ok2 pr rel2 sm => ?_
  refine ⟨by rw [Paired.length pr, hl]; exact hz, fun p hp => ?_⟩
  have h := h.toO le rel2 sm
  cases e : dsOf os with
  | none => rw [e] at h; exact h.elim
  | some ds => rw [e] at h; exact h.lst ok2 (Le.refl _) hp (rps_of pr e)
theorem snd_dct0 : PE X (.Dict [] [] pos) (tE G C W (.dct [])) := by
  refine pe_dnewK.imp fun σ H Q ⟨gs, Rm, Hf, ok, rel, h⟩ => ?_
  rw [ev, evs] at h
  intro p hp
  have h : PostV G W (ofO (some (.dct [])) (gs.map er)) (eff (.dct [])) σ gs Rm Hf Q := h
  have h := h.toO (Le.refl _) rel (Same.refl _ _)
  exact h _ Hf (.dK p [] []) (fun e => by cases e) (Le.refl _) (ok.new hp (.dK upd_same .nil) rfl) rfl

/-- a borrowed value, then another one -/
theorem two_be {σ : L2.St} {H : Hp} {Q : VK} {gs Rm : List Gt} {Hf : Hp} {k : O → O → St → R O} {K : V → V → Hp → Prop} (ok : Ok G H Hf (gs ++ Rm)) (rel : Rel σ gs) (sp : sep a (eff b) = true)
    (h : PostV G W ((bor a (gs.map er) (ev C a (gs.map er))).bind fun x s => (ev C b s).bind fun y s => k x y s) (eff a ++ eff b) σ gs Rm Hf Q)
    (hk : ∀ (H2 Hf2 : Hp) (t1 t2 : Gt) (gs2 : List Gt), PostV G W (k t1.er t2.er (gs2.map er)) (eff a ++ eff b) σ gs Rm Hf Q → t1 ≠ .un → Le Hf Hf2 → Ok G H2 Hf2 (gs2 ++ Rm) → OkT G H2 Hf2 t1 → RpO G Hf2 t2.rt (fz t2.er) → Rel σ gs2 → Same (eff a ++ eff b) gs gs2 → K t1.rt t2.rt H2) :
    Lw.tB G C W a σ H fun x H1 => Lw.tE G C W b σ H1 fun y H2 => K x y H2 := by
  refine ⟨gs, Rm, Hf, ok, rel, PostB.mk pk_v h fun H1 Hf1 t1 gs1 T1 h n1 le1 ok1 he1 rel1 sm1 => ?_⟩
  refine ⟨gs1, T1 ++ Rm, Hf1, ok1, rel1, PostV.mk (pk_v.more le1) h fun H2 Hf2 t2 gs2 h n2 le2 ok2 rel2 sm2 => ?_⟩
  obtain ⟨Hg, lg, okg, r2⟩ := ok2.fzs n2
  have he1 := he1.next okg sm2 sp
  exact hk H2 Hg t1 t2 gs2 h n1 ((le1.trans le2).trans lg) okg.tailR.tailR he1.1 r2 rel2 (sm1.trans sm2)
theorem snd_idx (gx : GX G X) (hu : X.A.units + 150 < cLine) (ha : PE X pa (tB G C W a)) (hb : PE X pb (tE G C W b)) (sp : sep a (eff b) = true) (hs : PlainIx pb) : PE X (.Subscript pa pb pos) (tE G C W (.idx a b)) := by
  refine (pe_ix (IxR.or (ix_data gx hu) ix_tup) ha hb hs).imp fun σ H Q ⟨gs, Rm, Hf, ok, rel, h⟩ => ?_
  rw [ev, eff] at h
  refine two_be ok rel sp h fun H2 Hf2 t1 t2 gs2 h n1 le ok2 k1 r2 rel2 sm => ?_
  have h := h.toO le rel2 sm
  cases e2 : (fz t2.er).d? with
  | none => rw [e2] at h; exact h.elim
  | some k =>
    rw [e2] at h
    have h : PostO G Hf2 (gs2 ++ Rm) (idxO t1.er k) Q := h
    have q2 := rpO_d r2 e2
    have dd : ∀ d, t1.er.d? = some d → PostO G Hf2 (gs2 ++ Rm) ((idxD d k).map .dat) Q → rK G (fun d e => (idxD d e).map .dat) t1.rt t2.rt H2 Q := fun d e h => ⟨d, k, Hf2, gs2 ++ Rm, ok2, k1.top ok2.le e, q2.top ok2.le, h⟩
    cases k1 with
    | un => exact absurd rfl n1
    | lst => exact .inl (dd _ rfl h)
    | dK => exact .inl (dd _ rfl h)
    | dT => exact .inl (dd _ rfl h)
    | ins => exact h.elim
    | sh r1 =>
      cases r1 with
      | dat => exact .inl (dd _ rfl h)
      | fin => exact h.elim
      | @tpo a vs xs s1 s2 s3 =>
        cases k with
        | int i =>
          have hr : t2.rt = .int i := by
            generalize t2.rt = v at q2
            cases q2; rfl
          have h : PostO G Hf2 (gs2 ++ Rm) ((ixN xs.length i).bind fun j => xs[j]?) Q := h
          cases e4 : ixN xs.length i with
          | none => rw [e4] at h; exact h.elim
          | some j =>
            rw [e4] at h
            have h : PostO G Hf2 (gs2 ++ Rm) (xs[j]?) Q := h
            cases e3 : xs[j]? with
            | none => rw [e3] at h; exact h.elim
            | some o =>
              rw [e3] at h
              have hj : j < vs.length := by rw [s2]; exact (List.getElem?_eq_some_iff.mp e3).1
              have e5 : vs[j]? = some vs[j] := List.getElem?_eq_getElem hj
              refine .inr ⟨_, _, i, vs[j], rfl, hr, gx.k ▸ ok2.le.sqT s1, ?_, h.sh ok2 (Le.refl _) (s3 j o _ e3 e5)⟩
              unfold atI
              rw [s2]
              show ((ixN xs.length i).bind fun j => vs[j]?) = _
              rw [e4]
              exact e5
        | _ => exact h.elim

/-! ### slices -/
/-- a slice's part -/
def tO (G : Gx) (C : Cf) (W : WX) (e : E) : TO := fun σ H Q => ∃ gs Rm Hf, Ok G H Hf (gs ++ Rm) ∧ Rel σ gs ∧ (match evo (ev C e (gs.map er)) with
  | .ok i s => ∀ (H' Hf' : Hp) (gs' : List Gt), Le Hf Hf' → Ok G H' Hf' (gs' ++ Rm) → gs'.map er = s → Rel σ gs' → Same (eff e) gs gs' → Q i H'
  | .exc c p s => ExcQ G W σ Rm Hf c p s
  | .no => False)
theorem snd_po_none : PO X none (tO G C W .nil) := by
  refine ⟨fun pins s σ H Q I ⟨gs, Rm, Hf, ok, rel, h⟩ => po_none.run pins s σ H Q I ?_⟩
  rw [ev] at h
  exact h H Hf gs (Le.refl _) ok rfl rel (Same.refl _ _)
theorem optI_some {o : O} {i : Option Int} (h : optI o = some i) (n : o ≠ .un) : ∃ j, i = some j ∧ o = .dat (.int j) := by
  cases o with
  | un => exact absurd rfl n
  | dat d => cases d <;> first | (cases h; exact ⟨_, rfl, rfl⟩) | cases h
  | _ => cases h
theorem er_un {t : Gt} {H Hf : Hp} (k : OkT G H Hf t) (n : t ≠ .un) : t.er ≠ .un := by
  cases k with
  | un => exact absurd rfl n
  | sh r => cases r <;> exact fun e => by cases e
  | _ => exact fun e => by cases e
theorem snd_po_some (ha : PE X pa (tE G C W a)) : PO X (some pa) (tO G C W a) := by
  have p := po_some ha
  refine ⟨fun pins s σ H Q I ⟨gs, Rm, Hf, ok, rel, h⟩ => p.run pins s σ H Q I ?_⟩
  refine ⟨gs, Rm, Hf, ok, rel, ?_⟩
  cases e : ev C a (gs.map er) with
  | no => rw [e] at h; exact h
  | exc c p s => rw [e] at h; exact h
  | ok o s =>
    rw [e] at h
    intro H' Hf' t gs' n le ok' et es rel' sm
    have kt := ok'.ok _ (.head _)
    cases e2 : optI o with
    | none =>
      have h : (match (match optI o with | some i => R.ok i s | none => R.no) with
        | .ok i s => ∀ (H' Hf' : Hp) (gs' : List Gt), Le Hf Hf' → Ok G H' Hf' (gs' ++ Rm) → gs'.map er = s → Rel σ gs' → Same (eff a) gs gs' → Q i H'
        | .exc c p s => ExcQ G W σ Rm Hf c p s
        | .no => False) := h
      rw [e2] at h; exact h.elim
    | some i =>
      have h : (match (match optI o with | some i => R.ok i s | none => R.no) with
        | .ok i s => ∀ (H' Hf' : Hp) (gs' : List Gt), Le Hf Hf' → Ok G H' Hf' (gs' ++ Rm) → gs'.map er = s → Rel σ gs' → Same (eff a) gs gs' → Q i H'
        | .exc c p s => ExcQ G W σ Rm Hf c p s
        | .no => False) := h
      rw [e2] at h
      rw [← et] at e2
      obtain ⟨j, rfl, e3⟩ := optI_some e2 (er_un kt n)
      refine ⟨j, ?_, h H' Hf' gs' le ok'.drop es rel' sm⟩
      have := kt.top ok'.le (d := .int j) (by rw [e3]; rfl)
      generalize t.rt = v at this
      cases this; rfl
theorem postO_mk {β : Type} {σ : L2.St} {gs Rm : List Gt} {Hf : Hp} {e : E} {k : Option Int → St → R β} {P : R β → Prop} {Q : Option Int → Hp → Prop} (kk : PostK G W σ Rm Hf P) (h : P ((evo (ev C e (gs.map er))).bind k))
    (hk : ∀ (H' Hf' : Hp) (i : Option Int) (gs' : List Gt), P (k i (gs'.map er)) → Le Hf Hf' → Ok G H' Hf' (gs' ++ Rm) → Rel σ gs' → Same (eff e) gs gs' → Q i H') :
    (match evo (ev C e (gs.map er)) with
      | .ok i s => ∀ (H' Hf' : Hp) (gs' : List Gt), Le Hf Hf' → Ok G H' Hf' (gs' ++ Rm) → gs'.map er = s → Rel σ gs' → Same (eff e) gs gs' → Q i H'
      | .exc c p s => ExcQ G W σ Rm Hf c p s
      | .no => False) := by
  cases e1 : evo (ev C e (gs.map er)) with
  | no => rw [e1] at h; exact kk.no h
  | exc c p s => rw [e1] at h; exact kk.ex c p s h
  | ok i s =>
    rw [e1] at h
    intro H' Hf' gs' le ok es rel sm
    subst es
    exact hk H' Hf' i gs' h le ok rel sm
theorem snd_slc (gx : GX G X) {plo phi : Option Expr} {lo hi : E} {p2 : Pos} (ha : PE X pa (tB G C W a)) (hl : PO X plo (tO G C W lo)) (hh : PO X phi (tO G C W hi)) (sp : sep a (eff lo ++ eff hi) = true) : PE X (.Subscript pa (.Slice plo phi none p2) pos) (tE G C W (.slc a lo hi)) := by
  refine (pe_slice (sl_data gx) ha hl hh).imp fun σ H Q ⟨gs, Rm, Hf, ok, rel, h⟩ => ?_
  rw [ev, eff] at h
  refine ⟨gs, Rm, Hf, ok, rel, PostB.mk pk_v h fun H1 Hf1 t1 gs1 T1 h n1 le1 ok1 he1 rel1 sm1 => ?_⟩
  refine ⟨gs1, T1 ++ Rm, Hf1, ok1, rel1, postO_mk (pk_v.more le1) h fun H2 Hf2 i gs2 h le2 ok2 rel2 sm2 => ?_⟩
  refine ⟨gs2, T1 ++ Rm, Hf2, ok2, rel2, postO_mk (pk_v.more (le1.trans le2)) h fun H3 Hf3 j gs3 h le3 ok3 rel3 sm3 => ?_⟩
  have he1 := he1.next (T2 := []) ok3 (sm2.trans sm3) sp
  cases e1 : t1.er.d? with
  | none => simp only [e1] at h; exact h.elim
  | some d =>
    simp only [e1] at h
    exact ⟨d, Hf3, gs3 ++ Rm, ok3.tailR, he1.1.top ok3.le e1, h.toO ((le1.trans le2).trans le3) rel3 (((sm1.trans sm2).trans sm3).weak fun q hq => by simpa using hq)⟩
theorem snd_rev (gx : GX G X) {k : Nat} {p1 p2 p3 : Pos} (ha : PE X pa (tB G C W a)) : PE X (.Subscript pa (.Slice none none (some (.UnaryOp .USub (.Constant (.int 1) k p1) p2)) p3) pos) (tE G C W (.rev a)) := by
  refine (pe_revL ha).imp fun σ H Q ⟨gs, Rm, Hf, ok, rel, h⟩ => ?_
  rw [ev, eff] at h
  refine one_b ok rel h fun H2 Hf2 t gs2 h n le ok2 k1 rel2 sm => ?_
  cases e1 : t.er.d? with
  | none => simp only [e1] at h; exact h.elim
  | some d =>
    simp only [e1] at h
    have h := h.toO le rel2 sm
    have r := k1.top ok2.le e1
    cases d <;> first | exact h.elim | skip
    generalize t.rt = v at r
    cases r with
    | lst s1 s2 => exact ⟨_, _, rfl, gx.k ▸ s1, fun p hp => h.lst ok2 (Le.refl _) hp s2.reverse⟩

/-! ### built-in functions -/
section
variable {x : Str} {p : Pos} {id T : String}
theorem post_u1 (f : Bi) {σ : L2.St} {H : Hp} {Q : VK} (h0 : tE G C W (.bi f [a]) σ H Q) : tB G C W a σ H fun y H1 => rU1 G (fun d => biD f [d]) [y] H1 Q := by
  obtain ⟨gs, Rm, Hf, ok, rel, h⟩ := h0
  rw [ev, eff, effs, effs, List.append_nil] at h
  refine one_b ok rel h fun H2 Hf2 t gs2 h n le ok2 k1 rel2 sm => ?_
  cases e1 : t.er.d? with
  | none => simp only [e1] at h; exact h.elim
  | some d =>
    simp only [e1, ofD_map] at h
    exact ⟨_, d, Hf2, gs2 ++ Rm, rfl, ok2, k1.top ok2.le e1, h.toO le rel2 sm⟩
/-- f(a), f a built-in function -/
theorem snd_bi1 (f : Bi) (hc : CallR X (.builtin id) (rU1 G fun d => biD f [d])) (hg : Gl X x) (hm : X.mg x = none) (hv : bootBuiltins x = some (.builtin id)) (ha : PE X pa (tB G C W a)) (hn : x ≠ "__name__") (hdb : (x == ("__debug__" : Str)) = false)
    (he : starEach [pa] X.env = (false, eval pa X.env) :: starEach [] X.env) (hpl : (backTo pos (starEach [] X.env)).any (·.1) = false) : PE X (.Call (.Name x p) [pa] [] pos) (tE G C W (.bi f [a])) :=
  (pe_callB hc hg hm hv (pa_cons ha pa_nil he) hn hdb he hpl).imp fun σ H Q h => post_u1 f h
theorem snd_biT1 (f : Bi) (hc : CallR X (.type T) (rU1 G fun d => biD f [d])) (hg : Gl X x) (hm : X.mg x = none) (hv : bootBuiltins x = some (.type T)) (ha : PE X pa (tB G C W a)) (hn : x ≠ "__name__") (hdb : (x == ("__debug__" : Str)) = false)
    (he : starEach [pa] X.env = (false, eval pa X.env) :: starEach [] X.env) (hpl : (backTo pos (starEach [] X.env)).any (·.1) = false) : PE X (.Call (.Name x p) [pa] [] pos) (tE G C W (.bi f [a])) :=
  (pe_callTy hc hg hm hv (pa_cons ha pa_nil he) hn hdb he hpl).imp fun σ H Q h => post_u1 f h
theorem post_us (f : Bi) {b c : E} {es : List E} {σ : L2.St} {H : Hp} {Q : VK} (h0 : tE G C W (.bi f (b :: c :: es)) σ H Q) : tEs G C W (b :: c :: es) σ H fun ys H1 => rUs G (biD f) ys H1 Q := by
  obtain ⟨gs, Rm, Hf, ok, rel, h⟩ := h0
  rw [ev, eff] at h
  · refine args_e ok rel h fun H2 Hf2 vs os gs2 hl h le ok2 pr rel2 sm => ?_
    cases e1 : dsOf os with
    | none => simp only [e1] at h; exact h.elim
    | some ds =>
      simp only [e1, ofD_map] at h
      exact ⟨ds, Hf2, gs2 ++ Rm, ok2, rps_of pr e1, h.toO le rel2 sm⟩
  · exact fun _ e => by cases e
theorem snd_bi2 (f : Bi) {b c : E} {es : List E} (hc : CallR X (.builtin id) (rUs G (biD f))) (hg : Gl X x) (hm : X.mg x = none) (hv : bootBuiltins x = some (.builtin id)) (ha : PA X (pa :: pes) (tEs G C W (b :: c :: es))) (hn : x ≠ "__name__") (hdb : (x == ("__debug__" : Str)) = false)
    (he : starEach (pa :: pes) X.env = (false, eval pa X.env) :: starEach pes X.env) (hpl : (backTo pos (starEach pes X.env)).any (·.1) = false) : PE X (.Call (.Name x p) (pa :: pes) [] pos) (tE G C W (.bi f (b :: c :: es))) :=
  (pe_callB hc hg hm hv ha hn hdb he hpl).imp fun σ H Q h => post_us f h
/-- a function that a module gave -/
theorem snd_biF (f : Bi) {b c : E} {es : List E} (hc : CallR X (.builtin id) (rUs G (biD f))) (hg : Gl X x) (hm : X.mg x = some (.builtin id)) (ha : PA X (pa :: pes) (tEs G C W (b :: c :: es))) (hdb : (x == ("__debug__" : Str)) = false)
    (he : starEach (pa :: pes) X.env = (false, eval pa X.env) :: starEach pes X.env) (hpl : (backTo pos (starEach pes X.env)).any (·.1) = false) : PE X (.Call (.Name x p) (pa :: pes) [] pos) (tE G C W (.bi f (b :: c :: es))) :=
  (pe_callBfun hc hg hm ha hdb he hpl).imp fun σ H Q h => post_us f h
/-- isinstance(a, T) -/
def rIsi (G : Gx) (t : Ty) : List V → Hp → VK → Prop := fun xs H Q => ∃ (x : V) (d : D) (Hf : Hp) (ts : List Gt), xs = [x, .ty t.py] ∧ Ok G H Hf ts ∧ RpT G H Hf x d ∧ Q (.bl (isiD t d)) H
theorem call_isi (gx : GX G X) (t : Ty) : CallR X (.builtin "isinstance") (rIsi G t) := by
  intro pins s σ H xs us Q I r h0
  obtain ⟨x, d, Hf, ts, rfl, ok, rr, q⟩ := h0
  obtain ⟨u, w, rfl, r1, r2⟩ := vals2 r
  cases (show w = Value.type t.py from r2)
  exact isi_data gx t I ok.le rr r1 fun tk => ⟨.bl _, H, I.tok tk, rfl, q⟩
theorem snd_isi (gx : GX G X) (t : Ty) {y : Str} {p1 : Pos} (hg : Gl X x) (hm : X.mg x = none) (hv : bootBuiltins x = some (.builtin "isinstance")) (ha : PE X pa (tB G C W a)) (hn : x ≠ "__name__") (hdb : (x == ("__debug__" : Str)) = false)
    (hgy : Gl X y) (hmy : X.mg y = none) (hvy : bootBuiltins y = some (.type t.py)) (hny : y ≠ "__name__") (hdy : (y == ("__debug__" : Str)) = false)
    (he : starEach [pa, .Name y p1] X.env = (false, eval pa X.env) :: starEach [.Name y p1] X.env) (he2 : starEach [.Name y p1] X.env = (false, eval (.Name y p1) X.env) :: starEach [] X.env) (hpl : (backTo pos (starEach [.Name y p1] X.env)).any (·.1) = false) : PE X (.Call (.Name x p) [pa, .Name y p1] [] pos) (tE G C W (.isi a t)) := by
  refine (pe_callB (call_isi gx t) hg hm hv (pa_cons ha (pa_cons (pe_bltn (v := .ty t.py) hgy hmy hvy rfl hny hdy) pa_nil he2) he) hn hdb he hpl).imp fun σ H Q ⟨gs, Rm, Hf, ok, rel, h⟩ => ?_
  rw [ev, eff] at h
  refine one_b ok rel h fun H2 Hf2 t gs2 h n le ok2 k1 rel2 sm => ?_
  cases e1 : t.er.d? with
  | none => simp only [e1] at h; exact h.elim
  | some d =>
    simp only [e1] at h
    exact ⟨_, d, Hf2, gs2 ++ Rm, rfl, ok2, k1.top ok2.le e1, post_sh ok2 le (.dat (.bl _)) rel2 sm h⟩
end
end
end Lw

set_option autoImplicit false
set_option linter.all false
set_option Elab.async false
set_option maxRecDepth 100000
set_option maxHeartbeats 1000000
/-! LSnd8: calls. -/
namespace Lw
open PySem PySem.Spec PyProof.Rows L2
open Gt

section
variable (G : Gx)
/-- what is wanted behind a call -/
def PostC (fx : Bool) (r : CR) (ts Rm : List Gt) (Hf : Hp) (Q : VK) (E : XK) : Prop := match r with
  | .ok o outs => ∀ (H' Hf' : Hp) (t : Gt) (ts' : List Gt), t ≠ .un → Le Hf Hf' → Ok G H' Hf' (t :: (ts' ++ Rm)) → t.er = o → ts'.map er = outs → (fx = true → ∀ u, ts'[0]? = some u → u ≠ .un → ∃ t0, ts[0]? = some t0 ∧ t0.rt = u.rt) → Q t.rt H'
  | .exc c p outs => ∀ (d : Option Addr) (H' Hf' : Hp) (ts' : List Gt), Le Hf Hf' → Ok G H' Hf' (ts' ++ Rm) → ts'.map er = outs → (fx = true → ∀ u, ts'[0]? = some u → u ≠ .un → ∃ t0, ts[0]? = some t0 ∧ t0.rt = u.rt) → ExcP G H' d p → E (.ref (G.ca c)) d H'
  | .no => False
/-- a def's promise, by its semantics -/
def spF (fx : Bool) (n : Nat) (call : List O → CR) : Sp := fun vs H Q E => ∃ (ts Rm : List Gt) (Hf : Hp), Ok G H Hf (ts ++ Rm) ∧ ts.map rt = vs ∧ (∀ t ∈ ts, t ≠ .un) ∧ ts.length = n ∧ PostC G fx (call (ts.map er)) ts Rm Hf Q E
end
/-- a def that can be called from here -/
structure Fk (X : Cx) (fa : Addr) (sp : Sp) : Prop where
  ok : ∃ (k : Nat) (fd : FuncData) (ps : List Str), FnOk X.prog X.w X.K X.mg X.base (CX X.prog X.w) k fa fd ps sp ∧ Room (k + 1) X.A ∧ Binds X.K fd ps []
  kp : PySem.W.keepIn X.K (.ref fa) = true

section
variable {X : Cx} {W : WX}
theorem run_fnW {fa : Addr} {sp : Sp} (F : Fk X fa sp) (tk : Takes X W) {pins : List (Addr × Obj)} {σ : L2.St} {H : Hp} {s : Shared} {Q : VK} {us : List Value} {vs : List V} (I : Inv X pins σ H s) (r : Vals vs us) (h : sp vs H Q fun c d H' => W c d σ H') :
    wpAny (model X.prog X.w) X.A (call (.ref fa) us) (EP X pins σ Q) X.xe s := by
  obtain ⟨k, fd, ps, F, hr, hb⟩ := F.ok
  have hl : (us ++ []).length = ps.length := by rw [List.append_nil, ← r.length]; exact F.len _ _ _ _ h
  refine wpAny_call (codeAny_mono (F.run X.A X.stack s H ⟨us, []⟩ (us ++ []) vs Q _ (hr.mono (Nat.le_succ _)) I.env0 (hb s us I.kIn hl) (by rw [List.append_nil]; exact r) h) fun r s' hq => ?_)
  cases r with
  | error e => exact tk _ _ (XE.of_call I (fun _ _ _ h => h) hq)
  | ok fl =>
    cases fl with
    | ret u => exact I.after hq
    | next => exact False.elim hq
    | brk => exact False.elim hq
    | cont => exact False.elim hq
def tCallW (sp : Sp) (W : WX) (t : TA) : TE := fun σ H Q => t σ H fun vs H1 => sp vs H1 Q fun c d H' => W c d σ H'
variable {x : Str} {p pos apos : Pos} {e o : Expr} {es : List Expr} {ta : TE} {t : TA} {fa : Addr} {sp : Sp}
theorem pe_callW (F : Fk X fa sp) (tk : Takes X W) (hg : Gl X x) (hm : X.mg x = some (.ref fa)) (ha : PA X (e :: es) t) (hdb : (x == ("__debug__" : Str)) = false)
    (he : starEach (e :: es) X.env = (false, eval e X.env) :: starEach es X.env) (hpl : (backTo pos (starEach es X.env)).any (·.1) = false) : PE X (.Call (.Name x p) (e :: es) [] pos) (tCallW sp W t) := by
  refine ⟨fun pins s σ H Q I h => ?_⟩
  refine wpAny_Call_Name_kw (ld_glob I hg hm ?_ hdb)
  refine PySem.W.callWith_K (h₀ := X.base) I.ok.mod.kin F.kp (thn (ha.run pos pins s σ H _ I h) fun us s1 ⟨vs, H1, I1, r, q⟩ => ⟨I1.kIn, ?_⟩) he hpl
  exact run_fnW F tk I1 r q
theorem pe_callW0 (F : Fk X fa sp) (tk : Takes X W) (hg : Gl X x) (hm : X.mg x = some (.ref fa)) (hdb : (x == ("__debug__" : Str)) = false) : PE X (.Call (.Name x p) [] [] pos) (tCallW sp W tNil) := by
  refine ⟨fun pins s σ H Q I h => ?_⟩
  refine wpAny_Call_Name_kw (ld_glob I hg hm ?_ hdb)
  exact PySem.W.callWith_K0 I.kIn F.kp (run_fnW (us := []) F tk I .nil h)
/-- o.m(..): the class tells the method -/
def tMethW (X : Cx) (mn : Str) (W : WX) (ta : TE) (t : TA) : TE := fun σ H Q => ta σ H fun x H1 => ∃ a C dx fs fa sp, x = .ref a ∧ H1 a = some (.ins C dx fs) ∧ Cls X.K C ∧ Meth X.K C mn fa ∧ Fk X fa sp ∧ fs.lookup mn = none ∧ t σ H1 fun vs H2 => sp (x :: vs) H2 Q fun c d H' => W c d σ H'
theorem pe_methW {m : Str} {pl : Sem Bool} (tk : Takes X W) (he : PE X o ta) (ha : PA X (e :: es) t) (hst : starEach (e :: es) X.env = (false, eval e X.env) :: starEach es X.env) (hpl : (backTo pos (starEach es X.env)).any (·.1) = false)
    (ht : eval (.Call (.Attribute o m apos) (e :: es) [] pos) X.env = (do
      let ov ← eval o X.env
      standAt apos.atName
      let (f, first) ← holding [ov] (getMethod ov m pl)
      callWith pos f first (backTo pos (starEach (e :: es) X.env)) (backToKw pos (keywordEach [] X.env)))) :
    PE X (.Call (.Attribute o m apos) (e :: es) [] pos) (tMethW X m W ta t) := by
  refine ⟨fun pins s σ H Q I h => ?_⟩
  refine PySem.W.methodCall_KW (pl := pl) (thn (he.run pins s σ H _ I h) fun u s1 ⟨x, H1, I1, rx, a, C, dx, fs, fa, sp, ex, ea, c, hm, F, l, q⟩ => ?_) ht
  subst ex
  obtain rfl : u = Value.ref a := rx
  refine getmeth_ok I1 ea c hm l ?_
  refine PySem.W.callWith_K (first := [.ref a]) (h₀ := X.base) I.ok.mod.kin hm.kp (thn (ha.run pos pins s1 σ H1 _ I1 q) fun us s2 ⟨vs, H2, I2, r, q2⟩ => ⟨I2.kIn, ?_⟩) hst hpl
  exact run_fnW (us := .ref a :: us) (vs := .ref a :: vs) F tk I2 (.cons rfl r) q2
theorem pe_methW0 {m : Str} {pl : Sem Bool} (tk : Takes X W) (he : PE X o ta)
    (ht : eval (.Call (.Attribute o m apos) [] [] pos) X.env = (do
      let ov ← eval o X.env
      standAt apos.atName
      let (f, first) ← holding [ov] (getMethod ov m pl)
      callWith pos f first (backTo pos (starEach [] X.env)) (backToKw pos (keywordEach [] X.env)))) :
    PE X (.Call (.Attribute o m apos) [] [] pos) (tMethW X m W ta tNil) := by
  refine ⟨fun pins s σ H Q I h => ?_⟩
  refine PySem.W.methodCall_KW (pl := pl) (thn (he.run pins s σ H _ I h) fun u s1 ⟨x, H1, I1, rx, a, C, dx, fs, fa, sp, ex, ea, c, hm, F, l, q⟩ => ?_) ht
  subst ex
  obtain rfl : u = Value.ref a := rx
  refine getmeth_ok I1 ea c hm l ?_
  exact PySem.W.callWith_K0 (first := [.ref a]) I1.kIn hm.kp (run_fnW (us := [.ref a]) (vs := [.ref a]) F tk I1 (.cons rfl .nil) q)
theorem run_makeW {C : Addr} (M : Mk X.K C fa) (F : Fk X fa sp) (tk : Takes X W) {pins : List (Addr × Obj)} {σ : L2.St} {H : Hp} {s : Shared} {Q : VK} {us : List Value} {vs : List V} (I : Inv X pins σ H s) (r : Vals vs us)
    (h : ∀ x dx, H x = none → H dx = none → dx ≠ x → sp (.ref x :: vs) (upd (upd H dx (.own x)) x (.ins C dx [])) (fun v H2 => v = .non ∧ Q (.ref x) H2) fun c d H' => W c d σ H') :
    wpAny (model X.prog X.w) X.A (call (.ref C) us) (EP X pins σ Q) X.xe s := by
  obtain ⟨k, fd, ps, F, hr, hb⟩ := F.ok
  have hq := h (s.heap.objs.size + 1) s.heap.objs.size (I.hok.fresh (Nat.le_succ _)) (I.hok.fresh (Nat.le_refl _)) (Nat.ne_of_lt (Nat.lt_succ_self _))
  have I2 := Inv.made (C := C) I
  have r2 : Vals (V.ref (s.heap.objs.size + 1) :: vs) (Value.ref (s.heap.objs.size + 1) :: (us ++ [])) := .cons rfl (by rw [List.append_nil]; exact r)
  have hl : ((Value.ref (s.heap.objs.size + 1) :: us) ++ []).length = ps.length := by
    have e := r2.length
    rw [F.len _ _ _ _ hq] at e
    exact e.symm
  have hb2 := hb _ (Value.ref (s.heap.objs.size + 1) :: us) I2.kIn hl
  rw [List.cons_append] at hb2
  refine wpAny_call (make_map (f := fa) I.kIn M.makes M.init (beq_iff_eq.mp M.fn) (codeAny_mono (F.run _ X.stack _ _ ⟨Value.ref (s.heap.objs.size + 1) :: us, []⟩ (Value.ref (s.heap.objs.size + 1) :: (us ++ [])) _ _ _ (hr.make C us [])
    (I2.env0.make C us []) hb2 r2 hq) fun r s' hq' => ?_))
  cases r with
  | error e => exact tk _ _ (XE.of_call I2 (fun _ _ _ h => h) hq')
  | ok fl =>
    cases fl with
    | ret u =>
      obtain ⟨v, H', I3, rv, ev, q3⟩ := I2.after hq'
      subst ev
      exact ⟨rv, ⟨V.ref (s.heap.objs.size + 1), H', I3, rfl, q3⟩⟩
    | next => exact False.elim hq'
    | brk => exact False.elim hq'
    | cont => exact False.elim hq'
def tMakeW (C : Addr) (sp : Sp) (W : WX) (t : TA) : TE := fun σ H Q => t σ H fun vs H1 => ∀ x dx, H1 x = none → H1 dx = none → dx ≠ x →
  sp (.ref x :: vs) (upd (upd H1 dx (.own x)) x (.ins C dx [])) (fun v H2 => v = .non ∧ Q (.ref x) H2) fun c d H' => W c d σ H'
theorem pe_makeW {C : Addr} (M : Mk X.K C fa) (F : Fk X fa sp) (tk : Takes X W) (hg : Gl X x) (hm : X.mg x = some (.ref C)) (ha : PA X (e :: es) t) (hdb : (x == ("__debug__" : Str)) = false)
    (he : starEach (e :: es) X.env = (false, eval e X.env) :: starEach es X.env) (hpl : (backTo pos (starEach es X.env)).any (·.1) = false) : PE X (.Call (.Name x p) (e :: es) [] pos) (tMakeW C sp W t) := by
  refine ⟨fun pins s σ H Q I h => ?_⟩
  refine wpAny_Call_Name_kw (ld_glob I hg hm ?_ hdb)
  refine PySem.W.callWith_K (h₀ := X.base) I.ok.mod.kin M.kp (thn (ha.run pos pins s σ H _ I h) fun us s1 ⟨vs, H1, I1, r, q⟩ => ⟨I1.kIn, ?_⟩) he hpl
  exact run_makeW M F tk I1 r q
theorem pe_makeW0 {C : Addr} (M : Mk X.K C fa) (F : Fk X fa sp) (tk : Takes X W) (hg : Gl X x) (hm : X.mg x = some (.ref C)) (hdb : (x == ("__debug__" : Str)) = false) : PE X (.Call (.Name x p) [] [] pos) (tMakeW C sp W tNil) := by
  refine ⟨fun pins s σ H Q I h => ?_⟩
  refine wpAny_Call_Name_kw (ld_glob I hg hm ?_ hdb)
  exact PySem.W.callWith_K0 I.kIn M.kp (run_makeW (us := []) M F tk I .nil h)
end

/-! ### the calls of the language -/
section
variable {G : Gx} {C : Cf} {W : WX} {X : Cx} {pa : Expr} {pes : List Expr} {a : E} {es : List E} {pos : Pos}
def shs (vs : List V) (os : List O) : List Gt := vs.zipWith .sh os |>.map id
theorem shs_ok {H Hf : Hp} {ts : List Gt} (ok : Ok G H Hf ts) : ∀ {vs : List V} {os : List O}, Paired (RpO G Hf) vs os → ∃ us : List Gt, Ok G H Hf (us ++ ts) ∧ us.map rt = vs ∧ us.map er = os ∧ (∀ t ∈ us, t ≠ .un) ∧ us.length = os.length
  | _, _, .nil => ⟨[], ok, rfl, rfl, (fun _ h => nomatch h), rfl⟩
  | _, _, .cons (a := v) (b := o) r rs => by
    obtain ⟨us, h1, h2, h3, h4, h5⟩ := shs_ok ok rs
    refine ⟨.sh v o :: us, h1.sh r, by rw [List.map_cons, h2]; rfl, by rw [List.map_cons, h3]; rfl, fun t ht => ?_, by rw [List.length_cons, List.length_cons, h5]⟩
    rcases List.mem_cons.mp ht with rfl | ht
    · exact fun e => by cases e
    · exact h4 t ht
theorem Ok.dropL {H Hf : Hp} {ts us : List Gt} (ok : Ok G H Hf (ts ++ us)) : Ok G H Hf us := ok.sub (List.sublist_append_right _ _)
theorem Ok.dropM {H Hf : Hp} {t : Gt} {ts us : List Gt} (ok : Ok G H Hf (t :: (ts ++ us))) : Ok G H Hf (t :: us) := ok.sub ((List.sublist_append_right ts us).cons_cons t)
/-- behind arguments that are all shared -/
theorem sp_shared {σ : L2.St} {gs gs2 Rm : List Gt} {H2 Hf Hf2 : Hp} {Q : VK} {l : List Pl} {fx : Bool} {n : Nat} {call : List O → CR} {vs : List V} {os : List O} (ok : Ok G H2 Hf2 (gs2 ++ Rm)) (le : Le Hf Hf2) (rel : Rel σ gs2) (sm : Same l gs gs2) (pr : Paired (RpO G Hf2) vs os) (hn : os.length = n)
    (h : PostV G W (ofC (call os) (gs2.map er)) l σ gs Rm Hf Q) : spF G fx n call vs H2 Q fun c d H' => W c d σ H' := by
  obtain ⟨us, h1, h2, h3, h4, h5⟩ := shs_ok ok pr
  refine ⟨us, gs2 ++ Rm, Hf2, h1, h2, h4, h5.trans hn, ?_⟩
  rw [h3]
  cases e : call os with
  | no => rw [e] at h; exact h
  | ok o outs =>
    rw [e] at h
    intro H' Hf' t ts' nt le2 ok2 et _ _
    exact h H' Hf' t gs2 nt (le.trans le2) ok2.dropM et rfl rel sm
  | exc c p outs =>
    rw [e] at h
    intro d H' Hf' ts' le2 ok2 _ _ x
    exact h d H' Hf' gs2 (le.trans le2) ok2.dropL rfl rel x
theorem snd_call {x : Str} {p : Pos} {f n : Nat} {fx : Bool} {fa : Addr} (F : Fk X fa (spF G fx n (C.call f))) (tk : Takes X W) (hg : Gl X x) (hm : X.mg x = some (.ref fa)) (ha : PA X (pa :: pes) (tEs G C W es)) (hn : es.length = n) (hdb : (x == ("__debug__" : Str)) = false)
    (he : starEach (pa :: pes) X.env = (false, eval pa X.env) :: starEach pes X.env) (hpl : (backTo pos (starEach pes X.env)).any (·.1) = false) : PE X (.Call (.Name x p) (pa :: pes) [] pos) (tE G C W (.call f es)) := by
  refine (pe_callW F tk hg hm ha hdb he hpl).imp fun σ H Q ⟨gs, Rm, Hf, ok, rel, h⟩ => ?_
  rw [ev, eff] at h
  exact args_e ok rel h fun H2 Hf2 vs os gs2 hl h le ok2 pr rel2 sm => sp_shared ok2 le rel2 sm pr (hl.trans hn) h
theorem snd_call0 {x : Str} {p : Pos} {f : Nat} {fx : Bool} {fa : Addr} (F : Fk X fa (spF G fx 0 (C.call f))) (tk : Takes X W) (hg : Gl X x) (hm : X.mg x = some (.ref fa)) (hdb : (x == ("__debug__" : Str)) = false) : PE X (.Call (.Name x p) [] [] pos) (tE G C W (.call f [])) := by
  refine (pe_callW0 F tk hg hm hdb).imp fun σ H Q ⟨gs, Rm, Hf, ok, rel, h⟩ => ?_
  rw [ev, eff, evs] at h
  exact sp_shared (vs := []) (os := []) ok (Le.refl _) rel (Same.refl _ _) .nil rfl h
/-- the methods that the semantics knows are the classes' -/
structure MtOk (G : Gx) (C : Cf) (X : Cx) (mn : Str) (m : Nat) : Prop where
  at_ : ∀ c f, C.meth c m = some f → ∃ fa fx n, Meth X.K (G.ca c) mn fa ∧ Fk X fa (spF G fx n (C.call f)) ∧ n = n
  nofld : ∀ i, i < G.nf → G.fnm i ≠ mn
theorem nolook {mn : Str} {c : Nat} {α : Type} {fs : List (Nat × α)} (g : α → V) (hf : ∀ p ∈ fs, FOk G c p.1) (no : ∀ i, i < G.nf → G.fnm i ≠ mn) : (fs.map fun p => (G.fnm p.1, g p.2)).lookup mn = none := by
  induction fs with
  | nil => rfl
  | cons p r ih =>
    rw [List.map_cons, List.lookup]
    have : (mn == G.fnm p.1) = false := beq_eq_false_iff_ne.mpr fun e => no p.1 (hf p (.head _)).1 e.symm
    rw [this]
    exact ih fun q hq => hf q (.tail _ hq)
theorem nolook2 {mn : Str} {c : Nat} : ∀ {fs : List (Nat × O)} {vs : List V}, (∀ p ∈ fs, FOk G c p.1) → (∀ i, i < G.nf → G.fnm i ≠ mn) → ((fs.map fun p => G.fnm p.1).zip vs).lookup mn = none
  | [], _, _, _ => rfl
  | _ :: _, [], _, _ => rfl
  | p :: r, v :: vs, hf, no => by
    rw [List.map_cons, List.zip_cons_cons, List.lookup]
    have : (mn == G.fnm p.1) = false := beq_eq_false_iff_ne.mpr fun e => no p.1 (hf p (.head _)).1 e.symm
    rw [this]
    exact nolook2 (fun q hq => hf q (.tail _ hq)) no

/-! ### an owned instance is handed on -/
theorem set_mid {gs Rm : List Gt} {i : Nat} {t : Gt} (h : gs[i]? = some t) : (gs ++ Rm).Perm (t :: (gs.take i ++ gs.drop (i + 1) ++ Rm)) := by
  have hl : i < gs.length := (List.getElem?_eq_some_iff.mp h).1
  have e : gs = gs.take i ++ t :: gs.drop (i + 1) := by
    have := (List.getElem?_eq_some_iff.mp h).2
    rw [← this, List.getElem_cons_drop, List.take_append_drop]
  have p : (gs ++ Rm).Perm ((gs.take i ++ t :: gs.drop (i + 1)) ++ Rm) := by rw [← e]
  exact p.trans ((List.perm_middle (l₁ := gs.take i) (l₂ := gs.drop (i + 1))).append_right Rm)
theorem set_mid2 {gs : List Gt} {i : Nat} {u : Gt} (hl : i < gs.length) : (gs.set i u).take i = gs.take i ∧ (gs.set i u).drop (i + 1) = gs.drop (i + 1) := by
  constructor
  · rw [List.take_set_of_le (Nat.le_refl i)]
  · rw [List.drop_set_of_lt (Nat.lt_succ_self i)]
/-- the slot's tree is exchanged -/
theorem Ok.slot {H Hf : Hp} {gs Rm : List Gt} {i : Nat} {u : Gt} (hl : i < gs.length) (ok : Ok G H Hf (u :: (gs.take i ++ gs.drop (i + 1) ++ Rm))) : Ok G H Hf (gs.set i u ++ Rm) := by
  have h : (gs.set i u)[i]? = some u := by rw [List.getElem?_set_self hl]
  have p := set_mid (Rm := Rm) h
  rw [(set_mid2 (u := u) hl).1, (set_mid2 (u := u) hl).2] at p
  exact ok.perm p
theorem map_set_er (gs : List Gt) (i : Nat) (u : Gt) : (gs.set i u).map er = (gs.map er).set i u.er := by rw [List.map_set]
theorem getD_set_ne {gs : List Gt} {i j : Nat} {u : Gt} (h : i ≠ j) : (gs.set i u).getD j .un = gs.getD j .un := by
  rw [List.getD_eq_getElem?_getD, List.getD_eq_getElem?_getD, List.getElem?_set_ne h]
theorem Same.setV {gs : List Gt} (i : Nat) (u : Gt) : Same [.v i] gs (gs.set i u) := by
  refine ⟨by simp, fun p hp => ?_⟩
  have h := hp (.v i) (.head _)
  cases p with
  | v j =>
    have h : (j != i) = true := h
    exact getD_set_ne (fun e => by subst e; simp at h)
  | f j x =>
    have h : (j != i) = true := h
    show (match (gs.set i u).getD j .un with | .ins _ _ _ fs => lkT fs x | _ => .un) = _
    rw [getD_set_ne (fun e => by subst e; simp at h)]
    rfl
theorem getD_at {gs : List Gt} {i : Nat} {t : Gt} (h : gs.getD i .un = t) (n : t ≠ .un) : gs[i]? = some t := by
  rw [List.getD_eq_getElem?_getD] at h
  cases e : gs[i]? with
  | none => rw [e] at h; exact absurd h.symm n
  | some u => rw [e] at h; cases h; rfl
theorem OkTs.foks {H Hf : Hp} {c : Nat} : ∀ {fs : List (Nat × Gt)}, OkTs G H Hf c fs → ∀ p ∈ fs, FOk G c p.1
  | _, .nil => fun _ h => nomatch h
  | _, .cons z1 z2 z3 z4 => fun y hy => (List.mem_cons.mp hy).elim (fun e => e ▸ z1) fun hy => z4.foks y hy
theorem bor_v {i : Nat} {s : St} {r r' : R O} : bor (plE (.v i)) s r = bor (.var i) s r' := rfl
theorem snd_mex_post {i m n : Nat} {mn : Str} (gx : GX G X) (M : ∀ c f, C.meth c m = some f → ∃ fa, Meth X.K (G.ca c) mn fa ∧ Fk X fa (spF G true (n + 1) (C.call f))) (no : ∀ i, i < G.nf → G.fnm i ≠ mn) (hn : es.length = n) (sp : (effs es).all (fun q => dj (.v i) q) = true) {σ : L2.St} {H : Hp} {Q : VK}
    (h0 : tE G C W (.mex m (.v i) es) σ H Q) : tMethW X mn W (tB G C W (.var i)) (tEs G C W es) σ H Q := by
  obtain ⟨gs, Rm, Hf, ok, rel, h⟩ := h0
  rw [ev, eff] at h
  refine ⟨gs, Rm, Hf, ok, rel, PostB.mk (r := bor (.var i) (gs.map er) (ev C (.var i) (gs.map er))) pk_v h fun H1 Hf1 t1 gs1 T1 h n1 le1 ok1 he1 rel1 sm1 => ?_⟩
  have sm0 := sm1.nil
  subst sm0
  cases t1 with
  | ins a0 dx c fs0 =>
    obtain ⟨k1, hp⟩ := he1
    rcases hp with ⟨_, hp | ⟨_, _, hp⟩⟩ | ⟨rfl, p, hp, hg⟩
    · cases hp
    · cases hp
    cases hp
    have h : PostV G W (match C.meth c m with
      | some f => ((evs C es (gs1.map er)).bind fun os s => (match C.call f (.ins c (ers fs0) :: os) with
        | .ok r (.ins c' fs' :: _) => if c' = c then (match setPl (.v i) (.ins c' fs') s with
          | some s => .ok r s
          | none => .no) else .no
        | .exc c0 p' (.ins c' fs' :: _) => if c' = c then (match setPl (.v i) (.ins c' fs') s with
          | some s => .exc c0 p' s
          | none => .no) else .no
        | _ => .no))
      | none => .no) (effs es ++ [.v i]) σ gs1 Rm Hf Q := h
    cases em : C.meth c m with
    | none => rw [em] at h; exact h.elim
    | some f =>
      rw [em] at h
      obtain ⟨fa, hM, hF⟩ := M c f em
      cases k1 with
      | ins q1 q2 q3 q4 =>
        refine ⟨a0, _, dx, _, fa, _, rfl, q1, gx.k ▸ q3, hM, hF, ?_, ?_⟩
        · exact nolook (c := c) (fun t => t.rt) (fs := fs0) q4.foks no
        · refine ⟨gs1, [] ++ Rm, Hf1, ok1, rel1, PostVs.mk (pk_v.more le1) h fun H2 Hf2 vs2 os gs2 ee h le2 ok2 pr rel2 sm2 => ?_⟩
          have hl := evs_len C es _ _ _ ee
          have hg2 : getT (.v i) gs2 = .ins a0 dx c fs0 := by
            rw [sm2.2 (.v i) fun q hq => List.all_eq_true.mp sp q hq]
            exact hg
          have hi := getD_at hg2 (fun e => by cases e)
          have hlen : i < gs2.length := (List.getElem?_eq_some_iff.mp hi).1
          obtain ⟨us, h1, h2, h3, h4, h5⟩ := shs_ok (ok2.perm (set_mid hi).symm) pr
          refine ⟨.ins a0 dx c fs0 :: us, gs2.take i ++ gs2.drop (i + 1) ++ ([] ++ Rm), Hf2, ?_, ?_, ?_, by rw [List.length_cons, h5, hl, hn], ?_⟩
          · exact h1.perm List.perm_middle.symm
          · rw [List.map_cons, h2]
          · intro t ht
            rcases List.mem_cons.mp ht with rfl | ht
            · exact fun e => by cases e
            · exact h4 t ht
          · rw [List.map_cons, h3]
            show PostC G true (C.call f (.ins c (ers fs0) :: os)) _ _ _ _ _
            have h : PostV G W (match C.call f (.ins c (ers fs0) :: os) with
              | .ok r (.ins c' fs' :: _) => if c' = c then (match setPl (.v i) (.ins c' fs') (gs2.map er) with
                | some s => .ok r s
                | none => .no) else .no
              | .exc c0 p' (.ins c' fs' :: _) => if c' = c then (match setPl (.v i) (.ins c' fs') (gs2.map er) with
                | some s => .exc c0 p' s
                | none => .no) else .no
              | _ => .no) (effs es ++ [.v i]) σ gs1 Rm Hf Q := h
            have back : ∀ {u : Gt} {ts' Rx : List Gt} {H' Hf' : Hp}, Ok G H' Hf' (u :: ts' ++ (gs2.take i ++ gs2.drop (i + 1) ++ ([] ++ Rx))) → Ok G H' Hf' (gs2.set i u ++ Rx) := fun {u ts' Rx H' Hf'} o => by
              refine Ok.slot hlen ?_
              exact o.sub ((List.sublist_append_right ts' _).cons_cons u)
            have root : ∀ {u : Gt} {ts' : List Gt}, (true = true → ∀ x, (u :: ts')[0]? = some x → x ≠ .un → ∃ t0, (Gt.ins a0 dx c fs0 :: us)[0]? = some t0 ∧ t0.rt = x.rt) → u ≠ .un → u.rt = .ref a0 := fun {u ts'} h n => by
              obtain ⟨t0, e1, e2⟩ := h rfl u rfl n
              cases e1
              exact e2.symm
            have smf : ∀ u : Gt, Same (effs es ++ [.v i]) gs1 (gs2.set i u) := fun u => sm2.trans (Same.setV i u)
            cases e : C.call f (.ins c (ers fs0) :: os) with
            | no => rw [e] at h; exact h
            | ok o outs =>
              rw [e] at h
              intro H' Hf' t ts' nt le3 ok3 et eo ro
              cases outs with
              | nil => exact h.elim
              | cons o1 outs =>
                cases o1 with
                | ins c' fs' =>
                  cases ts' with
                  | nil => cases eo
                  | cons u ts' =>
                    rw [List.map_cons] at eo
                    obtain ⟨eu, _⟩ := List.cons.inj eo
                    have nu : u ≠ .un := fun e => by subst e; cases eu
                    have ru := root ro nu
                    by_cases ec : c' = c
                    · subst ec
                      have h : PostV G W (if c' = c' then .ok o ((gs2.map er).set i (.ins c' fs')) else .no) (effs es ++ [.v i]) σ gs1 Rm Hf Q := h
                      rw [if_pos rfl] at h
                      have ok4 : Ok G H' Hf' (gs2.set i u ++ (t :: Rm)) := by
                        refine Ok.slot hlen ?_
                        refine Ok.perm ?_ (List.perm_middle (a := t) (l₁ := u :: (gs2.take i ++ gs2.drop (i + 1))) (l₂ := Rm))
                        refine ok3.sub ?_
                        rw [List.cons_append, List.nil_append]
                        exact (((List.sublist_append_right ts' _).cons_cons u).cons_cons t)
                      refine h H' Hf' t (gs2.set i u) nt ((le1.trans le2).trans le3) (ok4.perm (List.perm_middle (l₁ := gs2.set i u) (l₂ := Rm)).symm) et (by rw [map_set_er, eu]) (rel2.upd i hi (fun e => by cases e) ru) (smf u)
                    · have h : PostV G W (if c' = c then .ok o ((gs2.map er).set i (.ins c' fs')) else .no) (effs es ++ [.v i]) σ gs1 Rm Hf Q := h
                      rw [if_neg ec] at h; exact h.elim
                | _ => exact h.elim
            | exc c0 p0 outs =>
              rw [e] at h
              intro d H' Hf' ts' le3 ok3 eo ro x
              cases outs with
              | nil => exact h.elim
              | cons o1 outs =>
                cases o1 with
                | ins c' fs' =>
                  cases ts' with
                  | nil => cases eo
                  | cons u ts' =>
                    rw [List.map_cons] at eo
                    obtain ⟨eu, _⟩ := List.cons.inj eo
                    have nu : u ≠ .un := fun e => by subst e; cases eu
                    have ru := root ro nu
                    by_cases ec : c' = c
                    · subst ec
                      have h : PostV G W (if c' = c' then .exc c0 p0 ((gs2.map er).set i (.ins c' fs')) else .no) (effs es ++ [.v i]) σ gs1 Rm Hf Q := h
                      rw [if_pos rfl] at h
                      exact h d H' Hf' (gs2.set i u) ((le1.trans le2).trans le3) (back ok3) (by rw [map_set_er, eu]) (rel2.upd i hi (fun e => by cases e) ru) x
                    · have h : PostV G W (if c' = c then .exc c0 p0 ((gs2.map er).set i (.ins c' fs')) else .no) (effs es ++ [.v i]) σ gs1 Rm Hf Q := h
                      rw [if_neg ec] at h; exact h.elim
                | _ => exact h.elim
  | sh v o =>
    cases he1.1 with
    | sh r => cases r <;> exact h.elim
  | _ => exact h.elim

theorem nil_tEs {σ : L2.St} {H : Hp} {Q : List V → Hp → Prop} (h0 : tEs G C W [] σ H Q) : tNil σ H Q := by
  obtain ⟨gs, Rm, Hf, ok, rel, h⟩ := h0
  rw [evs] at h
  exact h H Hf [] gs (Le.refl _) ok .nil rfl rel (Same.refl _ _)
theorem nil_meth {mn : Str} {ta : TE} (mono : ∀ σ H Q Q', (∀ v H, Q v H → Q' v H) → ta σ H Q → ta σ H Q') {σ : L2.St} {H : Hp} {Q : VK} (h : tMethW X mn W ta (tEs G C W []) σ H Q) : tMethW X mn W ta tNil σ H Q :=
  mono σ H _ _ (fun x H1 ⟨a, C1, dx, fs, fa, sp, e1, e2, e3, e4, e5, e6, q⟩ => ⟨a, C1, dx, fs, fa, sp, e1, e2, e3, e4, e5, e6, nil_tEs q⟩) h
theorem PostB.mono {a : E} {r : R O} {l : List Pl} {σ : L2.St} {gs Rm : List Gt} {Hf : Hp} {Q Q' : VK} (h : PostB G W a r l σ gs Rm Hf Q) (q : ∀ v H, Q v H → Q' v H) : PostB G W a r l σ gs Rm Hf Q' := by
  cases r with
  | no => exact h
  | exc => exact h
  | ok o s => exact fun H' Hf' t gs' T n le ok kt pl e es rel sm => q _ _ (h H' Hf' t gs' T n le ok kt pl e es rel sm)
theorem tB_mono (a : E) : ∀ σ H Q Q', (∀ v H, Q v H → Q' v H) → tB G C W a σ H Q → tB G C W a σ H Q' := fun σ H Q Q' q ⟨gs, Rm, Hf, ok, rel, h⟩ => ⟨gs, Rm, Hf, ok, rel, h.mono q⟩
section
variable {m n i : Nat} {mn : Str} {apos : Pos} {pl : Sem Bool}
theorem snd_mex (gx : GX G X) (M : ∀ c f, C.meth c m = some f → ∃ fa, Meth X.K (G.ca c) mn fa ∧ Fk X fa (spF G true (n + 1) (C.call f))) (no : ∀ i, i < G.nf → G.fnm i ≠ mn) (tk : Takes X W) (ha : PE X pa (tB G C W (.var i))) {pe : Expr} (hb : PA X (pe :: pes) (tEs G C W es)) (hn : es.length = n) (sp : (effs es).all (fun q => dj (.v i) q) = true)
    (hst : starEach (pe :: pes) X.env = (false, eval pe X.env) :: starEach pes X.env) (hpl : (backTo pos (starEach pes X.env)).any (·.1) = false)
    (ht : eval (.Call (.Attribute pa mn apos) (pe :: pes) [] pos) X.env = (do
      let ov ← eval pa X.env
      standAt apos.atName
      let (f, first) ← holding [ov] (getMethod ov mn pl)
      callWith pos f first (backTo pos (starEach (pe :: pes) X.env)) (backToKw pos (keywordEach [] X.env)))) :
    PE X (.Call (.Attribute pa mn apos) (pe :: pes) [] pos) (tE G C W (.mex m (.v i) es)) :=
  (pe_methW tk ha hb hst hpl ht).imp fun σ H Q h => snd_mex_post gx M no hn sp h
theorem snd_mex0 (gx : GX G X) (M : ∀ c f, C.meth c m = some f → ∃ fa, Meth X.K (G.ca c) mn fa ∧ Fk X fa (spF G true 1 (C.call f))) (no : ∀ i, i < G.nf → G.fnm i ≠ mn) (tk : Takes X W) (ha : PE X pa (tB G C W (.var i)))
    (ht : eval (.Call (.Attribute pa mn apos) [] [] pos) X.env = (do
      let ov ← eval pa X.env
      standAt apos.atName
      let (f, first) ← holding [ov] (getMethod ov mn pl)
      callWith pos f first (backTo pos (starEach [] X.env)) (backToKw pos (keywordEach [] X.env)))) :
    PE X (.Call (.Attribute pa mn apos) [] [] pos) (tE G C W (.mex m (.v i) [])) :=
  (pe_methW0 tk ha ht).imp fun σ H Q h => nil_meth (tB_mono _) (snd_mex_post gx M no rfl rfl h)
theorem meth_post (gx : GX G X) (M : ∀ c f, C.meth c m = some f → ∃ fa fx, Meth X.K (G.ca c) mn fa ∧ Fk X fa (spF G fx (n + 1) (C.call f))) (no : ∀ i, i < G.nf → G.fnm i ≠ mn) (hn : es.length = n) (sp : sep a (effs es) = true) {σ : L2.St} {H : Hp} {Q : VK}
    (h0 : tE G C W (.meth m a es) σ H Q) : tMethW X mn W (tB G C W a) (tEs G C W es) σ H Q := by
  obtain ⟨gs, Rm, Hf, ok, rel, h⟩ := h0
  rw [ev, eff] at h
  refine ⟨gs, Rm, Hf, ok, rel, PostB.mk pk_v h fun H1 Hf1 t1 gs1 T1 h n1 le1 ok1 he1 rel1 sm1 => ?_⟩
  obtain ⟨k1, hp⟩ := he1
  have key : ∀ c fs, t1.er = .fin c fs → PostV G W (match C.meth c m with | some f => (evs C es (gs1.map er)).bind fun os s => ofC (C.call f (.fin c fs :: os)) s | none => .no) (eff a ++ effs es) σ gs Rm Hf Q →
      ∃ a_1 C_1 dx fs_1 fa sp_1, t1.rt = .ref a_1 ∧ H1 a_1 = some (.ins C_1 dx fs_1) ∧ Cls X.K C_1 ∧ Meth X.K C_1 mn fa ∧ Fk X fa sp_1 ∧ fs_1.lookup mn = none ∧ tEs G C W es σ H1 fun vs H2 => sp_1 (t1.rt :: vs) H2 Q fun c d H' => W c d σ H' := by
    intro c fs e1 h9
    cases k1 with
    | sh r =>
      cases r with
      | dat => cases e1
      | tpo => cases e1
      | @fin a0 dx c' vs fs' q1 q2 q3 q4 q5 q6 =>
        cases e1
        have r1 : RpO G Hf1 (.ref a0) (.fin c fs) := .fin q1 q2 q3 q4 q5 q6
        cases em : C.meth c m with
        | none => rw [em] at h9; exact h9.elim
        | some f =>
          rw [em] at h9
          obtain ⟨fa, fx, hM, hF⟩ := M c f em
          refine ⟨a0, _, dx, _, fa, _, rfl, ok1.le _ _ q1, gx.k ▸ q3, hM, hF, nolook2 q4 no, ?_⟩
          refine ⟨gs1, T1 ++ Rm, Hf1, ok1, rel1, PostVs.mk (pk_v.more le1) h9 fun H2 Hf2 vs2 os gs2 ee h le2 ok2 pr rel2 sm2 => ?_⟩
          have hl := evs_len C es _ _ _ ee
          exact sp_shared (gs := gs) (l := eff a ++ effs es) (Hf := Hf) ok2.tailR (le1.trans le2) rel2 (sm1.trans sm2) (.cons (r1.mono le2) pr) (by rw [List.length_cons, hl, hn]) h
    | _ => cases e1
  cases e1 : t1.er with
  | fin c fs =>
    rw [e1] at h
    exact key c fs e1 h
  | _ => rw [e1] at h; exact h.elim
theorem snd_meth (gx : GX G X) (M : ∀ c f, C.meth c m = some f → ∃ fa fx, Meth X.K (G.ca c) mn fa ∧ Fk X fa (spF G fx (n + 1) (C.call f))) (no : ∀ i, i < G.nf → G.fnm i ≠ mn) (tk : Takes X W) (ha : PE X pa (tB G C W a)) {pe : Expr} (hb : PA X (pe :: pes) (tEs G C W es)) (hn : es.length = n) (sp : sep a (effs es) = true)
    (hst : starEach (pe :: pes) X.env = (false, eval pe X.env) :: starEach pes X.env) (hpl : (backTo pos (starEach pes X.env)).any (·.1) = false)
    (ht : eval (.Call (.Attribute pa mn apos) (pe :: pes) [] pos) X.env = (do
      let ov ← eval pa X.env
      standAt apos.atName
      let (f, first) ← holding [ov] (getMethod ov mn pl)
      callWith pos f first (backTo pos (starEach (pe :: pes) X.env)) (backToKw pos (keywordEach [] X.env)))) :
    PE X (.Call (.Attribute pa mn apos) (pe :: pes) [] pos) (tE G C W (.meth m a es)) :=
  (pe_methW tk ha hb hst hpl ht).imp fun σ H Q h => meth_post gx M no hn sp h
theorem snd_meth0 (gx : GX G X) (M : ∀ c f, C.meth c m = some f → ∃ fa fx, Meth X.K (G.ca c) mn fa ∧ Fk X fa (spF G fx 1 (C.call f))) (no : ∀ i, i < G.nf → G.fnm i ≠ mn) (tk : Takes X W) (ha : PE X pa (tB G C W a))
    (ht : eval (.Call (.Attribute pa mn apos) [] [] pos) X.env = (do
      let ov ← eval pa X.env
      standAt apos.atName
      let (f, first) ← holding [ov] (getMethod ov mn pl)
      callWith pos f first (backTo pos (starEach [] X.env)) (backToKw pos (keywordEach [] X.env)))) :
    PE X (.Call (.Attribute pa mn apos) [] [] pos) (tE G C W (.meth m a [])) :=
  (pe_methW0 tk ha ht).imp fun σ H Q h => nil_meth (tB_mono _) (meth_post gx M no rfl (by unfold sep; split <;> rfl) h)
end
/-! ### a new instance -/
theorem Ok.newI {H Hf : Hp} {ts : List Gt} {x dx : Addr} {c : Nat} (o : Ok G H Hf ts) (hx : H x = none) (hd : H dx = none) (hne : dx ≠ x) (co : COk G c) : Ok G (upd (upd H dx (.own x)) x (.ins (G.ca c) dx [])) Hf (.ins x dx c [] :: ts) := by
  have h1 : x ∉ ts.flatMap ads := fun h => o.there x h hx
  have h2 : dx ∉ ts.flatMap ads := fun h => o.there dx h hd
  have f : ∀ p, H p = none → Hf p = none := fun p hp => by
    cases e : Hf p with
    | none => rfl
    | some y => rw [o.le p y e] at hp; cases hp
  have keep : ∀ b, b ≠ x → b ≠ dx → upd (upd H dx (.own x)) x (.ins (G.ca c) dx []) b = H b := fun b e1 e2 => by rw [upd_ne e1, upd_ne e2]
  refine ⟨fun a y e => ?_, fun t ht => ?_, ?_, fun a h => ?_⟩
  · rw [keep a (fun z => by subst z; rw [f _ hx] at e; cases e) (fun z => by subst z; rw [f _ hd] at e; cases e)]
    exact o.le a y e
  · rcases List.mem_cons.mp ht with rfl | h
    · exact .ins (fs := []) upd_same (by rw [upd_ne hne, upd_same]) co .nil
    · refine (o.ok t h).keep (Le.refl _) fun b hb => keep b (fun z => h1 ?_) (fun z => h2 ?_)
      · subst z; exact List.mem_flatMap.mpr ⟨t, h, hb⟩
      · subst z; exact List.mem_flatMap.mpr ⟨t, h, hb⟩
  · rw [List.flatMap_cons]
    show ([x, dx] ++ ts.flatMap ads).Nodup
    refine List.nodup_cons.mpr ⟨fun h => ?_, List.nodup_cons.mpr ⟨h2, o.nd⟩⟩
    rcases List.mem_cons.mp h with e | h
    · exact hne e.symm
    · exact h1 h
  · rw [List.flatMap_cons] at h
    have h : a ∈ [x, dx] ++ ts.flatMap ads := h
    rcases List.mem_cons.mp h with rfl | h
    · exact f _ hx
    · rcases List.mem_cons.mp h with rfl | h
      · exact f _ hd
      · exact o.ap a h
theorem new_post {c f n : Nat} (co : COk G c) (hi : C.init c = some f) (hn : es.length = n) {σ : L2.St} {H : Hp} {Q : VK} (h0 : tE G C W (.new c es) σ H Q) : tMakeW (G.ca c) (spF G true (n + 1) (C.call f)) W (tEs G C W es) σ H Q := by
  obtain ⟨gs, Rm, Hf, ok, rel, h⟩ := h0
  rw [ev, eff] at h
  refine args_e ok rel h fun H2 Hf2 vs os gs2 hl h le ok2 pr rel2 sm => ?_
  intro x dx hx hd hne
  simp only [hi] at h
  obtain ⟨us, h1, h2, h3, h4, h5⟩ := shs_ok (ok2.newI hx hd hne co) pr
  refine ⟨.ins x dx c [] :: us, gs2 ++ Rm, Hf2, h1.perm List.perm_middle.symm, by rw [List.map_cons, h2]; rfl, fun t ht => ?_, by rw [List.length_cons, h5, hl, hn], ?_⟩
  · rcases List.mem_cons.mp ht with rfl | ht
    · exact fun e => by cases e
    · exact h4 t ht
  · rw [List.map_cons, h3]
    show PostC G true (C.call f (.ins c [] :: os)) _ _ _ _ _
    cases e : C.call f (.ins c [] :: os) with
    | no => rw [e] at h; exact h
    | ok o outs =>
      rw [e] at h
      intro H' Hf' t ts' nt le3 ok3 et eo ro
      have key : o = .dat .none ∧ ∃ c' fs r, outs = .ins c' fs :: r ∧ PostV G W (.ok (.ins c' fs) (gs2.map er)) (effs es) σ gs Rm Hf Q := by
        split at h
        · rename_i heq
          cases heq
          exact ⟨rfl, _, _, _, rfl, h⟩
        · rename_i heq; cases heq
        · exact h.elim
      obtain ⟨rfl, c', fs, r, rfl, h⟩ := key
      cases ts' with
      | nil => cases eo
      | cons u ts' =>
        rw [List.map_cons] at eo
        obtain ⟨eu, _⟩ := List.cons.inj eo
        have nu : u ≠ .un := fun e => by subst e; cases eu
        obtain ⟨t0, e1, e2⟩ := ro rfl u rfl nu
        cases e1
        refine ⟨?_, ?_⟩
        · cases ok3.ok t (.head _) with
          | sh r => cases r with
            | dat r => cases et; cases r; rfl
            | _ => cases et
          | _ => cases et
        · have := h H' Hf' u gs2 nu (le.trans le3) ((ok3.sub (((List.sublist_append_right ts' _).cons_cons u).cons t))) eu rfl rel2 sm
          rw [← e2] at this
          exact this
    | exc c0 p0 outs =>
      rw [e] at h
      intro d H' Hf' ts' le3 ok3 eo ro xx
      exact h d H' Hf' gs2 (le.trans le3) ok3.dropL rfl rel2 xx
theorem snd_new {x : Str} {p : Pos} {c f n : Nat} {fa : Addr} (M : Mk X.K (G.ca c) fa) (F : Fk X fa (spF G true (n + 1) (C.call f))) (co : COk G c) (hi : C.init c = some f) (tk : Takes X W) (hg : Gl X x) (hm : X.mg x = some (.ref (G.ca c))) (ha : PA X (pa :: pes) (tEs G C W es)) (hn : es.length = n) (hdb : (x == ("__debug__" : Str)) = false)
    (he : starEach (pa :: pes) X.env = (false, eval pa X.env) :: starEach pes X.env) (hpl : (backTo pos (starEach pes X.env)).any (·.1) = false) : PE X (.Call (.Name x p) (pa :: pes) [] pos) (tE G C W (.new c es)) :=
  (pe_makeW M F tk hg hm ha hdb he hpl).imp fun σ H Q h => new_post co hi hn h
theorem snd_new0 {x : Str} {p : Pos} {c f : Nat} {fa : Addr} (M : Mk X.K (G.ca c) fa) (F : Fk X fa (spF G true 1 (C.call f))) (co : COk G c) (hi : C.init c = some f) (tk : Takes X W) (hg : Gl X x) (hm : X.mg x = some (.ref (G.ca c))) (hdb : (x == ("__debug__" : Str)) = false) : PE X (.Call (.Name x p) [] [] pos) (tE G C W (.new c [])) :=
  (pe_makeW0 M F tk hg hm hdb).imp fun σ H Q h => nil_tEs (new_post co hi rfl h)
end
end Lw

set_option autoImplicit false
set_option linter.all false
set_option Elab.async false
set_option maxRecDepth 100000
set_option maxHeartbeats 1000000
/-! LSnd9: what a place has is changed. -/
namespace Lw
open PySem PySem.Spec PyProof.Rows L2
open Gt

section
variable {G : Gx} {σ : L2.St} {gs gs' Rm : List Gt} {H Hf H' Hf' : Hp}
theorem lk_pt (x : Nat) (u : Gt) : ∀ fs : List (Nat × Gt), lkT (ptT fs x u) x = u
  | [] => by unfold lkT ptT; rw [List.lookup]; simp
  | (y, t) :: r => by
    unfold ptT
    by_cases h : y = x
    · rw [if_pos h]; unfold lkT; rw [List.lookup]; simp
    · rw [if_neg h]
      have ih := lk_pt x u r
      unfold lkT at ih ⊢
      rw [List.lookup]
      have : (x == y) = false := beq_eq_false_iff_ne.mpr fun e => h e.symm
      rw [this]; exact ih
theorem lk_pt_ne {x z : Nat} (u : Gt) (hne : z ≠ x) : ∀ fs : List (Nat × Gt), lkT (ptT fs x u) z = lkT fs z
  | [] => by
    unfold lkT ptT
    have : (z == x) = false := beq_eq_false_iff_ne.mpr hne
    show ((match z == x with | true => some u | false => List.lookup z []) : Option Gt).getD .un = .un
    rw [this]; rfl
  | (y, t) :: r => by
    unfold ptT
    by_cases h : y = x
    · subst h
      rw [if_pos rfl]; unfold lkT; rw [List.lookup, List.lookup]
      have : (z == y) = false := beq_eq_false_iff_ne.mpr hne
      rw [this]
    · rw [if_neg h]
      have ih := lk_pt_ne u hne r
      unfold lkT at ih ⊢
      rw [List.lookup, List.lookup]
      cases z == y with
      | true => rfl
      | false => exact ih
/-- the roots as they were -/
theorem map_pt (f : Nat → Str) {x : Nat} {t u : Gt} : ∀ {fs : List (Nat × Gt)}, lkT fs x = t → t ≠ .un → u.rt = t.rt → (ptT fs x u).map (fun p => (f p.1, p.2.rt)) = fs.map (fun p => (f p.1, p.2.rt))
  | [], h, n, _ => absurd h.symm n
  | (y, w) :: r, h, n, e => by
    unfold ptT
    unfold lkT at h
    rw [List.lookup] at h
    by_cases q : y = x
    · subst q
      simp only [beq_self_eq_true, Option.getD_some] at h
      subst h
      rw [if_pos rfl, List.map_cons, List.map_cons, e]
    · have : (x == y) = false := beq_eq_false_iff_ne.mpr fun e => q e.symm
      rw [this] at h
      rw [if_neg q, List.map_cons, List.map_cons, map_pt f (fs := r) h n e]
/-- one field's tree is exchanged, its object changed -/
theorem OkTs.write {a : Addr} {ob : HO} {t u : Gt} {c x : Nat} : ∀ {fs : List (Nat × Gt)}, OkTs G H Hf c fs → (adss fs).Nodup → lkT fs x = t → t ≠ .un → a ∈ t.ads → OkT G (upd H a ob) Hf u → u ≠ .un → u.ads.Sublist t.ads → OkTs G (upd H a ob) Hf c (ptT fs x u) ∧ (adss (ptT fs x u)).Sublist (adss fs)
  | [], _, _, h, n, _, _, _, _ => absurd h.symm n
  | (y, w) :: r, .cons k1 k2 k3 k4, nd, h, n, ha, hu, nu, hs => by
    rw [adss, List.nodup_append] at nd
    unfold ptT
    unfold lkT at h
    rw [List.lookup] at h
    by_cases q : y = x
    · subst q
      simp only [beq_self_eq_true, Option.getD_some] at h
      subst h
      rw [if_pos rfl, adss, adss]
      refine ⟨.cons k1 nu hu (k4.keep (Le.refl _) fun b hb => upd_ne fun z => nd.2.2 a ha b hb z.symm), hs.append (List.Sublist.refl _)⟩
    · have e : (x == y) = false := beq_eq_false_iff_ne.mpr fun e => q e.symm
      rw [e] at h
      rw [if_neg q, adss, adss]
      obtain ⟨h1, h2⟩ := OkTs.write k4 nd.2.1 h n ha hu nu hs
      have hin : a ∈ adss r := by
        clear h1 h2 k4 nd k1 k2 k3 e q
        induction r with
        | nil => exact absurd h.symm n
        | cons p r ih =>
          obtain ⟨z, v⟩ := p
          rw [adss]
          rw [List.lookup] at h
          by_cases q : x = z
          · subst q
            simp only [beq_self_eq_true, Option.getD_some] at h
            subst h
            exact List.mem_append_left _ ha
          · rw [beq_eq_false_iff_ne.mpr q] at h
            exact List.mem_append_right _ (ih h)
      exact ⟨.cons k1 k2 (k3.keep (Le.refl _) fun b hb => upd_ne fun z => nd.2.2 b hb a hin z) h1, (List.Sublist.refl _).append h2⟩
/-- what a place has is exchanged, its own object changed -/
theorem Ok.writeP {a : Addr} {ob : HO} {t u : Gt} (p : Pl) (ok : Ok G H Hf (gs ++ Rm)) (hg : Lw.getT p gs = t) (n : t ≠ .un) (ha : a ∈ t.ads) (hu : OkT G (upd H a ob) Hf u) (nu : u ≠ .un) (hs : u.ads.Sublist t.ads) (hr : u.rt = t.rt) : Ok G (upd H a ob) Hf (Lw.setT p u gs ++ Rm) := by
  cases p with
  | v i =>
    have hi := getD_at hg n
    have hl : i < gs.length := (List.getElem?_eq_some_iff.mp hi).1
    exact Ok.slot hl ((ok.perm (set_mid hi).symm).write ha hu hs)
  | f i x =>
    show Ok G (upd H a ob) Hf ((match gs.getD i .un with | .ins a dx c fs => gs.set i (.ins a dx c (ptT fs x u)) | _ => gs) ++ Rm)
    cases e : gs.getD i .un with
    | ins b dx c fs =>
      rw [getT_f e] at hg
      have hi := getD_at e (fun z => by cases z)
      have hl : i < gs.length := (List.getElem?_eq_some_iff.mp hi).1
      have ok2 := ok.perm (set_mid hi).symm
      have nd := ok2.nd
      rw [List.flatMap_cons, List.nodup_append] at nd
      have nd1 : (b :: dx :: adss fs).Nodup := nd.1
      have k := ok2.ok _ (.head _)
      cases k with
      | ins k1 k2 k3 k4 =>
        obtain ⟨w1, w2⟩ := k4.write (List.nodup_cons.mp (List.nodup_cons.mp nd1).2).2 hg n ha hu nu hs
        have hin : a ∈ adss fs := by
          have : ∀ fs : List (Nat × Gt), lkT fs x = t → a ∈ adss fs := by
            intro fs
            induction fs with
            | nil => exact fun h => absurd h.symm n
            | cons p r ih =>
              obtain ⟨z, v⟩ := p
              intro h
              rw [adss]
              unfold lkT at h ih
              rw [List.lookup] at h
              by_cases q : x = z
              · subst q
                simp only [beq_self_eq_true, Option.getD_some] at h
                subst h
                exact List.mem_append_left _ ha
              · rw [beq_eq_false_iff_ne.mpr q] at h
                exact List.mem_append_right _ (ih h)
          exact this fs hg
        have nb : b ≠ a := fun z => (List.nodup_cons.mp nd1).1 (List.mem_cons_of_mem _ (z ▸ hin))
        have nx : dx ≠ a := fun z => (List.nodup_cons.mp (List.nodup_cons.mp nd1).2).1 (z ▸ hin)
        refine Ok.slot hl (ok2.write (t := .ins b dx c fs) (a := a) (ob := ob) (by show a ∈ b :: dx :: adss fs; simp [hin]) (.ins ?_ ?_ k3 w1) ((w2.cons_cons dx).cons_cons b))
        · rw [upd_ne nb, k1, map_pt G.fnm hg n hr]
        · rw [upd_ne nx]; exact k2
    | _ =>
      have : Lw.getT (.f i x) gs = .un := by
        show (match gs.getD i .un with | .ins _ _ _ fs => lkT fs x | _ => .un) = _
        rw [e]
      rw [this] at hg
      exact absurd hg.symm n
theorem er_set {p : Pl} {t u : Gt} (hg : getT p gs = t) (n : t ≠ .un) : setPl p u.er (gs.map er) = some ((setT p u gs).map er) := by
  cases p with
  | v i => show some ((gs.map er).set i u.er) = some ((gs.set i u).map er); rw [map_set_er]
  | f i x =>
    show (match (gs.map er).getD i .un with | .ins c fs => some ((gs.map er).set i (.ins c (aput fs x u.er))) | _ => none) = some ((match gs.getD i .un with | .ins a dx c fs => gs.set i (.ins a dx c (ptT fs x u)) | _ => gs).map er)
    rw [getD_map]
    cases e : gs.getD i .un with
    | ins b dx c fs =>
      show some ((gs.map er).set i (.ins c (aput (ers fs) x u.er))) = some ((gs.set i (.ins b dx c (ptT fs x u))).map er)
      rw [map_set_er]
      show _ = some ((gs.map er).set i (.ins c (ers (ptT fs x u))))
      rw [er_pt]
    | _ =>
      have : getT (.f i x) gs = .un := by
        show (match gs.getD i .un with | .ins _ _ _ fs => lkT fs x | _ => .un) = _
        rw [e]
      rw [this] at hg
      exact absurd hg.symm n
theorem Rel.setT {p : Pl} {t u : Gt} (r : Rel σ gs) (hg : getT p gs = t) (n : t ≠ .un) (e : u.rt = t.rt) : Rel σ (Lw.setT p u gs) := by
  cases p with
  | v i => exact r.upd i (getD_at hg n) n e
  | f i x =>
    show Rel σ (match gs.getD i .un with | .ins a dx c fs => gs.set i (.ins a dx c (ptT fs x u)) | _ => gs)
    cases h : gs.getD i .un with
    | ins b dx c fs => exact r.upd i (getD_at h (fun z => by cases z)) (fun z => by cases z) rfl
    | _ => exact r
theorem Same.setT (p : Pl) (u : Gt) : Same [p] gs (Lw.setT p u gs) := by
  cases p with
  | v i => exact Same.setV i u
  | f i x =>
    show Same [.f i x] gs (match gs.getD i .un with | .ins a dx c fs => gs.set i (.ins a dx c (ptT fs x u)) | _ => gs)
    cases h : gs.getD i .un with
    | ins b dx c fs =>
      refine ⟨by simp, fun q hq => ?_⟩
      have hd := hq (.f i x) (.head _)
      cases q with
      | v j =>
        have hd : (j != i) = true := hd
        exact getD_set_ne (fun e => by subst e; simp at hd)
      | f j y =>
        have hd : (j != i || y != x) = true := hd
        by_cases e : i = j
        · subst e
          have hl : i < gs.length := (List.getElem?_eq_some_iff.mp (getD_at h (fun z => by cases z))).1
          have e1 : (gs.set i (.ins b dx c (ptT fs x u))).getD i .un = .ins b dx c (ptT fs x u) := by
            rw [List.getD_eq_getElem?_getD, List.getElem?_set_self hl]; rfl
          rw [getT_f e1, getT_f h]
          refine lk_pt_ne u (fun z => ?_) fs
          subst z
          simp at hd
        · show (match (gs.set i _).getD j .un with | .ins _ _ _ fs => lkT fs y | _ => .un) = _
          rw [getD_set_ne e]
          rfl
    | _ => exact Same.refl _ _
end

theorem set_self {gs : List Gt} {i : Nat} {t : Gt} (h : gs[i]? = some t) : gs.set i t = gs := by
  obtain ⟨hl, e⟩ := List.getElem?_eq_some_iff.mp h
  rw [← e]
  exact List.set_getElem_self hl
theorem pt_self {x : Nat} {t : Gt} : ∀ {fs : List (Nat × Gt)}, lkT fs x = t → t ≠ .un → ptT fs x t = fs
  | [], h, n => absurd h.symm n
  | (y, w) :: r, h, n => by
    unfold ptT
    unfold lkT at h
    rw [List.lookup] at h
    by_cases q : y = x
    · subst q
      simp only [beq_self_eq_true, Option.getD_some] at h
      rw [if_pos rfl, h]
    · rw [beq_eq_false_iff_ne.mpr fun e => q e.symm] at h
      rw [if_neg q, pt_self (fs := r) h n]
theorem setT_self {gs : List Gt} {p : Pl} {t : Gt} (hg : getT p gs = t) (n : t ≠ .un) : Lw.setT p t gs = gs := by
  cases p with
  | v i => exact set_self (getD_at hg n)
  | f i x =>
    show (match gs.getD i .un with | .ins a dx c fs => gs.set i (.ins a dx c (ptT fs x t)) | _ => gs) = gs
    cases e : gs.getD i .un with
    | ins a dx c fs =>
      rw [getT_f e] at hg
      show gs.set i (.ins a dx c (ptT fs x t)) = gs
      rw [pt_self hg n]
      exact set_self (getD_at e (fun z => by cases z))
    | _ => rfl

/-! ### methods that change -/
open AutoSeq1 (wpAny_loadPart' idx_int)
theorem list_extendW (l : Addr) (items : Array Value) (n : Nat) (b : Addr) (items2 : Array Value) (n2 : Nat) (ty : String) (hty : ty = "list" ∨ ty = "tuple") (dd : Option Addr) (sl : Array (Option Value)) (hc0 : ¬(!items.isEmpty && Builtin.List.listTooLong (items.size + items2.size)) = true) (hc1 : items.size ≤ sizeLine) (hs2 : items.size + items2.size ≤ sizeLine + 1) :
    Meets (Builtin.«list.extend» ⟨[.ref l, .ref b], []⟩) (fun _ R s => s.heap.get? l = some { cls := .type "list", dict := none, data := .seq items n, slots := #[] } ∧ s.heap.get? b = some { cls := .type ty, dict := dd, data := .seq items2 n2, slots := sl } ∧ R (.ok (.ret Value.none)) { s with heap := s.heap.update l (Obj.mapSeq fun x => x ++ items2), toks := s.toks }) := by
  rcases hty with rfl | rfl
  · exact .of_wp fun prog w A R s h => by
      obtain ⟨hp, g, d, tk, os⟩ := s; obtain ⟨hl, hb, h⟩ := h; have f1 := idx_int; have f2 := AutoSeq1.sub_tuple_tuple; have f3 := AutoSeq1.sub_list_list; have f4 := AutoSeq1.sub_tuple_list; have f5 := AutoSeq1.sub_list_tuple
      have hz' : (items ++ items2).size ≤ sizeLine + 1 := by rw [Array.size_append]; exact hs2
      wp_walk using (wpAny_updateSeq hl rfl (hz := hc1) (_hz' := hz')), wpAny_loadPart' hl, wpAny_loadPart' hb; exact ⟨_, rfl, h⟩
  · exact .of_wp fun prog w A R s h => by
      obtain ⟨hp, g, d, tk, os⟩ := s; obtain ⟨hl, hb, h⟩ := h; have f1 := idx_int; have f2 := AutoSeq1.sub_tuple_tuple; have f3 := AutoSeq1.sub_list_list; have f4 := AutoSeq1.sub_tuple_list; have f5 := AutoSeq1.sub_list_tuple
      have hz' : (items ++ items2).size ≤ sizeLine + 1 := by rw [Array.size_append]; exact hs2
      wp_walk using (wpAny_updateSeq hl rfl (hz := hc1) (_hz' := hz')), wpAny_loadPart' hl, wpAny_loadPart' hb; exact ⟨_, rfl, h⟩
def rExtW (K : PySem.W.Frag) : V → List V → Hp → VK → Prop := fun x vs H Q => ∃ l b xs zs, x = .ref l ∧ vs = [.ref b] ∧ H l = some (.lst xs) ∧ (SqL K H b zs ∨ SqT K H b zs) ∧ xs.length + zs.length ≤ sizeLine ∧ Q .non (upd H l (.lst (xs ++ zs)))
theorem mt_extW {X : Cx} : MtR X "list.extend" (rExtW X.K) := by
  intro pins s σ H x vs v us Q I rx rv h
  obtain ⟨l, b, xs, zs, rfl, rfl, hH, hB, hz, q⟩ := h
  cases rx
  obtain ⟨u, rfl, ru⟩ := rv.one
  cases ru
  obtain ⟨z, its, n, r, hl, e⟩ := I.lstM hH
  have src : ∃ (its2 : List Value) (n2 : Nat) (ty : String) (dd : Option Addr) (sl : Array (Option Value)), Vals zs its2 ∧ (ty = "list" ∨ ty = "tuple") ∧ s.heap.get? b = some { cls := .type ty, dict := dd, data := .seq its2.toArray n2, slots := sl } := by
    rcases hB with hB | hB
    · obtain ⟨its2, n2, dd, sl, r2, _, _, e2⟩ := sqL_obj I hB
      exact ⟨its2, n2, "list", dd, sl, r2, .inl rfl, e2⟩
    · obtain ⟨its2, r2, ⟨⟨cls, dd, data, sl⟩, e2, hc, n2, hd⟩, _⟩ := I.tuple hB
      simp only at hc hd
      subst hc hd
      exact ⟨its2, n2, "tuple", dd, sl, r2, .inr rfl, e2⟩
  obtain ⟨its2, n2, ty, dd, sl, r2, hty, e2⟩ := src
  have hl2 := r2.length
  have hsz : its.toArray.size + its2.toArray.size ≤ sizeLine := by rw [List.size_toArray, List.size_toArray]; omega
  have hlong : ¬ (!its.toArray.isEmpty && Builtin.List.listTooLong (its.toArray.size + its2.toArray.size)) = true := by
    rw [notLongL hsz, Bool.and_false]
    exact Bool.false_ne_true
  refine call_meets F.slot_list_extend ⟨_, e, rfl⟩ F.entry_list_extend (F.args_list_extend_2 _ _)
    (list_extendW l its.toArray n b its2.toArray n2 ty hty dd sl hlong (by rw [List.size_toArray]; omega) (by omega)) ⟨e, e2, ?_⟩
  refine ⟨.non, _, I.lset (its' := its ++ its2) hH e (by simp) (r.append r2) ?_, rfl, q⟩
  rw [List.length_append]
  omega

section
variable {G : Gx} {C : Cf} {W : WX} {X : Cx} {pa : Expr} {pes : List Expr} {es : List E} {pos apos : Pos}
/-- what a changing method is to do, by values: t is what it was, u what it is -/
def MuK (G : Gx) (X : Cx) (m : Mu) (r : V → List V → Hp → VK → Prop) : Prop := ∀ (t : Gt) (vs : List V) (ds : List D) (o1 o2 : O) (H Hf : Hp) (Q : VK), Le Hf H → OkT G H Hf t → muTy m t.er = true → Rps G Hf vs ds → muD m t.er ds = some (o1, o2) →
  (∀ (a : Addr) (ob : HO) (u : Gt) (v : V), a ∈ t.ads → OkT G (upd H a ob) Hf u → u ≠ .un → u.ads = t.ads → u.rt = t.rt → u.er = o2 → RpO G Hf v o1 → Q v (upd H a ob)) → (o2 = t.er → ∀ v, RpO G Hf v o1 → Q v H) → r t.rt vs H Q
theorem mu_ne {m : Mu} {t : Gt} (h : muTy m t.er = true) : t ≠ .un := fun e => by subst e; cases m <;> cases h
theorem mu_postG {m : Mu} {p : Pl} {r : V → List V → Hp → VK → Prop} {TY : V → Hp → Prop} (mk : MuK G X m r) (hty : ∀ (t : Gt) (H Hf : Hp), Le Hf H → OkT G H Hf t → muTy m t.er = true → TY t.rt H) (sp : (effs es).all (fun q => dj p q) = true) {σ : L2.St} {H : Hp} {Q : VK}
    (h0 : tE G C W (.mu m p es) σ H Q) : tB G C W (plE p) σ H fun x H1 => TY x H1 ∧ tEs G C W es σ H1 fun xs H2 => r x xs H2 Q := by
  obtain ⟨gs, Rm, Hf, ok, rel, h⟩ := h0
  rw [ev, eff] at h
  have e0 : bor (plE p) (gs.map er) .no = bor (plE p) (gs.map er) (ev C (plE p) (gs.map er)) := by cases p <;> rfl
  rw [e0] at h
  refine ⟨gs, Rm, Hf, ok, rel, PostB.mk pk_v h fun H1 Hf1 t1 gs1 T1 h n1 le1 ok1 he1 rel1 sm1 => ?_⟩
  have sm0 : gs1 = gs := by
    have : eff (plE p) = [] := by cases p <;> rfl
    rw [this] at sm1
    exact sm1.nil
  subst sm0
  cases em : muTy m t1.er with
  | false => rw [em] at h; exact h.elim
  | true =>
    rw [em] at h
    have h : PostV G W ((evs C es (gs1.map er)).bind fun os s => (match (dsOf os).bind (muD m (getPl p s)) with
      | some (r, o) => (match setPl p o s with
        | some s => .ok r s
        | none => .no)
      | none => .no)) (effs es ++ [p]) σ gs1 Rm Hf Q := h
    have hpl : plOf (plE p) = some p := by cases p <;> rfl
    obtain ⟨k1, hp⟩ := he1
    have hg : getT p gs1 = t1 ∧ T1 = [] := by
      rcases hp with ⟨_, hp | ⟨v, o, hp⟩⟩ | ⟨rfl, q, hq, hg⟩
      · rw [hpl] at hp; cases hp
      · subst hp
        cases k1 with
        | sh r => cases r <;> (cases m <;> cases em)
      · rw [hpl] at hq; cases hq; exact ⟨hg, rfl⟩
    obtain ⟨hg, rfl⟩ := hg
    refine ⟨hty t1 H1 Hf1 ok1.le k1 em, ?_⟩
    refine ⟨gs1, [] ++ Rm, Hf1, ok1, rel1, PostVs.mk (pk_v.more le1) h fun H2 Hf2 vs os gs2 ee h le2 ok2 pr rel2 sm2 => ?_⟩
    have hg2 : getT p gs2 = t1 := by
      rw [sm2.2 p fun q hq => List.all_eq_true.mp sp q hq]
      exact hg
    have k2 : OkT G H2 Hf2 t1 := by rw [← hg2]; exact ok2.getT p
    have epl : getPl p (gs2.map er) = t1.er := by
      cases p with
      | v i => rw [show getPl (.v i) (gs2.map er) = (gs2.map er).getD i .un from rfl, getD_map]; rw [← hg2]; rfl
      | f i x =>
        rw [show getPl (.f i x) (gs2.map er) = fldO ((gs2.map er).getD i .un) x from rfl, getD_map]
        have hg3 : (match gs2.getD i .un with | .ins _ _ _ fs => lkT fs x | _ => .un) = t1 := hg2
        cases e : gs2.getD i .un with
        | ins a dx c fs => rw [e] at hg3; rw [← hg3]; exact er_lk x fs
        | _ => rw [e] at hg3; exact absurd hg3.symm n1
    cases e1 : dsOf os with
    | none =>
      have h : PostV G W (match (dsOf os).bind (muD m (getPl p (gs2.map er))) with
        | some (r, o) => (match setPl p o (gs2.map er) with
          | some s => .ok r s
          | none => .no)
        | none => .no) (effs es ++ [p]) σ gs1 Rm Hf Q := h
      rw [e1] at h; exact h.elim
    | some ds =>
      have h : PostV G W (match (dsOf os).bind (muD m (getPl p (gs2.map er))) with
        | some (r, o) => (match setPl p o (gs2.map er) with
          | some s => .ok r s
          | none => .no)
        | none => .no) (effs es ++ [p]) σ gs1 Rm Hf Q := h
      rw [e1, epl] at h
      have h : PostV G W (match muD m t1.er ds with
        | some (r, o) => (match setPl p o (gs2.map er) with
          | some s => .ok r s
          | none => .no)
        | none => .no) (effs es ++ [p]) σ gs1 Rm Hf Q := h
      cases e2 : muD m t1.er ds with
      | none => rw [e2] at h; exact h.elim
      | some oo =>
        obtain ⟨o1, o2⟩ := oo
        rw [e2] at h
        have h : PostV G W (match setPl p o2 (gs2.map er) with
          | some s => .ok o1 s
          | none => .no) (effs es ++ [p]) σ gs1 Rm Hf Q := h
        refine mk t1 vs ds o1 o2 H2 Hf2 Q ok2.le k2 em (rps_of pr e1) e2 (fun a ob u v ha hu nu hs hr eu rv => ?_) fun eo v rv => ?_
        · rw [← eu, er_set hg2 n1] at h
          have ok3 := ok2.writeP p hg2 n1 ha hu nu (by rw [hs]; exact List.Sublist.refl _) hr
          exact post_sh ok3 (le1.trans le2) rv (rel2.setT hg2 n1 hr) (sm2.trans (Same.setT p u)) h
        · rw [eo, er_set hg2 n1] at h
          have e3 : Lw.setT p t1 gs2 = gs2 := setT_self hg2 n1
          rw [e3] at h
          exact post_sh ok2 (le1.trans le2) rv rel2 (sm2.weak fun q hq => List.mem_append_left _ hq) h

theorem mu_post {m : Mu} {p : Pl} {r : V → List V → Hp → VK → Prop} {ty : String} (mk : MuK G X m r) (hty : ∀ (t : Gt) (H Hf : Hp), Le Hf H → OkT G H Hf t → muTy m t.er = true → tyV X.K ty t.rt H) (sp : (effs es).all (fun q => dj p q) = true) {σ : L2.St} {H : Hp} {Q : VK}
    (h0 : tE G C W (.mu m p es) σ H Q) : tBM X.K ty r (tB G C W (plE p)) (tEs G C W es) σ H Q := mu_postG mk hty sp h0
theorem lst_of {m : Mu} {t : Gt} {H Hf : Hp} (k : OkT G H Hf t) (h : muTy m t.er = true) (hm : m ≠ .dpop ∧ m ≠ .dpopD) : ∃ a vs ds, t = .lst a vs ds ∧ H a = some (.lst vs) ∧ Rps G Hf vs ds := by
  cases k with
  | lst a b => exact ⟨_, _, _, rfl, a, b⟩
  | sh r => cases r <;> (cases m <;> first | exact absurd rfl hm.1 | exact absurd rfl hm.2 | cases h)
  | un => cases m <;> first | exact absurd rfl hm.1 | exact absurd rfl hm.2 | cases h
  | dK => cases m <;> first | exact absurd rfl hm.1 | exact absurd rfl hm.2 | cases h
  | dT => cases m <;> first | exact absurd rfl hm.1 | exact absurd rfl hm.2 | cases h
  | ins => cases m <;> first | exact absurd rfl hm.1 | exact absurd rfl hm.2 | cases h
theorem lst_ty {K : PySem.W.Frag} {m : Mu} (hm : m ≠ .dpop ∧ m ≠ .dpopD) (t : Gt) (H Hf : Hp) (_ : Le Hf H) (k : OkT G H Hf t) (h : muTy m t.er = true) : tyV K "list" t.rt H := by
  obtain ⟨a, vs, ds, rfl, e, _⟩ := lst_of k h hm
  exact .inl ⟨rfl, vs, SqL.of e⟩
theorem mk_append : MuK G X .append rAppend := by
  intro t vs ds o1 o2 H Hf Q l k ty r e h _
  obtain ⟨a, ws, es, rfl, hH, rw_⟩ := lst_of k ty ⟨by decide, by decide⟩
  cases r with
  | nil => cases e
  | cons r1 r2 =>
    rename_i v vs y ys
    cases r2 with
    | cons => cases e
    | nil =>
      have e : (if szOk (es.length + 1) = true then some (O.dat .none, O.lst (es ++ [y])) else none) = some (o1, o2) := e
      obtain ⟨c, e⟩ := ite_some e
      cases e
      have := szOk_le c
      exact ⟨a, ws, v, rfl, rfl, hH, by rw [rw_.length]; omega, h a _ (.lst a (ws ++ [v]) (es ++ [y])) .non (.head _) (.lst upd_same (rw_.append (.cons r1 .nil))) (fun e => by cases e) rfl rfl rfl (.dat .non)⟩
theorem mk_extend (gx : GX G X) : MuK G X .extend (rExtW X.K) := by
  intro t vs ds o1 o2 H Hf Q l k ty r e h _
  obtain ⟨a, ws, es, rfl, hH, rw_⟩ := lst_of k ty ⟨by decide, by decide⟩
  cases r with
  | nil => cases e
  | cons r1 r2 =>
    rename_i v vs y ys
    cases r2 with
    | cons => cases y <;> cases e
    | nil =>
      cases r1 with
      | lst s1 s2 =>
        rename_i b zs ys
        have e : (if szOk (es.length + ys.length) = true then some (O.dat .none, O.lst (es ++ ys)) else none) = some (o1, o2) := e
        obtain ⟨c, e⟩ := ite_some e
        cases e
        exact ⟨a, b, ws, zs, rfl, rfl, hH, .inl (gx.k ▸ l.sqL s1), by rw [rw_.length, s2.length]; exact szOk_le c, h a _ (.lst a (ws ++ zs) (es ++ ys)) .non (.head _) (.lst upd_same (rw_.append s2)) (fun e => by cases e) rfl rfl rfl (.dat .non)⟩
      | tup s1 s2 =>
        rename_i b zs ys
        have e : (if szOk (es.length + ys.length) = true then some (O.dat .none, O.lst (es ++ ys)) else none) = some (o1, o2) := e
        obtain ⟨c, e⟩ := ite_some e
        cases e
        exact ⟨a, b, ws, zs, rfl, rfl, hH, .inr (gx.k ▸ l.sqT s1), by rw [rw_.length, s2.length]; exact szOk_le c, h a _ (.lst a (ws ++ zs) (es ++ ys)) .non (.head _) (.lst upd_same (rw_.append s2)) (fun e => by cases e) rfl rfl rfl (.dat .non)⟩
      | _ => cases e
theorem rps_last {H : Hp} : ∀ {vs : List V} {ds : List D} {y : D}, Rps G H vs ds → ds.getLast? = some y → ∃ v, vs[vs.length - 1]? = some v ∧ Rp G H v y ∧ Rps G H vs.dropLast ds.dropLast := by
  intro vs ds y r e
  have hl := r.length
  have h1 : ds[ds.length - 1]? = some y := by rw [← List.getLast?_eq_getElem?]; exact e
  obtain ⟨v, h2, h3⟩ := r.get h1
  refine ⟨v, by rw [hl]; exact h2, h3, ?_⟩
  rw [List.dropLast_eq_take, List.dropLast_eq_take, hl]
  exact r.take _
theorem mk_pop : MuK G X .pop rPop := by
  intro t vs ds o1 o2 H Hf Q l k ty r e h _
  obtain ⟨a, ws, es, rfl, hH, rw_⟩ := lst_of k ty ⟨by decide, by decide⟩
  cases r with
  | cons => cases e
  | nil =>
    have e : (match es.getLast? with | some y => some (O.dat y, O.lst es.dropLast) | none => none) = some (o1, o2) := e
    cases e1 : es.getLast? with
    | none => rw [e1] at e; cases e
    | some y =>
      rw [e1] at e
      cases e
      obtain ⟨v, h1, h2, h3⟩ := rps_last rw_ e1
      exact ⟨a, ws, v, rfl, rfl, hH, h1, h a _ (.lst a ws.dropLast es.dropLast) v (.head _) (.lst upd_same h3) (fun e => by cases e) rfl rfl rfl (.dat h2)⟩
end
end Lw

set_option autoImplicit false
set_option linter.all false
set_option Elab.async false
set_option maxRecDepth 100000
set_option maxHeartbeats 1000000
/-! LSnd10: simple statements. -/
namespace Lw
open PySem PySem.Spec PyProof.Rows L2
open Gt

mutual
/-- the slots that a statement stores into -/
def asgs : S → List Nat
  | .asg i _ => [i]
  | .own i _ => [i]
  | .unp t _ => tgS t
  | .unpO is _ => is
  | .par ls _ => asgL ls
  | .augV i _ _ => [i]
  | .ite _ a b => asgss a ++ asgss b
  | .whl _ b => asgss b
  | .forr t _ b => tgS t ++ asgss b
  | .tri b hs => asgss b ++ asgH hs
  | _ => []
def asgss : List S → List Nat
  | [] => []
  | a :: r => asgs a ++ asgss r
def asgH : List (List Nat × Option Nat × List S) → List Nat
  | [] => []
  | (_, n, b) :: r => (match n with | some i => [i] | none => []) ++ asgss b ++ asgH r
def asgL : List Lh → List Nat
  | [] => []
  | .a i :: r => i :: asgL r
  | .o i :: r => i :: asgL r
  | _ :: r => asgL r
end
/-- no other slot has changed -/
def SameS (l : List Nat) (σ σ' : L2.St) : Prop := ∀ i, i ∉ l → σ'[i]? = σ[i]?
theorem SameS.refl (l : List Nat) (σ : L2.St) : SameS l σ σ := fun _ _ => rfl
theorem SameS.trans {l m : List Nat} {a b c : L2.St} (h : SameS l a b) (k : SameS m b c) : SameS (l ++ m) a c := fun i hi => (k i fun q => hi (List.mem_append_right _ q)).trans (h i fun q => hi (List.mem_append_left _ q))
theorem SameS.weak {l m : List Nat} {a b : L2.St} (h : SameS l a b) (k : ∀ i ∈ l, i ∈ m) : SameS m a b := fun i hi => h i fun q => hi (k i q)
theorem SameS.set (σ : L2.St) (i : Nat) (v : Option V) : SameS [i] σ (σ.set i v) := fun j hj => by
  rw [List.getElem?_set_ne]
  rintro rfl
  exact hj (.head _)

section
variable (G : Gx) (C : Cf) (sub : Nat → Nat → Bool) (W : WX)
/-- what is wanted behind a statement -/
def PostS (r : R Fl) (l : List Nat) (σ : L2.St) (Rm : List Gt) (Hf : Hp) (D : Ends) : Prop := match r with
  | .ok .nx s => ∀ (σ' : L2.St) (H' Hf' : Hp) (gs' : List Gt), Le Hf Hf' → Ok G H' Hf' (gs' ++ Rm) → gs'.map er = s → Rel σ' gs' → SameS l σ σ' → D.nx σ' H'
  | .ok .brk s => ∀ (σ' : L2.St) (H' Hf' : Hp) (gs' : List Gt), Le Hf Hf' → Ok G H' Hf' (gs' ++ Rm) → gs'.map er = s → Rel σ' gs' → SameS l σ σ' → D.bk σ' H'
  | .ok .cnt s => ∀ (σ' : L2.St) (H' Hf' : Hp) (gs' : List Gt), Le Hf Hf' → Ok G H' Hf' (gs' ++ Rm) → gs'.map er = s → Rel σ' gs' → SameS l σ σ' → D.ct σ' H'
  | .ok (.ret o) s => ∀ (σ' : L2.St) (H' Hf' : Hp) (t : Gt) (gs' : List Gt), t ≠ .un → Le Hf Hf' → Ok G H' Hf' (t :: (gs' ++ Rm)) → t.er = o → gs'.map er = s → Rel σ' gs' → SameS l σ σ' → D.rt t.rt H'
  | .exc c p s => ∀ (d : Option Addr) (σ' : L2.St) (H' Hf' : Hp) (gs' : List Gt), Le Hf Hf' → Ok G H' Hf' (gs' ++ Rm) → gs'.map er = s → Rel σ' gs' → SameS l σ σ' → ExcP G H' d p → W (.ref (G.ca c)) d σ' H'
  | .no => False
def tS (a : S) : TS := fun D σ H => ∃ gs Rm Hf, Ok G H Hf (gs ++ Rm) ∧ Rel σ gs ∧ PostS G W (exec C sub a (gs.map er)) (asgs a) σ Rm Hf D
def tSs (b : List S) : TS := fun D σ H => ∃ gs Rm Hf, Ok G H Hf (gs ++ Rm) ∧ Rel σ gs ∧ PostS G W (execs C sub b (gs.map er)) (asgss b) σ Rm Hf D
end
theorem _root_.L2.PS.imp {X : Cx} {st : Stmt} {t t' : TS} (h : PS X st t) (m : ∀ D σ H, t' D σ H → t D σ H) : PS X st t' := ⟨fun pins s σ H D I q => h.run pins s σ H D I (m D σ H q)⟩
theorem _root_.L2.PSs.imp {X : Cx} {st : List Stmt} {t t' : TS} (h : PSs X st t) (m : ∀ D σ H, t' D σ H → t D σ H) : PSs X st t' := ⟨fun pins s σ H D I q => h.run pins s σ H D I (m D σ H q)⟩

section
variable {G : Gx} {C : Cf} {sub : Nat → Nat → Bool} {W : WX} {σ σ' : L2.St} {gs gs' Rm : List Gt} {H Hf H' Hf' : Hp} {l m : List Nat} {D : Ends}
theorem pk_s {l : List Nat} : PostK G W σ Rm Hf fun r => PostS G W r l σ Rm Hf D := ⟨fun _ _ _ h d H' Hf' gs' le ok e rel x => h d σ H' Hf' gs' le ok e rel (SameS.refl _ _) x, fun h => h⟩
/-- from a later place -/
theorem PostS.back {r : R Fl} (h : PostS G W r l σ Rm Hf D) (le : Le Hf Hf') (sm : SameS m σ σ') (hs : ∀ i ∈ m, i ∈ l) {n : List Nat} (hn : ∀ i ∈ n, i ∈ l) : PostS G W r n σ' Rm Hf' D := by
  have tr : ∀ {σ2 : L2.St}, SameS n σ' σ2 → SameS l σ σ2 := fun s2 => (sm.trans s2).weak fun i hi => (List.mem_append.mp hi).elim (hs i) (hn i)
  cases r with
  | no => exact h
  | exc c p s => exact fun d σ2 H2 Hf2 gs2 le2 ok2 e rel s2 x => h d σ2 H2 Hf2 gs2 (le.trans le2) ok2 e rel (tr s2) x
  | ok fl s =>
    cases fl with
    | ret o => exact fun σ2 H2 Hf2 t gs2 n le2 ok2 et e rel s2 => h σ2 H2 Hf2 t gs2 n (le.trans le2) ok2 et e rel (tr s2)
    | nx => exact fun σ2 H2 Hf2 gs2 le2 ok2 e rel s2 => h σ2 H2 Hf2 gs2 (le.trans le2) ok2 e rel (tr s2)
    | brk => exact fun σ2 H2 Hf2 gs2 le2 ok2 e rel s2 => h σ2 H2 Hf2 gs2 (le.trans le2) ok2 e rel (tr s2)
    | cnt => exact fun σ2 H2 Hf2 gs2 le2 ok2 e rel s2 => h σ2 H2 Hf2 gs2 (le.trans le2) ok2 e rel (tr s2)
/-- an expression, then a statement's end -/
theorem val_s {a : E} {k : O → St → R Fl} {K : V → Hp → Prop} (ok : Ok G H Hf (gs ++ Rm)) (rel : Rel σ gs) (h : PostS G W ((ev C a (gs.map er)).bind k) l σ Rm Hf D)
    (hk : ∀ (H2 Hf2 : Hp) (t : Gt) (gs2 : List Gt), PostS G W (k t.er (gs2.map er)) l σ Rm Hf D → t ≠ .un → Le Hf Hf2 → Ok G H2 Hf2 (t :: (gs2 ++ Rm)) → Rel σ gs2 → Same (eff a) gs gs2 → K t.rt H2) : Lw.tE G C W a σ H K :=
  ⟨gs, Rm, Hf, ok, rel, PostV.mk pk_s h fun H1 Hf1 t1 gs1 h n1 le1 ok1 rel1 sm1 => hk H1 Hf1 t1 gs1 h n1 le1 ok1 rel1 sm1⟩
theorem test_s {a : E} {kt kf : St → R Fl} {K : Bool → Hp → Prop} (ok : Ok G H Hf (gs ++ Rm)) (rel : Rel σ gs)
    (h : PostS G W ((ev C a (gs.map er)).bind fun x s => match x with | .dat (.bool true) => kt s | .dat (.bool false) => kf s | _ => .no) l σ Rm Hf D)
    (ht : ∀ (H2 Hf2 : Hp) (gs2 : List Gt), PostS G W (kt (gs2.map er)) l σ Rm Hf D → Le Hf Hf2 → Ok G H2 Hf2 (gs2 ++ Rm) → Rel σ gs2 → K true H2)
    (hf : ∀ (H2 Hf2 : Hp) (gs2 : List Gt), PostS G W (kf (gs2.map er)) l σ Rm Hf D → Le Hf Hf2 → Ok G H2 Hf2 (gs2 ++ Rm) → Rel σ gs2 → K false H2) : tT G C W a σ H K := by
  refine ⟨gs, Rm, Hf, ok, rel, PostV.mk pk_s h fun H2 Hf2 t gs2 h n le ok2 rel2 sm => ?_⟩
  have kk := ok2.ok _ (.head _)
  cases kk with
  | sh r =>
    cases r with
    | dat r =>
      cases r <;> first | exact h.elim | skip
      case bl b =>
        cases b with
        | true => exact ⟨true, rfl, ht H2 Hf2 gs2 h le ok2.drop rel2⟩
        | false => exact ⟨false, rfl, hf H2 Hf2 gs2 h le ok2.drop rel2⟩
    | _ => exact h.elim
  | _ => exact h.elim
/-- a tree goes into a slot -/
theorem Ok.putS {u : Gt} (i : Nat) (ok : Ok G H Hf (u :: (gs ++ Rm))) : Ok G H Hf (gs.set i u ++ Rm) := by
  by_cases hl : i < gs.length
  · refine Ok.slot hl (ok.sub ?_)
    refine List.Sublist.cons_cons u ?_
    refine List.Sublist.append ?_ (List.Sublist.refl Rm)
    have e : gs = gs.take i ++ gs.drop i := (List.take_append_drop i gs).symm
    conv => rhs; rw [e]
    exact (List.Sublist.refl _).append (List.drop_sublist_drop_left gs (Nat.le_succ i))
  · rw [List.set_eq_of_length_le (Nat.le_of_not_lt hl)]
    exact ok.drop
end

section
variable {G : Gx} {C : Cf} {sub : Nat → Nat → Bool} {W : WX} {X : Cx} {pa pb pc : Expr} {a b c : E} {pos : Pos} {st : Stmt} {rest : List Stmt}
theorem snd_nil : PSs X [] (tSs G C sub W []) := by
  refine pss_nil.imp fun D σ H ⟨gs, Rm, Hf, ok, rel, h⟩ => ?_
  rw [execs] at h
  exact h σ H Hf gs (Le.refl _) ok rfl rel (SameS.refl _ _)
theorem snd_cons {x : S} {xs : List S} (h1 : PS X st (tS G C sub W x)) (h2 : PSs X rest (tSs G C sub W xs)) : PSs X (st :: rest) (tSs G C sub W (x :: xs)) := by
  refine (pss_cons h1 h2).imp fun D σ H ⟨gs, Rm, Hf, ok, rel, h⟩ => ?_
  rw [execs, asgss] at h
  refine ⟨gs, Rm, Hf, ok, rel, ?_⟩
  have w1 : ∀ i ∈ asgs x, i ∈ asgs x ++ asgss xs := fun i hi => List.mem_append_left _ hi
  have w2 : ∀ i ∈ asgss xs, i ∈ asgs x ++ asgss xs := fun i hi => List.mem_append_right _ hi
  cases e : exec C sub x (gs.map er) with
  | no => rw [e] at h; exact h
  | exc c p s =>
    rw [e] at h
    exact fun d σ2 H2 Hf2 gs2 le2 ok2 e2 rel2 s2 x => h d σ2 H2 Hf2 gs2 le2 ok2 e2 rel2 (s2.weak w1) x
  | ok fl s =>
    rw [e] at h
    cases fl with
    | nx =>
      intro σ2 H2 Hf2 gs2 le2 ok2 e2 rel2 s2
      subst e2
      exact ⟨gs2, Rm, Hf2, ok2, rel2, PostS.back h le2 s2 w1 w2⟩
    | brk => exact fun σ2 H2 Hf2 gs2 le2 ok2 e2 rel2 s2 => h σ2 H2 Hf2 gs2 le2 ok2 e2 rel2 (s2.weak w1)
    | cnt => exact fun σ2 H2 Hf2 gs2 le2 ok2 e2 rel2 s2 => h σ2 H2 Hf2 gs2 le2 ok2 e2 rel2 (s2.weak w1)
    | ret o => exact fun σ2 H2 Hf2 t gs2 n le2 ok2 et e2 rel2 s2 => h σ2 H2 Hf2 t gs2 n le2 ok2 et e2 rel2 (s2.weak w1)
/-- a slot becomes shared: no statement of the text -/
theorem snd_frz {i : Nat} {sts : List Stmt} {xs : List S} (h2 : PSs X sts (tSs G C sub W xs)) : PSs X sts (tSs G C sub W (.frz i :: xs)) := by
  refine h2.imp fun D σ H ⟨gs, Rm, Hf, ok, rel, h⟩ => ?_
  rw [execs, exec] at h
  have h : PostS G W (execs C sub xs ((gs.map er).set i (fz ((gs.map er).getD i .un)))) (asgss (.frz i :: xs)) σ Rm Hf D := h
  rw [getD_map] at h
  by_cases n : gs.getD i .un = .un
  · rw [n] at h
    have e : (gs.map er).set i (fz (Gt.un).er) = gs.map er := by
      show (gs.map er).set i O.un = _
      cases e : gs[i]? with
      | none =>
        rw [List.set_eq_of_length_le]
        rw [List.length_map]
        exact List.getElem?_eq_none_iff.mp e
      | some t =>
        have : t = .un := by
          rw [List.getD_eq_getElem?_getD, e] at n; exact n
        subst this
        obtain ⟨hl, e2⟩ := List.getElem?_eq_some_iff.mp e
        have e3 : (gs.map er)[i]? = some O.un := by rw [List.getElem?_map, e]; rfl
        obtain ⟨hl3, e4⟩ := List.getElem?_eq_some_iff.mp e3
        rw [← e4]
        exact List.set_getElem_self hl3
    rw [e] at h
    exact ⟨gs, Rm, Hf, ok, rel, h⟩
  · have hi := getD_at rfl n
    have hl : i < gs.length := (List.getElem?_eq_some_iff.mp hi).1
    obtain ⟨Hg, lg, ok2⟩ := (ok.perm (set_mid hi).symm).freeze n
    refine ⟨gs.set i (.sh (gs.getD i .un).rt (fz (gs.getD i .un).er)), Rm, Hg, Ok.slot hl ok2, rel.upd i hi n rfl, ?_⟩
    rw [map_set_er]
    exact PostS.back h lg (SameS.refl [] _) (fun _ h => nomatch h) (fun i hi => hi)
theorem put_post {i : Nat} {f : O → St → Option St} {σ : L2.St} {gs Rm : List Gt} {Hf : Hp} {D : Ends} {o : O} {s : St} {l : List Nat} (h : PostS G W (match f o s with | some s => .ok .nx s | none => .no) l σ Rm Hf D) : ∃ s', f o s = some s' ∧ PostS G W (.ok .nx s') l σ Rm Hf D := by
  cases e : f o s with
  | none => rw [e] at h; exact h.elim
  | some s' => rw [e] at h; exact ⟨s', rfl, h⟩
theorem fz_un {t : Gt} {H Hf : Hp} (k : OkT G H Hf t) (n : t ≠ .un) : fz t.er ≠ .un := by
  cases k with
  | un => exact absurd rfl n
  | sh r => cases r <;> exact fun e => by cases e
  | _ => exact fun e => by cases e
theorem asg_post {i : Nat} {D : Ends} {σ : L2.St} {H : Hp} (h0 : tS G C sub W (.asg i a) D σ H) : tAsg (tE G C W a) (gName i) D σ H := by
  obtain ⟨gs, Rm, Hf, ok, rel, h⟩ := h0
  rw [exec, asgs] at h
  refine val_s ok rel h fun H2 Hf2 t gs2 h n le ok2 rel2 sm => ?_
  obtain ⟨Hg, lg, ok3⟩ := ok2.freeze n
  have nz := fz_un (ok2.ok _ (.head _)) n
  have h : PostS G W (match putV i t.er (gs2.map er) with | some s => .ok .nx s | none => .no) [i] σ Rm Hf D := h
  have e : putV i t.er (gs2.map er) = some ((gs2.map er).set i (fz t.er)) := by
    unfold putV
    split
    · rename_i e; exact absurd e nz
    · rfl
  rw [e] at h
  exact h (σ.set i (some t.rt)) H2 Hg (gs2.set i (.sh t.rt (fz t.er))) (le.trans lg) (ok3.putS i) (by rw [map_set_er]; rfl) (rel2.set i rfl) (SameS.set _ _ _)
theorem snd_asg {i : Nat} {x : Str} {p' : Pos} (hN : X.N.Nodup) (hi : X.N[i]? = some x) (hx : Loc X.env.scope x) (ha : PE X pa (tE G C W a)) (hs : swapsWith pa (some (.Name x p')) pos.line X.env = pure false) (hf : X.fn x = true ∨ X.env.scope.names.lookup x = some .local) : PS X (.Assign [.Name x p'] pa pos) (tS G C sub W (.asg i a)) :=
  (ps_set hN hi hx ha hs hf).imp fun D σ H h => asg_post h
theorem own_post {i : Nat} {D : Ends} {σ : L2.St} {H : Hp} (h0 : tS G C sub W (.own i a) D σ H) : tAsg (tE G C W a) (gName i) D σ H := by
  obtain ⟨gs, Rm, Hf, ok, rel, h⟩ := h0
  rw [exec, asgs] at h
  refine val_s ok rel h fun H2 Hf2 t gs2 h n le ok2 rel2 sm => ?_
  have nz := er_un (ok2.ok _ (.head _)) n
  have h : PostS G W (match ownV i t.er (gs2.map er) with | some s => .ok .nx s | none => .no) [i] σ Rm Hf D := h
  have e : ownV i t.er (gs2.map er) = some ((gs2.map er).set i t.er) := by
    unfold ownV
    split
    · rename_i e; exact absurd e nz
    · rfl
  rw [e] at h
  exact h (σ.set i (some t.rt)) H2 Hf2 (gs2.set i t) le (ok2.putS i) (by rw [map_set_er]) (rel2.set i rfl) (SameS.set _ _ _)
theorem snd_own {i : Nat} {x : Str} {p' : Pos} (hN : X.N.Nodup) (hi : X.N[i]? = some x) (hx : Loc X.env.scope x) (ha : PE X pa (tE G C W a)) (hs : swapsWith pa (some (.Name x p')) pos.line X.env = pure false) (hf : X.fn x = true ∨ X.env.scope.names.lookup x = some .local) : PS X (.Assign [.Name x p'] pa pos) (tS G C sub W (.own i a)) :=
  (ps_set hN hi hx ha hs hf).imp fun D σ H h => own_post h
theorem snd_ex (ha : PE X pa (tE G C W a)) (hs : swapsWith pa none pos.line X.env = pure false) : PS X (.Expr pa pos) (tS G C sub W (.ex a)) := by
  refine (ps_expr ha hs).imp fun D σ H ⟨gs, Rm, Hf, ok, rel, h⟩ => ?_
  rw [exec] at h
  exact val_s ok rel h fun H2 Hf2 t gs2 h n le ok2 rel2 sm => h σ H2 Hf2 gs2 le ok2.drop rfl rel2 (SameS.refl _ _)
theorem snd_ret (ha : PE X pa (tE G C W a)) : PS X (.Return (some pa) pos) (tS G C sub W (.ret a)) := by
  refine (ps_ret ha).imp fun D σ H ⟨gs, Rm, Hf, ok, rel, h⟩ => ?_
  rw [exec] at h
  exact val_s ok rel h fun H2 Hf2 t gs2 h n le ok2 rel2 sm => h σ H2 Hf2 t gs2 n le ok2 rfl rfl rel2 (SameS.refl _ _)
theorem snd_retN : PS X (.Return none pos) (tS G C sub W .retN) := by
  refine ps_retN.imp fun D σ H ⟨gs, Rm, Hf, ok, rel, h⟩ => ?_
  rw [exec] at h
  exact h σ H Hf (.sh .non (.dat .none)) gs (fun e => by cases e) (Le.refl _) (ok.sh (.dat .non)) rfl rfl rel (SameS.refl _ _)
theorem snd_retM {i : Nat} {x : Str} {px : Pos} (hN : X.N[i]? = some x) (hv : Vis X.env.scope x) (hd : (x == ("__debug__" : Str)) = false) (hcd : (x == ("__classdict__" : Str)) = false) : PS X (.Return (some (.Name x px)) pos) (tS G C sub W (.retM i)) := by
  refine (ps_ret (pe_var hN hv hd hcd)).imp fun D σ H ⟨gs, Rm, Hf, ok, rel, h⟩ => ?_
  rw [exec, getD_map] at h
  have n : gs.getD i .un ≠ .un := fun e => by rw [e] at h; exact h
  have hi := getD_at rfl n
  have hl : i < gs.length := (List.getElem?_eq_some_iff.mp hi).1
  refine ⟨_, rel.2 i _ hi n, ?_⟩
  have h2 : PostS G W (.ok (.ret (gs.getD i .un).er) ((gs.map er).set i .un)) (asgs (.retM i)) σ Rm Hf D := by
    split at h
    · exact h.elim
    · exact h
  refine h2 σ H Hf (gs.getD i .un) (gs.set i .un) n (Le.refl _) ?_ rfl (by rw [map_set_er]; rfl) (rel.un i) (SameS.refl _ _)
  have o2 := ok.perm (set_mid hi).symm
  have hu : (gs.set i Gt.un)[i]? = some .un := by rw [List.getElem?_set_self hl]
  have p := set_mid (Rm := Rm) hu
  rw [(set_mid2 (u := Gt.un) hl).1, (set_mid2 (u := Gt.un) hl).2] at p
  refine Ok.perm ?_ (p.cons (gs.getD i .un))
  refine ⟨o2.le, fun t ht => ?_, ?_, fun a ha => ?_⟩
  · rcases List.mem_cons.mp ht with rfl | ht
    · exact o2.ok _ (.head _)
    · rcases List.mem_cons.mp ht with rfl | ht
      · exact .un
      · exact o2.ok t (.tail _ ht)
  · simpa [ads] using o2.nd
  · exact o2.ap a (by simpa [ads] using ha)
theorem snd_ite {ba bb : List Stmt} {xa xb : List S} (hc : PT X pc (tT G C W c)) (ha : PSs X ba (tSs G C sub W xa)) (hb : PSs X bb (tSs G C sub W xb)) : PS X (.If pc ba bb pos) (tS G C sub W (.ite c xa xb)) := by
  refine (ps_if hc ha hb).imp fun D σ H ⟨gs, Rm, Hf, ok, rel, h⟩ => ?_
  rw [exec, asgs] at h
  refine test_s (K := fun b H1 => if b = true then tSs G C sub W xa D σ H1 else tSs G C sub W xb D σ H1) ok rel h (fun H2 Hf2 gs2 h le ok2 rel2 => ?_) fun H2 Hf2 gs2 h le ok2 rel2 => ?_
  · exact ⟨gs2, Rm, Hf2, ok2, rel2, PostS.back h le (SameS.refl [] _) (fun _ h => nomatch h) fun i hi => List.mem_append_left _ hi⟩
  · exact ⟨gs2, Rm, Hf2, ok2, rel2, PostS.back h le (SameS.refl [] _) (fun _ h => nomatch h) fun i hi => List.mem_append_right _ hi⟩
theorem snd_pass : PS X (.Pass pos) (tS G C sub W .pass) := by
  refine ps_pass.imp fun D σ H ⟨gs, Rm, Hf, ok, rel, h⟩ => ?_
  rw [exec] at h
  exact h σ H Hf gs (Le.refl _) ok rfl rel (SameS.refl _ _)
theorem snd_brk : PS X (.Break pos) (tS G C sub W .brk) := by
  refine ps_break.imp fun D σ H ⟨gs, Rm, Hf, ok, rel, h⟩ => ?_
  rw [exec] at h
  exact h σ H Hf gs (Le.refl _) ok rfl rel (SameS.refl _ _)
theorem snd_cnt : PS X (.Continue pos) (tS G C sub W .cnt) := by
  refine ps_continue.imp fun D σ H ⟨gs, Rm, Hf, ok, rel, h⟩ => ?_
  rw [exec] at h
  exact h σ H Hf gs (Le.refl _) ok rfl rel (SameS.refl _ _)
theorem snd_doc {x : Str} {j : Nat} {p' : Pos} {xs : List S} {sts : List Stmt} (h : PSs X sts (tSs G C sub W xs)) : PSs X (.Expr (.Constant (.str x) j pos) p' :: sts) (tSs G C sub W xs) := (pss_cons ps_doc h).imp fun D σ H h => h
end
end Lw

set_option autoImplicit false
set_option linter.all false
set_option Elab.async false
set_option maxRecDepth 100000
set_option maxHeartbeats 1000000
/-! LSnd11: while, for. -/
namespace Lw
open PySem PySem.Spec PyProof.Rows L2
open Gt

section
variable {G : Gx} {C : Cf} {sub : Nat → Nat → Bool} {W : WX} {X : Cx} {pc : Expr} {c : E} {pos : Pos} {pb : List Stmt} {b : List S}
/-- behind a turn -/
def whlK (n : Nat) (c : St → R O) (b : St → R Fl) (r : R Fl) : R Fl := match r with
  | .ok .nx s => whlGo c b n s
  | .ok .cnt s => whlGo c b n s
  | .ok .brk s => .ok .nx s
  | .ok (.ret o) s => .ok (.ret o) s
  | .exc c p s => .exc c p s
  | .no => .no
theorem whl_step (n : Nat) (c : St → R O) (b : St → R Fl) (s : St) : whlGo c b (n + 1) s = (c s).bind fun x s => match x with | .dat (.bool true) => whlK n c b (b s) | .dat (.bool false) => .ok .nx s | _ => .no := by
  rw [whlGo]
  cases c s with
  | no => rfl
  | exc c p s => rfl
  | ok o s =>
    show _ = (match o with | .dat (.bool true) => whlK n c b (b s) | .dat (.bool false) => .ok .nx s | _ => .no)
    cases o with
    | dat d => cases d with
      | bool b => cases b <;> rfl
      | _ => rfl
    | _ => rfl
theorem snd_whl (hp : PassesOwn (model X.prog X.w) X.A X.env X.xe) (hc : PT X pc (tT G C W c)) (hb : PSs X pb (tSs G C sub W b)) : PS X (.While pc pb [] pos) (tS G C sub W (.whl c b)) := by
  refine (ps_while hp hc hb).imp fun D σ H ⟨gs, Rm, Hf, ok, rel, h⟩ => ?_
  rw [exec, asgs] at h
  refine ⟨fun m σ2 H2 => ∃ (gs2 : List Gt) (Hf2 : Hp), Ok G H2 Hf2 (gs2 ++ Rm) ∧ Rel σ2 gs2 ∧ PostS G W (whlGo (fun s => ev C c s) (fun s => execs C sub b s) m (gs2.map er)) (asgss b) σ2 Rm Hf2 D, ⟨C.wf, gs, Hf, ok, rel, h⟩, ?_⟩
  intro m σ2 H2 ⟨gs2, Hf2, ok2, rel2, h⟩
  cases m with
  | zero => exact h.elim
  | succ n =>
    rw [whl_step] at h
    refine test_s ok2 rel2 h (fun H3 Hf3 gs3 h le3 ok3 rel3 => ?_) fun H3 Hf3 gs3 h le3 ok3 rel3 => ?_
    · rw [if_pos rfl]
      refine ⟨fun σ4 H4 => ∃ (gs4 : List Gt) (Hf4 : Hp), Ok G H4 Hf4 (gs4 ++ Rm) ∧ Rel σ4 gs4 ∧ PostS G W (whlGo (fun s => ev C c s) (fun s => execs C sub b s) n (gs4.map er)) (asgss b) σ4 Rm Hf4 D, fun σ4 H4 q => ⟨n, Nat.lt_succ_self n, q⟩, ?_⟩
      refine ⟨gs3, Rm, Hf3, ok3, rel3, ?_⟩
      cases e : execs C sub b (gs3.map er) with
      | no => rw [e] at h; exact h
      | exc c0 p0 s0 =>
        rw [e] at h
        exact fun d σ4 H4 Hf4 gs4 le4 ok4 e4 rel4 sm4 x => h d σ4 H4 Hf4 gs4 (le3.trans le4) ok4 e4 rel4 sm4 x
      | ok fl s0 =>
        rw [e] at h
        cases fl with
        | nx =>
          intro σ4 H4 Hf4 gs4 le4 ok4 e4 rel4 sm4
          subst e4
          exact ⟨gs4, Hf4, ok4, rel4, PostS.back h (le3.trans le4) sm4 (fun i hi => hi) fun i hi => hi⟩
        | cnt =>
          intro σ4 H4 Hf4 gs4 le4 ok4 e4 rel4 sm4
          subst e4
          exact ⟨gs4, Hf4, ok4, rel4, PostS.back h (le3.trans le4) sm4 (fun i hi => hi) fun i hi => hi⟩
        | brk => exact fun σ4 H4 Hf4 gs4 le4 ok4 e4 rel4 sm4 => h σ4 H4 Hf4 gs4 (le3.trans le4) ok4 e4 rel4 sm4
        | ret o => exact fun σ4 H4 Hf4 t gs4 n4 le4 ok4 et e4 rel4 sm4 => h σ4 H4 Hf4 t gs4 n4 (le3.trans le4) ok4 et e4 rel4 sm4
    · rw [if_neg (by decide)]
      exact h σ2 H3 Hf3 gs3 le3 ok3 rfl rel3 (SameS.refl _ _)
end

/-! ### targets -/
/-- no other slot's tree has changed -/
def SameG (l : List Nat) (gs gs' : List Gt) : Prop := gs'.length = gs.length ∧ ∀ i, i ∉ l → gs'[i]? = gs[i]?
theorem SameG.refl (l : List Nat) (gs : List Gt) : SameG l gs gs := ⟨rfl, fun _ _ => rfl⟩
theorem SameG.trans {l m : List Nat} {a b c : List Gt} (h : SameG l a b) (k : SameG m b c) : SameG (l ++ m) a c := ⟨k.1.trans h.1, fun i hi => (k.2 i fun q => hi (List.mem_append_right _ q)).trans (h.2 i fun q => hi (List.mem_append_left _ q))⟩
theorem SameG.set (gs : List Gt) (i : Nat) (t : Gt) : SameG [i] gs (gs.set i t) := ⟨by simp, fun j hj => by
  rw [List.getElem?_set_ne]
  rintro rfl
  exact hj (.head _)⟩
section
variable (G : Gx)
def tG (t : Tg) : TG := fun v σ H Q => ∃ (d : D) (gs Rm : List Gt) (Hf : Hp) (s : St), Ok G H Hf (gs ++ Rm) ∧ Rel σ gs ∧ Rp G Hf v d ∧ tset t d (gs.map er) = some s ∧
  ∀ (σ' : L2.St) (gs' : List Gt), Ok G H Hf (gs' ++ Rm) → gs'.map er = s → Rel σ' gs' → SameS (tgS t) σ σ' → SameG (tgS t) gs gs' → Q σ' H
def tGs (ts : List Tg) : TGs := fun vs σ H Q => ∃ (ds : List D) (gs Rm : List Gt) (Hf : Hp) (s : St), Ok G H Hf (gs ++ Rm) ∧ Rel σ gs ∧ Rps G Hf vs ds ∧ tsets ts ds (gs.map er) = some s ∧
  ∀ (σ' : L2.St) (gs' : List Gt), Ok G H Hf (gs' ++ Rm) → gs'.map er = s → Rel σ' gs' → SameS (tgSs ts) σ σ' → SameG (tgSs ts) gs gs' → Q σ' H
end
theorem _root_.L2.PG.imp {X : Cx} {e : Expr} {t t' : TG} (h : PG X e t) (m : ∀ v σ H Q, t' v σ H Q → t v σ H Q) : PG X e t' := ⟨fun pins s σ H v u Q I r q => h.run pins s σ H v u Q I r (m v σ H Q q)⟩
theorem _root_.L2.PGs.imp {X : Cx} {e : List Expr} {t t' : TGs} (h : PGs X e t) (m : ∀ v σ H Q, t' v σ H Q → t v σ H Q) : PGs X e t' := ⟨fun pins s σ H v u Q I r q => h.run pins s σ H v u Q I r (m v σ H Q q)⟩
section
variable {G : Gx} {X : Cx} {pos : Pos}
theorem snd_gname {i : Nat} {x : Str} (hN : X.N.Nodup) (hi : X.N[i]? = some x) (hx : Loc X.env.scope x) (hf : X.fn x = true ∨ X.env.scope.names.lookup x = some .local) : PG X (.Name x pos) (tG G (.v i)) := by
  refine (pg_name hN hi hx hf).imp fun v σ H Q ⟨d, gs, Rm, Hf, s, ok, rel, r, e, h⟩ => ?_
  have e : some ((gs.map er).set i (.dat d)) = some s := e
  cases e
  exact h (σ.set i (some v)) (gs.set i (.sh v (.dat d))) ((ok.sh (.dat r)).putS i) (by rw [map_set_er]; rfl) (rel.set i rfl) (SameS.set _ _ _) (SameG.set _ _ _)
theorem snd_gnil : PGs X [] (tGs G []) := by
  refine pgs_nil.imp fun vs σ H Q ⟨ds, gs, Rm, Hf, s, ok, rel, r, e, h⟩ => ?_
  cases r with
  | nil =>
    rw [tsets] at e
    cases e
    exact ⟨rfl, h σ gs ok rfl rel (SameS.refl _ _) (SameG.refl _ _)⟩
  | cons => rw [tsets] at e <;> first | cases e | simp
theorem snd_gcons {pa : Expr} {pr : List Expr} {t : Tg} {ts : List Tg} (h1 : PG X pa (tG G t)) (h2 : PGs X pr (tGs G ts)) (hs : (assignEach (pa :: pr) X.env).map (·.2) = assign pa X.env :: (assignEach pr X.env).map (·.2)) : PGs X (pa :: pr) (tGs G (t :: ts)) := by
  refine (pgs_cons h1 h2 hs).imp fun vs σ H Q ⟨ds, gs, Rm, Hf, s, ok, rel, r, e, h⟩ => ?_
  cases r with
  | nil => rw [tsets] at e <;> first | cases e | simp
  | @cons v vs d ds r1 r2 =>
    rw [tsets] at e
    obtain ⟨s1, e1, e2⟩ := Option.bind_eq_some_iff.mp e
    refine ⟨v, vs, rfl, d, gs, Rm, Hf, s1, ok, rel, r1, e1, fun σ1 gs1 ok1 es1 rel1 sm1 sg1 => ?_⟩
    subst es1
    refine ⟨ds, gs1, Rm, Hf, s, ok1, rel1, r2, e2, fun σ2 gs2 ok2 es2 rel2 sm2 sg2 => h σ2 gs2 ok2 es2 rel2 (sm1.trans sm2) (sg1.trans sg2)⟩
theorem tsets_len : ∀ {ts : List Tg} {ds : List D} {s s' : St}, tsets ts ds s = some s' → ds.length = ts.length
  | [], [], _, _, _ => rfl
  | [], _ :: _, _, _, e => by rw [tsets] at e <;> first | cases e | simp
  | _ :: _, [], _, _, e => by rw [tsets] at e <;> first | cases e | simp
  | t :: ts, d :: ds, s, s', e => by
    rw [tsets] at e
    obtain ⟨s1, e1, e2⟩ := Option.bind_eq_some_iff.mp e
    rw [List.length_cons, List.length_cons, tsets_len e2]
theorem snd_gtup (gx : GX G X) {pr : List Expr} {ts : List Tg} {k : Nat} (hc : X.calm = true) (h : PGs X pr (tGs G ts)) (hn : (assignEach pr X.env).length = ts.length) (hst : (assignEach pr X.env).findIdx? (·.1) = none) : PG X (.Tuple pr k pos) (tG G (.t ts)) := by
  refine (pg_tup hc h hn hst).imp fun v σ H Q ⟨d, gs, Rm, Hf, s, ok, rel, r, e, h⟩ => ?_
  cases d with
  | tuple ds =>
    have e : tsets ts ds (gs.map er) = some s := e
    cases r with
    | tup r1 r2 =>
      exact ⟨_, _, rfl, gx.k ▸ ok.le.sqT r1, by rw [r2.length, tsets_len e], ds, gs, Rm, Hf, s, ok, rel, r2, e, fun σ' gs' ok' es' rel' sm' sg' => h σ' gs' ok' es' rel' sm' sg'⟩
  | _ => rw [tset] at e <;> first | cases e | simp
end

/-! ### what is walked -/
/-- the turns J give xs, while nothing shared changes -/
def Walks (G : Gx) (Hf : Hp) (J : It) (xs : List D) : Prop := ∀ (H1 Hf1 : Hp) (ts : List Gt), Le Hf Hf1 → Ok G H1 Hf1 ts → ∀ i : Nat, (xs.length ≤ i → J.stop i H1) ∧ (i < xs.length → J.go i H1) ∧
  ∀ (x : V) (H2 : Hp), i < xs.length → J.yld i H1 x H2 → ∃ (Hf2 : Hp) (d : D), Le Hf1 Hf2 ∧ Ok G H2 Hf2 ts ∧ xs[i]? = some d ∧ Rp G Hf2 x d
def tI (G : Gx) (C : Cf) (W : WX) (a : Src) : TI := fun σ H R => ∃ gs Rm Hf, Ok G H Hf (gs ++ Rm) ∧ Rel σ gs ∧ (match evj C a (gs.map er) with
  | .ok xs s => ∀ (H' Hf' : Hp) (gs' : List Gt) (J : It), Le Hf Hf' → Ok G H' Hf' (gs' ++ Rm) → gs'.map er = s → Rel σ gs' → Same (effS a) gs gs' → Walks G Hf' J xs → R J H'
  | .exc c p s => ExcQ G W σ Rm Hf c p s
  | .no => False)
section
variable {G : Gx} {C : Cf} {sub : Nat → Nat → Bool} {W : WX} {X : Cx} {pi ptg : Expr} {a : Src} {t : Tg} {pos : Pos} {pb : List Stmt} {b : List S}
def forK (xs : List D) (b : D → St → R Fl) (r : R Fl) : R Fl := match r with
  | .ok .nx s => forGo b xs s
  | .ok .cnt s => forGo b xs s
  | .ok .brk s => .ok .nx s
  | .ok (.ret o) s => .ok (.ret o) s
  | .exc c p s => .exc c p s
  | .no => .no
theorem for_step (x : D) (xs : List D) (b : D → St → R Fl) (s : St) : forGo b (x :: xs) s = forK xs b (b x s) := by
  rw [forGo]
  unfold forK
  cases b x s with
  | ok fl s => cases fl <;> rfl
  | _ => rfl
theorem snd_for (hp : PassesOwn (model X.prog X.w) X.A X.env X.xe) (hc : X.calm = true) (hi : PI X ptg pi (tI G C W a)) (hg : PG X ptg (tG G t)) (hb : PSs X pb (tSs G C sub W b)) (hs : ∀ x, foldedSetIterable pi X.env x = pure x) : PS X (.For ptg pi pb [] pos) (tS G C sub W (.forr t a b)) := by
  refine (ps_for hp hc hi hg hb hs).imp fun D σ H ⟨gs, Rm, Hf, ok, rel, h⟩ => ?_
  rw [exec, asgs] at h
  refine ⟨gs, Rm, Hf, ok, rel, ?_⟩
  cases e0 : evj C a (gs.map er) with
  | no => rw [e0] at h; exact h
  | exc c p s => rw [e0] at h; exact fun d H2 Hf2 gs2 le2 ok2 e2 rel2 x => h d σ H2 Hf2 gs2 le2 ok2 e2 rel2 (SameS.refl _ _) x
  | ok xs s0 =>
    rw [e0] at h
    intro H1 Hf1 gs1 J le1 ok1 es1 rel1 _ wk
    subst es1
    have h0 : PostS G W (forGo (fun x s => match tset t x s with | some s => execs C sub b s | none => .no) xs (gs1.map er)) (tgS t ++ asgss b) σ Rm Hf1 D := PostS.back (m := []) h le1 (SameS.refl _ _) (fun _ h => nomatch h) fun i hi => hi
    refine ⟨fun i m σ2 H2 => m + i = xs.length ∧ ∃ (gs2 : List Gt) (Hf2 : Hp), Le Hf1 Hf2 ∧ Ok G H2 Hf2 (gs2 ++ Rm) ∧ Rel σ2 gs2 ∧ PostS G W (forGo (fun x s => match tset t x s with | some s => execs C sub b s | none => .no) (xs.drop i) (gs2.map er)) (tgS t ++ asgss b) σ2 Rm Hf2 D, ⟨xs.length, rfl, gs1, Hf1, Le.refl _, ok1, rel1, h0⟩, ?_⟩
    intro i m σ2 H2 ⟨hm, gs2, Hf2, le2, ok2, rel2, h2⟩
    obtain ⟨w1, w2, w3⟩ := wk H2 Hf2 (gs2 ++ Rm) le2 ok2 i
    by_cases hl : i < xs.length
    · refine .inr ⟨w2 hl, fun σ4 H4 => ∃ (gs4 : List Gt) (Hf4 : Hp), Le Hf1 Hf4 ∧ Ok G H4 Hf4 (gs4 ++ Rm) ∧ Rel σ4 gs4 ∧ PostS G W (forGo (fun x s => match tset t x s with | some s => execs C sub b s | none => .no) (xs.drop (i + 1)) (gs4.map er)) (tgS t ++ asgss b) σ4 Rm Hf4 D, fun σ4 H4 q => ⟨m - 1, by omega, by omega, q⟩, fun x H3 hy => ?_⟩
      obtain ⟨Hf3, d, le3, ok3, ed, rd⟩ := w3 x H3 hl hy
      have ed2 : xs[i] = d := (List.getElem?_eq_some_iff.mp ed).2
      rw [List.drop_eq_getElem_cons hl, ed2, for_step] at h2
      cases et : tset t d (gs2.map er) with
      | none =>
        have h2 : PostS G W (forK (xs.drop (i + 1)) _ (match tset t d (gs2.map er) with | some s => execs C sub b s | none => .no)) (tgS t ++ asgss b) σ2 Rm Hf2 D := h2
        rw [et] at h2; exact h2.elim
      | some s3 =>
        have h2 : PostS G W (forK (xs.drop (i + 1)) (fun x s => match tset t x s with | some s => execs C sub b s | none => .no) (match tset t d (gs2.map er) with | some s => execs C sub b s | none => .no)) (tgS t ++ asgss b) σ2 Rm Hf2 D := h2
        rw [et] at h2
        have h2 : PostS G W (forK (xs.drop (i + 1)) (fun x s => match tset t x s with | some s => execs C sub b s | none => .no) (execs C sub b s3)) (tgS t ++ asgss b) σ2 Rm Hf2 D := h2
        refine ⟨d, gs2, Rm, Hf3, s3, ok3, rel2, rd, et, fun σ3 gs3 ok3 es3 rel3 sm3 _ => ?_⟩
        subst es3
        refine ⟨gs3, Rm, Hf3, ok3, rel3, ?_⟩
        have smx : ∀ {σ4 : L2.St}, SameS (asgss b) σ3 σ4 → SameS (tgS t ++ asgss b) σ2 σ4 := fun q => sm3.trans q
        cases e : execs C sub b (gs3.map er) with
        | no => rw [e] at h2; exact h2
        | exc c0 p0 s0 =>
          rw [e] at h2
          exact fun d σ4 H4 Hf4 gs4 le4 ok4 e4 rel4 sm4 x => h2 d σ4 H4 Hf4 gs4 (le3.trans le4) ok4 e4 rel4 (smx sm4) x
        | ok fl s0 =>
          rw [e] at h2
          cases fl with
          | nx =>
            intro σ4 H4 Hf4 gs4 le4 ok4 e4 rel4 sm4
            subst e4
            exact ⟨gs4, Hf4, (le2.trans le3).trans le4, ok4, rel4, PostS.back h2 (le3.trans le4) (smx sm4) (fun i hi => hi) fun i hi => hi⟩
          | cnt =>
            intro σ4 H4 Hf4 gs4 le4 ok4 e4 rel4 sm4
            subst e4
            exact ⟨gs4, Hf4, (le2.trans le3).trans le4, ok4, rel4, PostS.back h2 (le3.trans le4) (smx sm4) (fun i hi => hi) fun i hi => hi⟩
          | brk => exact fun σ4 H4 Hf4 gs4 le4 ok4 e4 rel4 sm4 => h2 σ4 H4 Hf4 gs4 (le3.trans le4) ok4 e4 rel4 (smx sm4)
          | ret o => exact fun σ4 H4 Hf4 t gs4 n4 le4 ok4 et e4 rel4 sm4 => h2 σ4 H4 Hf4 t gs4 n4 (le3.trans le4) ok4 et e4 rel4 (smx sm4)
    · refine .inl ⟨w1 (by omega), ?_⟩
      rw [List.drop_eq_nil_of_le (by omega)] at h2
      exact h2 σ2 H2 Hf2 gs2 (Le.refl _) ok2 rfl rel2 (SameS.refl _ _)
end
end Lw

set_option autoImplicit false
set_option linter.all false
set_option Elab.async false
set_option maxRecDepth 100000
set_option maxHeartbeats 1000000
/-! LSnd12: what a for statement walks. -/
namespace Lw
open PySem PySem.Spec PyProof.Rows L2
open Gt

theorem _root_.L2.PI.imp {X : Cx} {tg e : Expr} {t t' : TI} (h : PI X tg e t) (m : ∀ σ H R, t' σ H R → t σ H R) : PI X tg e t' := ⟨fun pins s σ H R I q => h.run pins s σ H R I (m σ H R q)⟩
theorem _root_.L2.PI.or {X : Cx} {tg e : Expr} {t t' : TI} (h : PI X tg e t) (h' : PI X tg e t') : PI X tg e (fun σ H R => t σ H R ∨ t' σ H R) := ⟨fun pins s σ H R I q => q.elim (h.run pins s σ H R I) (h'.run pins s σ H R I)⟩

section
variable {G : Gx} {X : Cx} {Hf : Hp}
theorem walks_list (gx : GX G X) {a : Addr} {vs : List V} {ds : List D} (s : SqL G.K Hf a vs) (r : Rps G Hf vs ds) (uq : ∀ (H : Hp) (ts : List Gt) (Hf1 : Hp), Ok G H Hf1 ts → ∀ xs ys, SqL X.K H a xs → SqL X.K H a ys → xs = ys) : Walks G Hf (Itl X.K a) ds := by
  intro H1 Hf1 ts le ok i
  have h1 : SqL X.K H1 a vs := gx.k ▸ (le.trans ok.le).sqL s
  refine ⟨fun hl => ⟨vs, h1, by rw [r.length]; exact hl⟩, fun hl => ?_, fun x H2 hl hy => ?_⟩
  · have hv : i < vs.length := by rw [r.length]; exact hl
    exact ⟨vs, vs[i], h1, List.getElem?_eq_getElem hv⟩
  · obtain ⟨rfl, q⟩ := hy
    have hx := q vs h1
    obtain ⟨d, e1, e2⟩ := r.get' hx
    exact ⟨Hf1, d, Le.refl _, ok, e1, e2.mono le⟩
end
section
variable {G : Gx} {C : Cf} {W : WX} {X : Cx} {ptg pa : Expr} {a : E}
theorem walks_listS (gx : GX G X) {Hf : Hp} {a : Addr} {vs : List V} {ds : List D} (s : SqL G.K Hf a vs) (r : Rps G Hf vs ds) : Walks G Hf (Itl X.K a) ds := by
  intro H1 Hf1 ts le ok i
  have h1 : SqL X.K H1 a vs := gx.k ▸ (le.trans ok.le).sqL s
  refine ⟨fun hl => ⟨vs, h1, by rw [r.length]; exact hl⟩, fun hl => ?_, fun x H2 hl hy => ?_⟩
  · have hv : i < vs.length := by rw [r.length]; exact hl
    exact ⟨vs, vs[i], h1, List.getElem?_eq_getElem hv⟩
  · obtain ⟨rfl, q⟩ := hy
    have hx := q vs h1
    obtain ⟨d, e1, e2⟩ := r.get' hx
    exact ⟨Hf1, d, Le.refl _, ok, e1, e2.mono le⟩
theorem walks_tupS (gx : GX G X) {Hf : Hp} {a : Addr} {vs : List V} {ds : List D} (s : SqT G.K Hf a vs) (r : Rps G Hf vs ds) : Walks G Hf (Itt X.K a) ds := by
  intro H1 Hf1 ts le ok i
  have h1 : SqT X.K H1 a vs := gx.k ▸ (le.trans ok.le).sqT s
  refine ⟨fun hl => ⟨vs, h1, by rw [r.length]; exact hl⟩, fun hl => ?_, fun x H2 hl hy => ?_⟩
  · have hv : i < vs.length := by rw [r.length]; exact hl
    exact ⟨vs, vs[i], h1, List.getElem?_eq_getElem hv⟩
  · obtain ⟨rfl, q⟩ := hy
    have hx := q vs h1
    obtain ⟨d, e1, e2⟩ := r.get' hx
    exact ⟨Hf1, d, Le.refl _, ok, e1, e2.mono le⟩
theorem walks_str {Hf : Hp} (x : Str) : Walks G Hf (Its x) (x.cps.toList.map fun c => .str ⟨#[c]⟩) := by
  intro H1 Hf1 ts le ok i
  have e : (x.cps.toList.map fun c => PyData.str ⟨#[c]⟩).length = x.cps.size := by rw [List.length_map, Array.length_toList]
  rw [e]
  refine ⟨fun hl => hl, fun hl => hl, fun v H2 hl hy => ?_⟩
  obtain ⟨rfl, c, ec, rfl⟩ := hy
  refine ⟨Hf1, .str ⟨#[c]⟩, Le.refl _, ok, ?_, .str _⟩
  rw [List.getElem?_map, Array.getElem?_toList, ec]
  rfl
theorem walks_int {Hf : Hp} (J : It) (ds : List D) (f : Nat → Int) (hs : ∀ i H, ds.length ≤ i → J.stop i H) (hg : ∀ i H, i < ds.length → J.go i H) (hy : ∀ i H x H', J.yld i H x H' → H' = H ∧ x = .int (f i)) (hd : ∀ i, i < ds.length → ds[i]? = some (.int (f i))) : Walks G Hf J ds := by
  intro H1 Hf1 ts le ok i
  refine ⟨hs i H1, hg i H1, fun x H2 hl hx => ?_⟩
  obtain ⟨rfl, rfl⟩ := hy i _ _ _ hx
  exact ⟨Hf1, _, Le.refl _, ok, hd i hl, .int _⟩
/-- an expression's items -/
theorem snd_src_e (gx : GX G X) (ha : PE X pa (tE G C W a)) : PI X ptg pa (tI G C W (.e a)) := by
  refine (((pi_list ha).or (pi_tup ha)).or (pi_str ha)).imp fun σ H Z ⟨gs, Rm, Hf, ok, rel, h⟩ => ?_
  rw [evj] at h
  cases e : ev C a (gs.map er) with
  | no => rw [e] at h; exact h.elim
  | exc c p s =>
    rw [e] at h
    exact .inl (.inl ⟨gs, Rm, Hf, ok, rel, by rw [e]; exact h⟩)
  | ok o s =>
    rw [e] at h
    have h : (match (match (fz o).d?.bind seqD with | some xs => R.ok xs s | none => R.no) with
      | .ok xs s => ∀ (H' Hf' : Hp) (gs' : List Gt) (J : It), Le Hf Hf' → Ok G H' Hf' (gs' ++ Rm) → gs'.map er = s → Rel σ gs' → Same (effS (.e a)) gs gs' → Walks G Hf' J xs → Z J H'
      | .exc c p s => ExcQ G W σ Rm Hf c p s
      | .no => False) := h
    cases e1 : (fz o).d? with
    | none => rw [e1] at h; exact h.elim
    | some d =>
      rw [e1] at h
      have fin : ∀ (H' Hf' : Hp) (t : Gt) (gs' : List Gt), t ≠ .un → Le Hf Hf' → Ok G H' Hf' (t :: (gs' ++ Rm)) → t.er = o → ∃ Hg, Le Hf' Hg ∧ Ok G H' Hg (gs' ++ Rm) ∧ Rp G Hg t.rt d := by
        intro H' Hf' t gs' n le ok' et
        obtain ⟨Hg, lg, ok2⟩ := ok'.freeze n
        have r := sh_mem ok2 (.head _)
        rw [et] at r
        exact ⟨Hg, lg, ok2.drop, rpO_d r e1⟩
      cases d with
      | list ds =>
        refine .inl (.inl ⟨gs, Rm, Hf, ok, rel, ?_⟩)
        rw [e]
        intro H' Hf' t gs' n le ok' et es' rel' sm
        obtain ⟨Hg, lg, ok2, r⟩ := fin H' Hf' t gs' n le ok' et
        generalize t.rt = v at r
        cases r with
        | lst s1 s2 => exact ⟨_, rfl, ⟨_, gx.k ▸ ok2.le.sqL s1⟩, h H' Hg gs' _ (le.trans lg) ok2 es' rel' sm (walks_listS gx s1 s2)⟩
      | tuple ds =>
        refine .inl (.inr ⟨gs, Rm, Hf, ok, rel, ?_⟩)
        rw [e]
        intro H' Hf' t gs' n le ok' et es' rel' sm
        obtain ⟨Hg, lg, ok2, r⟩ := fin H' Hf' t gs' n le ok' et
        generalize t.rt = v at r
        cases r with
        | tup s1 s2 => exact ⟨_, rfl, ⟨_, gx.k ▸ ok2.le.sqT s1⟩, h H' Hg gs' _ (le.trans lg) ok2 es' rel' sm (walks_tupS gx s1 s2)⟩
      | str x =>
        refine .inr ⟨gs, Rm, Hf, ok, rel, ?_⟩
        rw [e]
        intro H' Hf' t gs' n le ok' et es' rel' sm
        obtain ⟨Hg, lg, ok2, r⟩ := fin H' Hf' t gs' n le ok' et
        generalize t.rt = v at r
        cases r with
        | str => exact ⟨_, rfl, h H' Hg gs' _ (le.trans lg) ok2 es' rel' sm (walks_str x)⟩
      | _ => exact h.elim
/-- arguments, then the walk -/
theorem args_i {es : List E} {k : Itk} {σ : L2.St} {H : Hp} {Z : It → Hp → Prop} {K : List V → Hp → Prop} (h0 : tI G C W (.itr k es) σ H Z)
    (hk : ∀ (H2 Hf2 : Hp) (vs : List V) (ds xs : List D) (ts : List Gt), Rps G Hf2 vs ds → itrD k ds = some xs → Ok G H2 Hf2 ts → (∀ J, Walks G Hf2 J xs → Z J H2) → K vs H2) : tEs G C W es σ H K := by
  obtain ⟨gs, Rm, Hf, ok, rel, h⟩ := h0
  refine ⟨gs, Rm, Hf, ok, rel, ?_⟩
  rw [evj] at h
  cases e : evs C es (gs.map er) with
  | no => rw [e] at h; exact h
  | exc c p s => rw [e] at h; exact h
  | ok os s =>
    rw [e] at h
    intro H' Hf' vs gs' le ok' pr es' rel' sm
    have h : (match (match (dsOf os).bind (itrD k) with | some xs => R.ok xs s | none => R.no) with
      | .ok xs s => ∀ (H' Hf' : Hp) (gs' : List Gt) (J : It), Le Hf Hf' → Ok G H' Hf' (gs' ++ Rm) → gs'.map er = s → Rel σ gs' → Same (effS (.itr k es)) gs gs' → Walks G Hf' J xs → Z J H'
      | .exc c p s => ExcQ G W σ Rm Hf c p s
      | .no => False) := h
    cases e1 : dsOf os with
    | none => rw [e1] at h; exact h.elim
    | some ds =>
      rw [e1] at h
      have h : (match (match itrD k ds with | some xs => R.ok xs s | none => R.no) with
        | .ok xs s => ∀ (H' Hf' : Hp) (gs' : List Gt) (J : It), Le Hf Hf' → Ok G H' Hf' (gs' ++ Rm) → gs'.map er = s → Rel σ gs' → Same (effS (.itr k es)) gs gs' → Walks G Hf' J xs → Z J H'
        | .exc c p s => ExcQ G W σ Rm Hf c p s
        | .no => False) := h
      cases e2 : itrD k ds with
      | none => rw [e2] at h; exact h.elim
      | some xs =>
        rw [e2] at h
        exact hk H' Hf' vs ds xs _ (rps_of pr e1) e2 ok' fun J w => h H' Hf' gs' J le ok' es' rel' sm w
theorem rangeD_len (lo st : Int) : ∀ n : Nat, (rangeD lo st n).length = n
  | 0 => rfl
  | n + 1 => by rw [rangeD, List.length_cons, rangeD_len (lo + st) st n]
theorem rangeD_get (st : Int) : ∀ (n : Nat) (lo : Int) (i : Nat), i < n → (rangeD lo st n)[i]? = some (.int (lo + (i : Nat) * st))
  | 0, _, _, h => absurd h (Nat.not_lt_zero _)
  | n + 1, lo, 0, _ => by rw [rangeD, List.getElem?_cons_zero]; simp
  | n + 1, lo, i + 1, h => by
    rw [rangeD, List.getElem?_cons_succ, rangeD_get st n (lo + st) i (by omega)]
    congr 2
    rw [Int.natCast_add, Int.add_mul]
    show lo + st + (i : Int) * st = lo + ((i : Int) * st + 1 * st)
    omega
theorem small_b {i : Int} (h : small i = true) : -(2 ^ 62) ≤ i ∧ i < 2 ^ 62 := by
  unfold small at h
  rw [Bool.and_eq_true] at h
  have h1 := of_decide_eq_true h.1
  have h2 := of_decide_eq_true h.2
  omega
theorem walks_rng {Hf : Hp} (lo : Int) (n : Nat) : Walks G Hf (Itr lo n) (rangeD lo 1 n) := by
  refine walks_int _ _ (fun i => lo + (i : Nat)) (fun i H hl => by rw [rangeD_len] at hl; exact hl) (fun i H hl => by rw [rangeD_len] at hl; exact hl) (fun i H x H' h => h) fun i hl => ?_
  rw [rangeD_len] at hl
  rw [rangeD_get 1 n lo i hl, Int.mul_one]
section
variable {b c : E} {pb pc : Expr} {p pos : Pos}
theorem snd_range1 (hg : Gl X "range") (hm : X.mg "range" = none) (ha : PA X [pa] (tEs G C W [a])) (hs : starEach [pa] X.env = [(false, eval pa X.env)]) : PI X ptg (.Call (.Name "range" p) [pa] [] pos) (tI G C W (.itr .range1 [a])) := by
  refine (pi_range1 hg hm ha hs).imp fun σ H Z h => args_i h fun H2 Hf2 vs ds xs ts r e ok w => ?_
  cases r with
  | nil => cases e
  | cons r1 r =>
    cases r with
    | cons r2 r =>
      cases r1 <;> first | cases e | skip
    | nil =>
      cases r1 with
      | int j =>
        have e : (if (small j && szOk j.toNat) = true then some (rangeD 0 1 j.toNat) else none) = some xs := e
        obtain ⟨c, e⟩ := ite_some e
        cases e
        rw [Bool.and_eq_true] at c
        obtain ⟨b1, b2⟩ := small_b c.1
        exact ⟨j, rfl, b1, b2, w _ (walks_rng 0 _)⟩
      | _ => cases e
theorem snd_range2 (hg : Gl X "range") (hm : X.mg "range" = none) (ha : PA X [pa, pb] (tEs G C W [a, b])) (hs : starEach [pa, pb] X.env = [(false, eval pa X.env), (false, eval pb X.env)]) (hs2 : starEach [pb] X.env = [(false, eval pb X.env)]) : PI X ptg (.Call (.Name "range" p) [pa, pb] [] pos) (tI G C W (.itr .range2 [a, b])) := by
  refine (pi_range2 hg hm ha hs hs2).imp fun σ H Z h => args_i h fun H2 Hf2 vs ds xs ts r e ok w => ?_
  cases r with
  | nil => cases e
  | cons r1 r =>
    cases r with
    | nil => cases r1 <;> cases e
    | cons r2 r =>
      cases r with
      | cons r3 r => cases r1 <;> cases r2 <;> cases e
      | nil =>
        cases r1 <;> cases r2 <;> first | cases e | skip
        case int.int i j =>
          have e : (if (small i && small j && szOk (j - i).toNat) = true then some (rangeD i 1 (j - i).toNat) else none) = some xs := e
          obtain ⟨c, e⟩ := ite_some e
          cases e
          rw [Bool.and_eq_true, Bool.and_eq_true] at c
          obtain ⟨b1, b2⟩ := small_b c.1.1
          obtain ⟨b3, b4⟩ := small_b c.1.2
          exact ⟨i, j, rfl, ⟨b1, b2, b3, b4⟩, w _ (walks_rng i _)⟩
end
end
end Lw

set_option autoImplicit false
set_option linter.all false
set_option Elab.async false
set_option maxRecDepth 100000
set_option maxHeartbeats 1000000
/-! LSnd13: list comprehensions. -/
namespace Lw
open PySem PySem.Spec PyProof.Rows L2
open Gt

section
variable {G : Gx} {H Hf H' Hf' : Hp}
theorem flat_sub2 : ∀ {gs gs2 : List Gt}, gs2.length = gs.length → (∀ (i : Nat) (t u : Gt), gs[i]? = some t → gs2[i]? = some u → u.ads.Sublist t.ads) → (gs2.flatMap ads).Sublist (gs.flatMap ads)
  | [], [], _, _ => List.Sublist.refl _
  | [], _ :: _, e, _ => by cases e
  | _ :: _, [], e, _ => by cases e
  | t :: gs, u :: gs2, e, h => by
    rw [List.flatMap_cons, List.flatMap_cons]
    exact (h 0 t u rfl rfl).append (flat_sub2 (by simpa using e) fun i t' u' a b => h (i + 1) t' u' (by simpa using a) (by simpa using b))
/-- trees exchanged, place by place -/
theorem Ok.point {gs gs2 Rm : List Gt} (ok : Ok G H Hf (gs ++ Rm)) (e : gs2.length = gs.length) (h : ∀ (i : Nat) (t u : Gt), gs[i]? = some t → gs2[i]? = some u → OkT G H Hf t → u.ads.Sublist t.ads ∧ OkT G H Hf u) : Ok G H Hf (gs2 ++ Rm) := by
  have k : ∀ (i : Nat) (t u : Gt), gs[i]? = some t → gs2[i]? = some u → u.ads.Sublist t.ads ∧ OkT G H Hf u := fun i t u a b => h i t u a b (ok.ok t (List.mem_append_left _ (List.mem_of_getElem? a)))
  have s : ((gs2 ++ Rm).flatMap ads).Sublist ((gs ++ Rm).flatMap ads) := by
    rw [List.flatMap_append, List.flatMap_append]
    exact (flat_sub2 e fun i t u a b => (k i t u a b).1).append (List.Sublist.refl _)
  refine ⟨ok.le, fun t ht => ?_, ok.nd.sublist s, fun a ha => ok.ap a (s.subset ha)⟩
  rcases List.mem_append.mp ht with ht | ht
  · obtain ⟨i, hi, rfl⟩ := List.getElem_of_mem ht
    have hi' : i < gs.length := by rw [← e]; exact hi
    exact (k i gs[i] gs2[i] (List.getElem?_eq_getElem hi') (List.getElem?_eq_getElem hi)).2
  · exact ok.ok t (List.mem_append_right _ ht)
def wipeG : List Nat → List Gt → List Gt
  | [], gs => gs
  | i :: vs, gs => (wipeG vs gs).set i .un
theorem wipeG_len : ∀ (vs : List Nat) (gs : List Gt), (wipeG vs gs).length = gs.length
  | [], _ => rfl
  | i :: vs, gs => by rw [wipeG, List.length_set, wipeG_len vs gs]
theorem wipeG_er : ∀ (vs : List Nat) (gs : List Gt), (wipeG vs gs).map er = wipeO vs (gs.map er)
  | [], _ => rfl
  | i :: vs, gs => by rw [wipeG, wipeO, map_set_er, wipeG_er vs gs]; rfl
theorem wipeG_at (gs : List Gt) (i : Nat) : ∀ vs : List Nat, (wipeG vs gs)[i]? = gs[i]? ∨ ((wipeG vs gs)[i]? = some .un ∧ i ∈ vs)
  | [] => .inl rfl
  | j :: vs => by
    rw [wipeG]
    by_cases e : j = i
    · subst e
      by_cases hl : j < (wipeG vs gs).length
      · rw [List.getElem?_set_self hl]; exact .inr ⟨rfl, .head _⟩
      · rw [List.set_eq_of_length_le (Nat.le_of_not_lt hl)]
        rcases wipeG_at gs j vs with h | h
        · exact .inl h
        · exact .inr ⟨h.1, .tail _ h.2⟩
    · rw [List.getElem?_set_ne e]
      rcases wipeG_at gs i vs with h | h
      · exact .inl h
      · exact .inr ⟨h.1, .tail _ h.2⟩
theorem wipeG_in (gs : List Gt) (i : Nat) (hl : i < gs.length) : ∀ vs : List Nat, i ∈ vs → (wipeG vs gs)[i]? = some .un
  | j :: vs, h => by
    rw [wipeG]
    by_cases e : j = i
    · subst e
      rw [List.getElem?_set_self (by rw [wipeG_len]; exact hl)]
    · rw [List.getElem?_set_ne e]
      rcases List.mem_cons.mp h with h | h
      · exact absurd h.symm e
      · exact wipeG_in gs i hl vs h
theorem wipeG_out (gs : List Gt) (i : Nat) : ∀ vs : List Nat, i ∉ vs → (wipeG vs gs)[i]? = gs[i]?
  | [], _ => rfl
  | j :: vs, h => by
    rw [wipeG, List.getElem?_set_ne (fun e => h (by subst e; exact .head _))]
    exact wipeG_out gs i vs fun q => h (.tail _ q)
theorem Ok.wipe {gs Rm : List Gt} (vs : List Nat) (ok : Ok G H Hf (gs ++ Rm)) : Ok G H Hf (wipeG vs gs ++ Rm) := by
  refine ok.point (wipeG_len vs gs) fun i t u a b k => ?_
  rcases wipeG_at gs i vs with h | ⟨h, _⟩
  · rw [h, a] at b; cases b; exact ⟨List.Sublist.refl _, k⟩
  · rw [h] at b; cases b; exact ⟨List.nil_sublist _, .un⟩
theorem Rel.wipe {σ : L2.St} {gs : List Gt} (r : Rel σ gs) (vs : List Nat) : Rel (L2.wipe σ vs) (wipeG vs gs) := by
  refine ⟨by rw [wipe_length, wipeG_len, r.1], fun i t h n => ?_⟩
  by_cases hv : i ∈ vs
  · have hl : i < gs.length := by rw [← wipeG_len vs gs]; exact (List.getElem?_eq_some_iff.mp h).1
    rw [wipeG_in gs i hl vs hv] at h
    cases h
    exact absurd rfl n
  · rw [wipeG_out gs i vs hv] at h
    rw [wipe_out hv]
    exact r.2 i t h n
/-- only what is shared was forgotten -/
def Lost (gs : List Gt) (vs : List Nat) : Prop := ∀ i ∈ vs, ∀ t, gs[i]? = some t → t = .un ∨ ∃ v o, t = .sh v o
theorem Ok.unwipe {gs gs2 Rm Rm0 : List Gt} {vs : List Nat} (ok0 : Ok G H Hf (gs ++ Rm0)) (lost : Lost gs vs) (sg : SameG vs (wipeG vs gs) gs2) (le : Le Hf Hf') (ok : Ok G H' Hf' (gs2 ++ Rm)) : Ok G H' Hf' (gs ++ Rm) := by
  have hl : gs.length = gs2.length := by rw [sg.1, wipeG_len]
  refine ok.point hl fun i t u a b k => ?_
  by_cases hv : i ∈ vs
  · rcases lost i hv u b with rfl | ⟨v, o, rfl⟩
    · exact ⟨List.nil_sublist _, .un⟩
    · refine ⟨List.nil_sublist _, .sh ?_⟩
      exact (sh_mem ok0 (List.mem_append_left _ (List.mem_of_getElem? b))).mono le
  · rw [sg.2 i hv, wipeG_out gs i vs hv, b] at a
    cases a
    exact ⟨List.Sublist.refl _, k⟩
theorem lost_of {t : Tg} {xs : List D} {gs Rm : List Gt} (ok : Ok G H Hf (gs ++ Rm)) (h : cOk t xs (gs.map er) = true) : Lost gs (tgS t) ∧ xs.length ≤ sizeLine := by
  unfold cOk at h
  rw [Bool.and_eq_true] at h
  refine ⟨fun i hi u hu => ?_, szOk_le h.1⟩
  have := List.all_eq_true.mp h.2 i hi
  rw [getD_map] at this
  have e : gs.getD i .un = u := by rw [List.getD_eq_getElem?_getD, hu]; rfl
  rw [e] at this
  have k := ok.ok u (List.mem_append_left _ (List.mem_of_getElem? hu))
  cases k with
  | un => exact .inl rfl
  | sh => exact .inr ⟨_, _, rfl⟩
  | _ => exact absurd this Bool.false_ne_true
theorem wipe_same {σ σ2 : L2.St} {vs : List Nat} (hl : σ2.length = σ.length) (h : SameS vs (wipe σ vs) σ2) : wipe σ2 vs = wipe σ vs := by
  refine List.ext_getElem? fun i => ?_
  by_cases hv : i ∈ vs
  · have a : ∀ s : L2.St, ∀ vs : List Nat, i ∈ vs → (wipe s vs)[i]? = if i < s.length then some none else none := by
      intro s vs
      induction vs with
      | nil => exact fun h => nomatch h
      | cons j vs ih =>
        intro h
        rw [wipe]
        by_cases e : j = i
        · subst e
          by_cases hl : j < s.length
          · rw [List.getElem?_set_self (by rw [wipe_length]; exact hl), if_pos hl]
          · rw [List.set_eq_of_length_le (by rw [wipe_length]; exact Nat.le_of_not_lt hl), List.getElem?_eq_none (by rw [wipe_length]; exact Nat.le_of_not_lt hl), if_neg hl]
        · rw [List.getElem?_set_ne e]
          rcases List.mem_cons.mp h with h | h
          · exact absurd h.symm e
          · exact ih h
    rw [a σ2 vs hv, a σ vs hv, hl]
  · rw [wipe_out hv, h i hv]
end

/-! ### the source of a comprehension -/
def WalksC (G : Gx) (Hf : Hp) (ts0 : List Gt) (J : It) (xs : List D) : Prop := ∀ (H1 Hf1 : Hp) (us : List Gt), Le Hf Hf1 → Ok G H1 Hf1 (us ++ ts0) → ∀ i : Nat, (xs.length ≤ i → J.stop i H1) ∧ (i < xs.length → J.go i H1) ∧
  ∀ (x : V) (H2 : Hp), i < xs.length → J.yld i H1 x H2 → ∃ (Hf2 : Hp) (d : D), Le Hf1 Hf2 ∧ Ok G H2 Hf2 (us ++ ts0) ∧ xs[i]? = some d ∧ Rp G Hf2 x d
def tIC (G : Gx) (C : Cf) (W : WX) (a : Src) : TI := fun σ H Z => ∃ gs Rm Hf, Ok G H Hf (gs ++ Rm) ∧ Rel σ gs ∧ (match evi C a (gs.map er) with
  | .ok xs s => ∀ (H' Hf' : Hp) (gs' T : List Gt) (J : It), Le Hf Hf' → Ok G H' Hf' (gs' ++ (T ++ Rm)) → gs'.map er = s → Rel σ gs' → Same (effS a) gs gs' → WalksC G Hf' (gs' ++ (T ++ Rm)) J xs → Z J H'
  | .exc c p s => ExcQ G W σ Rm Hf c p s
  | .no => False)

section
variable {G : Gx} {C : Cf} {W : WX} {X : Cx} {ptg pi pa pc : Expr} {a : Src} {t : Tg} {c e : E} {pos : Pos}
abbrev noW : WX := fun _ _ _ _ => False
/-- the turns of a comprehension's loop -/
theorem lc_run {F : D → Option (Option D)} {tt : TT} {te : TE} {σ : L2.St} {gs R : List Gt} {H1 Hf1 : Hp} {J : It} {xs ys : List D} {Q : VK} (ok1 : Ok G H1 Hf1 (gs ++ R)) (lost : Lost gs (tgS t)) (hlen : xs.length ≤ sizeLine) (wk : WalksC G Hf1 (gs ++ R) J xs) (out : lciGo F xs = some ys)
    (item : ∀ (d : D) (y : Option D) (x : V) (H2 Hf2 : Hp) (A : Addr) (acc : List V) (ds : List D) (Nx : Hp → Prop), F d = some y → Le Hf1 Hf2 → Ok G H2 Hf2 (wipeG (tgS t) gs ++ (.lst A acc ds :: R)) → Rp G Hf2 x d → acc.length < sizeLine →
      (∀ (H3 Hf3 : Hp) (gs3 : List Gt) (acc3 : List V) (ds3 : List D), Le Hf2 Hf3 → SameG (tgS t) (wipeG (tgS t) gs) gs3 → Ok G H3 Hf3 (gs3 ++ (.lst A acc3 ds3 :: R)) → ds3 = ds ++ y.toList → Nx H3) →
      tG G t x (wipe σ (tgS t)) H2 fun σ2 H2 => wipe σ2 (tgS t) = wipe σ (tgS t) ∧ tt σ2 H2 fun b H3 => if b = true then te σ2 H3 fun v H4 => ∃ acc, H4 A = some (.lst acc) ∧ acc.length < sizeLine ∧ Nx (upd H4 A (.lst (acc ++ [v]))) else Nx H3)
    (fin : ∀ (A : Addr) (H2 Hf2 : Hp) (acc : List V), Le Hf1 Hf2 → Ok G H2 Hf2 (.lst A acc ys :: (gs ++ R)) → Q (.ref A) H2) :
    ∀ A, H1 A = none → ∃ W : Nat → Nat → Hp → Prop, (∃ m, W 0 m (upd H1 A (.lst []))) ∧ ∀ i m H, W i m H →
      (J.stop i H ∧ Q (.ref A) H) ∨ (J.go i H ∧ ∃ Nx : Hp → Prop, (∀ H', Nx H' → ∃ m', m' < m ∧ W (i + 1) m' H') ∧ ∀ x H', J.yld i H x H' → tG G t x (wipe σ (tgS t)) H' fun σ2 H2 => wipe σ2 (tgS t) = wipe σ (tgS t) ∧ tt σ2 H2 fun b H3 =>
        if b = true then te σ2 H3 fun y H4 => ∃ acc, H4 A = some (.lst acc) ∧ acc.length < sizeLine ∧ Nx (upd H4 A (.lst (acc ++ [y]))) else Nx H3) := by
  intro A hA
  refine ⟨fun i m H => m + i = xs.length ∧ ∃ (Hf2 : Hp) (acc : List V) (ds rest : List D), Le Hf1 Hf2 ∧ Ok G H Hf2 (.lst A acc ds :: (gs ++ R)) ∧ ds.length ≤ i ∧ lciGo F (xs.drop i) = some rest ∧ ds ++ rest = ys,
    ⟨xs.length, rfl, Hf1, [], [], ys, Le.refl _, ok1.new hA (.lst upd_same .nil) rfl, Nat.le_refl _, out, rfl⟩, ?_⟩
  intro i m H ⟨hm, Hf2, acc, ds, rest, le2, ok2, hl, hr, hy⟩
  obtain ⟨w1, w2, w3⟩ := wk H Hf2 [.lst A acc ds] le2 ok2 i
  by_cases hi : i < xs.length
  · refine .inr ⟨w2 hi, fun H4 => ∃ (Hf4 : Hp) (acc : List V) (ds rest : List D), Le Hf1 Hf4 ∧ Ok G H4 Hf4 (.lst A acc ds :: (gs ++ R)) ∧ ds.length ≤ i + 1 ∧ lciGo F (xs.drop (i + 1)) = some rest ∧ ds ++ rest = ys, fun H4 q => ⟨m - 1, by omega, by omega, q⟩, fun x H3 hyy => ?_⟩
    obtain ⟨Hf3, d, le3, ok3, ed, rd⟩ := w3 x H3 hi hyy
    have ed2 : xs[i] = d := (List.getElem?_eq_some_iff.mp ed).2
    rw [List.drop_eq_getElem_cons hi, ed2, lciGo] at hr
    have ok3 : Ok G H3 Hf3 (.lst A acc ds :: (gs ++ R)) := ok3
    have ok3' : Ok G H3 Hf3 (wipeG (tgS t) gs ++ (.lst A acc ds :: R)) := (ok3.perm (List.perm_middle (l₁ := gs) (l₂ := R))).wipe _
    have hacc : acc.length = ds.length := by
      cases ok3.ok _ (.head _) with
      | lst _ b => exact b.length
    have key : ∀ y, F d = some y → ∃ rest', lciGo F (xs.drop (i + 1)) = some rest' ∧ rest = y.toList ++ rest' := by
      intro y hFy
      rw [hFy] at hr
      cases hz : lciGo F (xs.drop (i + 1)) with
      | none => rw [hz] at hr; cases y <;> cases hr
      | some rest' =>
        rw [hz] at hr
        cases y <;> cases hr <;> exact ⟨_, rfl, rfl⟩
    cases hF : F d with
    | none => rw [hF] at hr; cases hr
    | some y =>
      obtain ⟨rest', e1, rfl⟩ := key y hF
      refine item d y x H3 Hf3 A acc ds _ hF (le2.trans le3) ok3' rd (by rw [hacc]; omega) fun H5 Hf5 gs5 acc5 ds5 le5 sg5 ok5 e5 => ?_
      refine ⟨Hf5, acc5, ds5, rest', (le2.trans le3).trans le5, ?_, ?_, e1, ?_⟩
      · exact (Ok.unwipe ok1 lost sg5 ((le2.trans le3).trans le5) ok5).perm (List.perm_middle (l₁ := gs) (l₂ := R)).symm
      · rw [e5, List.length_append]
        cases y <;> simp <;> omega
      · rw [e5, List.append_assoc]; exact hy
  · refine .inl ⟨w1 (by omega), ?_⟩
    rw [List.drop_eq_nil_of_le (by omega), lciGo] at hr
    cases hr
    rw [List.append_nil] at hy
    subst hy
    exact fin A H Hf2 acc le2 ok2
theorem valD {r : R O} {y : D} (h : oD r.val = some y) : ∃ o s, r = .ok o s ∧ (fz o).d? = some y := by
  cases r with
  | ok o s => exact ⟨o, s, rfl, h⟩
  | exc => cases h
  | no => cases h
theorem valB {r : R O} {b : Bool} (h : oB r.val = some b) : ∃ s, r = .ok (.dat (.bool b)) s := by
  cases r with
  | ok o s =>
    cases o with
    | dat d => cases d <;> first | (cases h; exact ⟨_, rfl⟩) | cases h
    | _ => cases h
  | exc => cases h
  | no => cases h
/-- an item is worked out and goes to the list -/
theorem item_e {σ2 : L2.St} {gs2 R : List Gt} {H2 Hf2 : Hp} {A : Addr} {acc : List V} {ds : List D} {y : D} {Nx : Hp → Prop} (he : eff e = []) (ok2 : Ok G H2 Hf2 (gs2 ++ (.lst A acc ds :: R))) (rel2 : Rel σ2 gs2) (hl : acc.length < sizeLine) (hv : oD (ev C e (gs2.map er)).val = some y)
    (hN : ∀ (H3 Hf3 : Hp) (acc3 : List V), Le Hf2 Hf3 → Ok G H3 Hf3 (gs2 ++ (.lst A acc3 (ds ++ [y]) :: R)) → Nx H3) : tE G C noW e σ2 H2 fun v H4 => ∃ acc, H4 A = some (.lst acc) ∧ acc.length < sizeLine ∧ Nx (upd H4 A (.lst (acc ++ [v]))) := by
  obtain ⟨o, s, e1, e2⟩ := valD hv
  refine ⟨gs2, .lst A acc ds :: R, Hf2, ok2, rel2, ?_⟩
  rw [e1]
  intro H3 Hf3 t gs3 n le3 ok3 et es rel3 sm
  rw [he] at sm
  have sm := sm.nil
  subst sm
  obtain ⟨Hg, lg, ok4, r⟩ := ok3.fzs n
  rw [et] at r
  have rd := rpO_d r e2
  have k : OkT G H3 Hg (.lst A acc ds) := ok4.ok _ (by simp)
  cases k with
  | lst k1 k2 =>
    refine ⟨acc, k1, hl, hN _ Hg (acc ++ [t.rt]) (le3.trans lg) ?_⟩
    have ok5 : Ok G H3 Hg (.lst A acc ds :: (gs3 ++ R)) := by
      refine (ok4.sub ?_).perm (List.perm_middle (l₁ := gs3) (l₂ := R)).symm
      exact (List.Sublist.refl gs3).append (List.sublist_append_right [_] _)
    have ok6 := ok5.write (a := A) (ob := .lst (acc ++ [t.rt])) (u := .lst A (acc ++ [t.rt]) (ds ++ [y])) (.head _) (.lst upd_same (k2.append (.cons rd .nil))) (List.Sublist.refl _)
    exact ok6.perm (List.perm_middle (l₁ := gs3) (l₂ := R))
/-- what a block's parts must be -/
structure Blk (X : Cx) (scope : Scope) (own : List (Str × Nat)) (G : Gx) (C : Cf) (t : Tg) (ptg : Expr) : Prop where
  hc : X.calm = true
  hN : X.N.Nodup
  ok : BlkOk X.N X.env.scope scope own
  ow : own.map (·.2) = tgS t
  hg : ∀ (s : Shared) (H : Hp) (C' : Addr) (cl : List (Str × Addr)) (fp : List Addr), PG (X.blk s H scope (compEnvC scope cl C' X.env) fp) ptg (tG G t)
theorem if_t {P Q : Prop} (h : P) : if true = true then P else Q := by rw [if_pos rfl]; exact h
theorem if_f {P Q : Prop} (h : Q) : if false = true then P else Q := by rw [if_neg Bool.false_ne_true]; exact h
/-- the target's store in a block -/
theorem item_g {σ : L2.St} {gs R : List Gt} {H2 Hf2 : Hp} {x : V} {d : D} {s2 : St} {K : L2.St → Hp → Prop} (rel : Rel σ gs) (ok : Ok G H2 Hf2 (wipeG (tgS t) gs ++ R)) (rd : Rp G Hf2 x d) (hs : tset t d (wipeO (tgS t) (gs.map er)) = some s2)
    (hk : ∀ (σ2 : L2.St) (gs2 : List Gt), wipe σ2 (tgS t) = wipe σ (tgS t) → Ok G H2 Hf2 (gs2 ++ R) → gs2.map er = s2 → Rel σ2 gs2 → SameG (tgS t) (wipeG (tgS t) gs) gs2 → K σ2 H2) : tG G t x (wipe σ (tgS t)) H2 K := by
  refine ⟨d, wipeG (tgS t) gs, R, Hf2, s2, ok, rel.wipe _, rd, by rw [wipeG_er]; exact hs, fun σ2 gs2 ok2 es2 rel2 sm2 sg2 => hk σ2 gs2 ?_ ok2 es2 rel2 sg2⟩
  refine wipe_same ?_ sm2
  rw [rel2.1, sg2.1, wipeG_len, rel.1]
/-- [e for t in a] -/
theorem lc_post (ne : eff e = []) {σ : L2.St} {H : Hp} {Q : VK} (h0 : tE G C W (.lc t a e) σ H Q) : tLc (tIC G C W a) (tG G t) tYes (tE G C noW e) (tgS t) σ H Q := by
  obtain ⟨gs, Rm, Hf, ok, rel, h⟩ := h0
  rw [ev, eff] at h
  refine ⟨gs, Rm, Hf, ok, rel, ?_⟩
  cases e0 : evi C a (gs.map er) with
  | no => rw [e0] at h; exact h
  | exc c p s => rw [e0] at h; exact h
  | ok xs s =>
    rw [e0] at h
    intro H1 Hf1 gs1 T J le1 ok1 es1 rel1 sm1 wk
    subst es1
    have h : PostV G W (if cOk t xs (gs1.map er) = true then ofO ((lciGo (fun x => (tset t x (wipeO (tgS t) (gs1.map er))).bind fun s => (oD (ev C e s).val).map some) xs).map .lst) (gs1.map er) else .no) (effS a) σ gs Rm Hf Q := h
    cases ec : cOk t xs (gs1.map er) with
    | false => rw [ec] at h; exact h.elim
    | true =>
      rw [ec, if_pos rfl] at h
      obtain ⟨lost, hlen⟩ := lost_of ok1 ec
      cases eo : lciGo (fun x => (tset t x (wipeO (tgS t) (gs1.map er))).bind fun s => (oD (ev C e s).val).map some) xs with
      | none => rw [eo] at h; exact h.elim
      | some ys =>
        rw [eo] at h
        refine lc_run ok1 lost hlen wk eo (fun d y x H2 Hf2 A acc ds Nx hF le2 ok2 rd hl hN => ?_) fun A H2 Hf2 acc le2 ok2 => ?_
        · obtain ⟨s2, e1, e2⟩ := Option.bind_eq_some_iff.mp hF
          obtain ⟨y', e3, e4⟩ := Option.map_eq_some_iff.mp e2
          subst e4
          refine item_g rel1 ok2 rd e1 fun σ2 gs2 hw ok3 es3 rel3 sg3 => ⟨hw, ?_⟩
          subst es3
          exact if_t (Q := Nx H2) (item_e ne ok3 rel3 hl e3 fun H3 Hf3 acc3 le3 ok4 => hN H3 Hf3 gs2 acc3 _ le3 sg3 ok4 rfl)
        · exact h H2 Hf2 (.lst A acc ys) gs1 (fun e => by cases e) (le1.trans le2) (ok2.sub (((List.Sublist.refl gs1).append (List.sublist_append_right T Rm)).cons_cons _)) rfl rfl rel1 sm1
theorem snd_lc {scope : Scope} {own : List (Str × Nat)} (B : Blk X scope own G C t ptg) (hi : PI X ptg pi (tIC G C W a)) (he : ∀ (s : Shared) (H : Hp) (C' : Addr) (cl : List (Str × Addr)) (fp : List Addr), PE (X.blk s H scope (compEnvC scope cl C' X.env) fp) pa (tE G C noW e)) (ne : eff e = [])
    (hs : ∀ x, foldedSetIterable pi X.env x = pure x) : PE X (.ListComp pa [⟨ptg, pi, [], 0⟩] scope pos) (tE G C W (.lc t a e)) :=
  (pe_lc B.hc B.hN hi B.ok B.hg (fun _ _ _ _ _ => pts_nil) he hs).imp fun σ H Q h => by
    rw [B.ow]; exact lc_post ne h
/-- [e for t in a if c] -/
theorem lci_post (nc : eff c = []) (ne : eff e = []) {σ : L2.St} {H : Hp} {Q : VK} (h0 : tE G C W (.lci t a c e) σ H Q) : tLc (tIC G C W a) (tG G t) (tT G C noW c) (tE G C noW e) (tgS t) σ H Q := by
  obtain ⟨gs, Rm, Hf, ok, rel, h⟩ := h0
  rw [ev, eff] at h
  refine ⟨gs, Rm, Hf, ok, rel, ?_⟩
  cases e0 : evi C a (gs.map er) with
  | no => rw [e0] at h; exact h
  | exc c p s => rw [e0] at h; exact h
  | ok xs s =>
    rw [e0] at h
    intro H1 Hf1 gs1 T J le1 ok1 es1 rel1 sm1 wk
    subst es1
    have h : PostV G W (if cOk t xs (gs1.map er) = true then ofO ((lciGo (fun x => (tset t x (wipeO (tgS t) (gs1.map er))).bind fun s => match oB (ev C c s).val with
      | some true => (oD (ev C e s).val).map some
      | some false => some none
      | none => none) xs).map .lst) (gs1.map er) else .no) (effS a) σ gs Rm Hf Q := h
    cases ec : cOk t xs (gs1.map er) with
    | false => rw [ec] at h; exact h.elim
    | true =>
      rw [ec, if_pos rfl] at h
      obtain ⟨lost, hlen⟩ := lost_of ok1 ec
      cases eo : lciGo (fun x => (tset t x (wipeO (tgS t) (gs1.map er))).bind fun s => match oB (ev C c s).val with
        | some true => (oD (ev C e s).val).map some
        | some false => some none
        | none => none) xs with
      | none => rw [eo] at h; exact h.elim
      | some ys =>
        rw [eo] at h
        refine lc_run ok1 lost hlen wk eo (fun d y x H2 Hf2 A acc ds Nx hF le2 ok2 rd hl hN => ?_) fun A H2 Hf2 acc le2 ok2 => ?_
        · obtain ⟨s2, e1, e2⟩ := Option.bind_eq_some_iff.mp hF
          refine item_g rel1 ok2 rd e1 fun σ2 gs2 hw ok3 es3 rel3 sg3 => ⟨hw, ?_⟩
          subst es3
          cases eb : oB (ev C c (gs2.map er)).val with
          | none => rw [eb] at e2; cases e2
          | some b =>
            rw [eb] at e2
            obtain ⟨s4, e5⟩ := valB eb
            refine ⟨gs2, .lst A acc ds :: (T ++ Rm), Hf2, ok3, rel3, ?_⟩
            rw [e5]
            intro H3 Hf3 u gs3 n le3 ok4 et es rel4 sm4
            rw [nc] at sm4
            have sm4 := sm4.nil
            subst sm4
            have hu : u.rt = .bl b := by
              have := (ok4.ok _ (.head _)).top ok4.le (d := .bool b) (by rw [et]; rfl)
              generalize u.rt = v at this
              cases this; rfl
            refine ⟨b, hu, ?_⟩
            cases b with
            | true =>
              obtain ⟨y', e3, e4⟩ := Option.map_eq_some_iff.mp e2
              subst e4
              exact if_t (item_e ne ok4.drop rel4 hl e3 fun H5 Hf5 acc3 le5 ok5 => hN H5 Hf5 gs3 acc3 _ (le3.trans le5) sg3 ok5 rfl)
            | false =>
              cases e2
              exact if_f (hN H3 Hf3 gs3 acc ds le3 sg3 ok4.drop (List.append_nil ds).symm)
        · exact h H2 Hf2 (.lst A acc ys) gs1 (fun e => by cases e) (le1.trans le2) (ok2.sub (((List.Sublist.refl gs1).append (List.sublist_append_right T Rm)).cons_cons _)) rfl rfl rel1 sm1
theorem snd_lci {scope : Scope} {own : List (Str × Nat)} (B : Blk X scope own G C t ptg) (hi : PI X ptg pi (tIC G C W a)) (ht : ∀ (s : Shared) (H : Hp) (C' : Addr) (cl : List (Str × Addr)) (fp : List Addr), PT (X.blk s H scope (compEnvC scope cl C' X.env) fp) pc (tT G C noW c))
    (he : ∀ (s : Shared) (H : Hp) (C' : Addr) (cl : List (Str × Addr)) (fp : List Addr), PE (X.blk s H scope (compEnvC scope cl C' X.env) fp) pa (tE G C noW e)) (nc : eff c = []) (ne : eff e = [])
    (hs : ∀ x, foldedSetIterable pi X.env x = pure x) : PE X (.ListComp pa [⟨ptg, pi, [pc], 0⟩] scope pos) (tE G C W (.lci t a c e)) :=
  (pe_lc B.hc B.hN hi B.ok B.hg (fun s H C' cl fp => pts_one (ht s H C' cl fp)) he hs).imp fun σ H Q h => by
    rw [B.ow]; exact lci_post nc ne h
section
variable {sub : Nat → Nat → Bool} {i : Nat} {y : Str} {py : Pos} {spos : Pos} {scope : Scope} {own : List (Str × Nat)}
/-- name = [..] -/
theorem snd_setLc (B : Blk X scope own G C t ptg) (hy : X.N[i]? = some y) (hyl : X.env.scope.names.lookup y = some .local) (hsw : swapsWith (.ListComp pa [⟨ptg, pi, [], 0⟩] scope pos) (some (.Name y py)) spos.line X.env = pure true)
    (hi : PI X ptg pi (tIC G C W a)) (he : ∀ (s : Shared) (H : Hp) (C' : Addr) (cl : List (Str × Addr)) (fp : List Addr), PE (X.blk s H scope (compEnvC scope cl C' X.env) fp) pa (tE G C noW e)) (ne : eff e = [])
    (hs : ∀ x, foldedSetIterable pi X.env x = pure x) : PS X (.Assign [.Name y py] (.ListComp pa [⟨ptg, pi, [], 0⟩] scope pos) spos) (tAsg (tE G C W (.lc t a e)) (gName i)) :=
  (ps_setLc B.hc B.hN hy hyl hsw hi B.ok B.hg (fun _ _ _ _ _ => pts_nil) he hs).imp fun D σ H h => by
    rw [B.ow]; exact lc_post ne h
theorem snd_setLci (B : Blk X scope own G C t ptg) (hy : X.N[i]? = some y) (hyl : X.env.scope.names.lookup y = some .local) (hsw : swapsWith (.ListComp pa [⟨ptg, pi, [pc], 0⟩] scope pos) (some (.Name y py)) spos.line X.env = pure true)
    (hi : PI X ptg pi (tIC G C W a)) (ht : ∀ (s : Shared) (H : Hp) (C' : Addr) (cl : List (Str × Addr)) (fp : List Addr), PT (X.blk s H scope (compEnvC scope cl C' X.env) fp) pc (tT G C noW c)) (he : ∀ (s : Shared) (H : Hp) (C' : Addr) (cl : List (Str × Addr)) (fp : List Addr), PE (X.blk s H scope (compEnvC scope cl C' X.env) fp) pa (tE G C noW e)) (nc : eff c = []) (ne : eff e = [])
    (hs : ∀ x, foldedSetIterable pi X.env x = pure x) : PS X (.Assign [.Name y py] (.ListComp pa [⟨ptg, pi, [pc], 0⟩] scope pos) spos) (tAsg (tE G C W (.lci t a c e)) (gName i)) :=
  (ps_setLc B.hc B.hN hy hyl hsw hi B.ok B.hg (fun s H C' cl fp => pts_one (ht s H C' cl fp)) he hs).imp fun D σ H h => by
    rw [B.ow]; exact lci_post nc ne h
end
end
end Lw

set_option autoImplicit false
set_option linter.all false
set_option Elab.async false
set_option maxRecDepth 100000
set_option maxHeartbeats 1000000
/-! LEnumT: enumerate over a list or a tuple. -/
namespace Lw
open PySem PySem.Spec PyProof.Rows L2

theorem enum_newB1 {v : Value} {o : Obj} {H : Heap → Prop} (B : Begins v o H) :
    Meets (Builtin.«enumerate.__new__» ⟨[.type "enumerate", v], []⟩) (fun _ R s => H s.heap ∧
      R (.ok (.ret (.ref (s.heap.push o).objs.size))) { s with heap := (s.heap.push o).push { cls := .type "enumerate", data := .fields #[.none, .bool false, .ref s.heap.objs.size, rawInt 0, .none, .none] } }) :=
  .of_wp fun prog w A R s h => by
    obtain ⟨hp, g, d, tk, os⟩ := s; obtain ⟨h1, h⟩ := h
    have hsub := sub_enumerate
    have q1 : ∀ {A' : Around} {E : Value → Shared → Prop} {Q : Value → Shared → Prop}, Q (.ref hp.objs.size) ⟨hp.push o, g, d, tk, os⟩ → wpAny (model prog w) A' (pyIter v) Q E ⟨hp, g, d, tk, os⟩ :=
      fun q => B.iter prog w _ _ ⟨hp, g, d, tk, os⟩ _ h1 q
    wp_walk using q1
    refine wpAny_stack_any fun st => wpAny_pure ?_
    split
    · rename_i c _ _ _ _ _
      cases (c == Value.type "enumerate")
      · wp_walk using q1
        exact ⟨_, rfl, h⟩
      · wp_walk using q1
        exact ⟨_, rfl, h⟩
    · wp_walk using q1
      exact ⟨_, rfl, h⟩
theorem call_enumT {prog : Program} {w : World} {A : Around} {E : Value → Shared → Prop} {s : Shared} {t : Addr} {items : Array Value} {Q : Value → Shared → Prop} (hT : s.heap.IsTuple t items)
    (h : ∀ h', IsEnum h' (s.heap.objs.size + 1) s.heap.objs.size 0 .none → h'.IsTupleIter s.heap.objs.size t 0 → h'.objs.size = s.heap.objs.size + 2 →
      (∀ b o, s.heap.get? b = some o → h'.get? b = some o) → Q (.ref (s.heap.objs.size + 1)) { s with heap := h' }) :
    wpAny (model prog w) A (call (.type "enumerate") [.ref t]) Q E s := by
  refine callType_new F.called_enumerate (by decide) (F.typeCall_enumerate_1 _) (F.newCall_enumerate_1 _) (fun obj => F.args_object_init_2 obj _) F.entry_enumerate_new
    (enum_newB1 (begins_tuple t items)) ⟨hT, ?_⟩
  have hz : (s.heap.push { cls := .type "tuple_iterator", data := .fields #[.ref t, .int 0 0] }).objs.size = s.heap.objs.size + 1 := Heap.size_push ..
  show _ ∧ _
  rw [hz]
  have he : IsEnum ((s.heap.push { cls := .type "tuple_iterator", data := .fields #[.ref t, .int 0 0] }).push { cls := .type "enumerate", data := .fields #[.none, .bool false, .ref s.heap.objs.size, rawInt 0, .none, .none] }) (s.heap.objs.size + 1) s.heap.objs.size 0 .none := by
    have := Heap.get?_push_size (s.heap.push { cls := .type "tuple_iterator", data := .fields #[.ref t, .int 0 0] }) (o := { cls := .type "enumerate", data := .fields #[.none, .bool false, .ref s.heap.objs.size, rawInt 0, .none, .none] }) rfl
    rw [hz] at this; exact this
  refine ⟨⟨_, he, rfl⟩, h _ he ⟨_, Heap.get?_push_of_some _ (Heap.get?_push_size _ rfl), rfl, rfl⟩ (by rw [Heap.size_push, hz]) fun b o x => Heap.get?_push_of_some _ (Heap.get?_push_of_some _ x)⟩
theorem enumT_end {prog : Program} {w : World} {A : Around} {E : Value → Shared → Prop} {s : Shared} {e0 i0 t0 : Addr} {i : Nat} {its : Array Value} {old : Value} {Q : Option Value → Shared → Prop} (hh : A.handled = none)
    (he : IsEnum s.heap e0 i0 i old) (hi : s.heap.IsTupleIter i0 t0 i) (ht : s.heap.IsTuple t0 its) (hx : its[i]? = none)
    (hQ : ∀ h', Heap.ExtBut i0 s.heap h' → Q none { s with heap := h' }) : wpAny (model prog w) A (pyNext (.ref e0)) Q E s := by
  have ty : s.TypeIs (.ref e0) "enumerate" := ⟨_, he, rfl⟩
  unfold pyNext
  refine wpAny_bind (wpAny_attempt (wpAny_callSpecial?_slot (name := Str.ofString "__next__") ty F.slot_enumerate_next (wpAny_call_entry F.slot_enumerate_next ty F.entry_enumerate_next ?_ (F.args_enumerate_next_1 _))))
  show wpAny _ _ (field (.ref e0) 2 >>= _) _ _ _
  refine wpAny_bind (wpAny_field he rfl (x := .ref i0) rfl (wpAny_bind (wpAny_nextOf_tuple_end hh hi ht hx fun h' x k1 k2 => ?_)))
  obtain ⟨o, ho, hc⟩ := k2
  exact wpAny_bind (wpAny_isInstance (T := "StopIteration") (b := true) ⟨o, ho, hc⟩ isSubtype_stop (wpAny_pure (hQ _ k1)))
/-- the tuple at a, each item in a new pair -/
def IteT (K : PySem.W.Frag) (a : Addr) : It :=
  ⟨fun i H => ∃ (xs : List V) (x : V), SqT K H a xs ∧ xs[i]? = some x, fun i H v H' => ∃ T x, v = .ref T ∧ H T = none ∧ H' = upd H T (.tup [.int (i : Nat), x]) ∧ ∀ xs, SqT K H a xs → xs[i]? = some x, fun i H => ∃ xs : List V, SqT K H a xs ∧ xs.length ≤ i⟩
theorem turn_enumT {P : Program} {w : World} {K : PySem.W.Frag} {elts : List Expr} {kk : Nat} {tpos : Pos} (a e it : Addr) (hne : e ≠ it) (hea : e ≠ a) (hia : a ≠ it) :
    Turn P w K (.Tuple elts kk tpos) (IteT K a) [e, it] e (fun i h => (∃ old, IsEnum h e it ((i : Nat) : Int) old) ∧ h.IsTupleIter it a i) where
  mem := by simp
  obj := fun i h st b hb => by
    obtain ⟨⟨old, he⟩, ⟨o, ho, hc, hd⟩⟩ := st
    have e' : b = e ∨ b = it := by simpa using hb
    rcases e' with z | z
    · rw [z]; exact ⟨_, he, fun v q => nomatch q⟩
    · rw [z]; exact ⟨o, ho, fun v q => by rw [hd] at q; cases q⟩
  keep := fun i h h' st k => let ⟨⟨old, he⟩, hi⟩ := st; ⟨⟨old, k e (by simp) _ he⟩, hi.at fun o q => k it (by simp) o q⟩
  item := by
    intro X hP hw hK hc i pins s σ H E I hf st hg
    subst hP hw hK
    obtain ⟨⟨old, he⟩, hit⟩ := st
    obtain ⟨xs, x, hq, hx⟩ := hg
    obtain ⟨its, rv, p, hz⟩ := I.tuple hq
    obtain ⟨u, hu, ru⟩ := rv.get hx
    have hel : e < s.heap.objs.size := Heap.lt_size he
    have hil : it < s.heap.objs.size := by obtain ⟨_, q, _⟩ := hit; exact Heap.lt_size q
    have hlt : i < its.toArray.size := by
      have := (List.getElem?_eq_some_iff.mp hu).1
      simpa using this
    refine wpAny_pyNext_enum_itemD (Draws.tuple (show X.A.in1.handled = none from I.ok.hd hc) it a hia its.toArray) he ⟨hit, p⟩ hlt hne (by simp [hne, hea]) fun x' h' tk hx' ho hit' hT hsz hk => ?_
    have ex : x' = u := by
      have : its.toArray[i]? = some x' := hx'
      rw [List.getElem?_toArray, hu] at this
      injection this with this; exact this.symm
    subst ex
    refine ⟨_, rfl, wpAny_letOwnedTupleGo_enum (s := { s with heap := h', toks := tk + 1 }) ho fun h'' he' sb => ?_⟩
    have hT2 : h''.get? s.heap.objs.size = some { cls := .type "tuple", data := .seq #[.int i tk, x'] } := (sb.2 _ (Nat.ne_of_gt hel)).trans hT
    have new : ObjOk X.prog X.w (upd H s.heap.objs.size (.tup [.int (i : Nat), x])) h'' s.heap.objs.size (.tup [.int (i : Nat), x]) :=
      ⟨by show 2 ≤ sizeLine; decide, [.int i tk, x'], .cons ⟨_, rfl⟩ (.cons ru .nil), ⟨_, hT2, rfl, _, rfl⟩⟩
    have I1 : Inv X pins σ (upd H s.heap.objs.size (.tup [.int (i : Nat), x])) { s with heap := h'', toks := tk + 1 } :=
      I.turnedNew (t' := tk + 1) (ch := [e, it]) (fun b ob hb q => (sb.2 b (fun z => hb (by simp [z]))).trans (hk b ob (fun z => hb (by simp [z])) (fun z => hb (by simp [z])) q)) hf (Nat.le_refl _) new
    refine ⟨.ref s.heap.objs.size, _, I1, rfl, ⟨_, x, rfl, I.hok.fresh (Nat.le_refl _), rfl, fun ys hy => by rw [I.tuple_inj hy hq]; exact hx⟩, ⟨⟨x', ?_⟩, hit'.1.at fun o q => (sb.2 it (Ne.symm hne)).trans q⟩, fun b hb => ?_⟩
    · have e1 : ((i + 1 : Nat) : Int) = (i : Int) + 1 := by omega
      rw [e1]; exact he'
    · have hb' : b < s.heap.objs.size := by
        have e' : b = e ∨ b = it := by simpa using hb
        rcases e' with z | z
        · rw [z]; exact hel
        · rw [z]; exact hil
      rw [upd_ne (Nat.ne_of_lt hb')]
      exact (hf b hb).1
  done := by
    intro X hP hw hK hc i pins s σ H E I hf st hg
    subst hP hw hK
    obtain ⟨⟨old, he⟩, hit⟩ := st
    obtain ⟨xs, hq, hx⟩ := hg
    obtain ⟨its, rv, p, hz⟩ := I.tuple hq
    obtain ⟨f0, f1, f2, f3, f4, f5⟩ := hf it (by simp)
    have hl := rv.length
    exact enumT_end (I.ok.hd hc) he hit p (by simp; omega) fun h' eb => ⟨rfl, I.turned (t' := s.toks) (fun b o hb q => eb b o hb q) f0 f1 f3 f4 f5⟩
  self := fun A i s Q E st h => let ⟨⟨_, he⟩, _⟩ := st; wpAny_pyIter_enum he h
/-- a list or a tuple -/
def iEnumA (K : PySem.W.Frag) (ta : TA) : TI := fun σ H R => ta σ H fun vs H1 => ∃ a xs, vs = [.ref a] ∧ ((SqL K H1 a xs ∧ R (Ite K a) H1) ∨ (SqT K H1 a xs ∧ R (IteT K a) H1))
theorem pi_enumA {X : Cx} {e : Expr} {ta : TA} {p pos tpos : Pos} {elts : List Expr} {kk : Nat} (hg : Gl X "enumerate") (hm : X.mg "enumerate" = none) (ha : PA X [e] ta) (hs : starEach [e] X.env = [(false, eval e X.env)]) :
    PI X (.Tuple elts kk tpos) (.Call (.Name "enumerate" p) [e] [] pos) (iEnumA X.K ta) := by
  refine ⟨fun pins s σ H R I h => Call_ (ld_blt I hg hm boot_enumerate (PyProof.Rows.callWith_type1 (thn (ha.run pos pins s σ H _ I h) fun us s1 ⟨vs, H1, I1, r1, q1⟩ => ?_) hs rfl))⟩
  obtain ⟨a, xs, rfl, q1⟩ := q1
  cases r1 with
  | cons r rr =>
    cases rr
    cases r
    have fr : ∀ b, b ∈ [s1.heap.objs.size + 1, s1.heap.objs.size] → FpOk X pins H1 b := fun b hb => by
      have hle : s1.heap.objs.size ≤ b := by
        simp only [List.mem_cons, List.not_mem_nil, or_false] at hb
        omega
      exact I1.fpOk hle (I1.hok.fresh hle)
    rcases q1 with ⟨hq, q⟩ | ⟨hq, q⟩
    · obtain ⟨its, rv, p', hz⟩ := I1.list hq
      exact call_enumerate_list p'.isList fun h' he hI hz2 hk => wpAny_pyIter_enum he ⟨s1.heap.objs.size + 1, [s1.heap.objs.size + 1, s1.heap.objs.size], _, _, H1, rfl, I1.kept (t' := s1.toks) hk, turn_enum a (s1.heap.objs.size + 1) s1.heap.objs.size, ⟨⟨.none, he⟩, hI, Nat.succ_ne_self _⟩, fr, q⟩
    · obtain ⟨its, rv, p', hz⟩ := I1.tuple hq
      obtain ⟨o1, ho1, _⟩ := id p'
      have hl := Heap.lt_size ho1
      exact call_enumT (show s1.heap.IsTuple a its.toArray from p') fun h' he hI hz2 hk => wpAny_pyIter_enum he ⟨s1.heap.objs.size + 1, [s1.heap.objs.size + 1, s1.heap.objs.size], _, _, H1, rfl, I1.kept (t' := s1.toks) hk, turn_enumT a (s1.heap.objs.size + 1) s1.heap.objs.size (Nat.succ_ne_self _) (Nat.ne_of_gt (Nat.lt_succ_of_lt hl)) (Nat.ne_of_lt hl), ⟨⟨.none, he⟩, hI⟩, fr, q⟩
end Lw

set_option autoImplicit false
set_option linter.all false
set_option Elab.async false
set_option maxRecDepth 100000
set_option maxHeartbeats 1000000
/-! LSnd14: what comprehensions walk; enumerate; zip. -/
namespace Lw
open PySem PySem.Spec PyProof.Rows L2
open Gt

section
variable {G : Gx} {C : Cf} {W : WX} {X : Cx} {ptg pa pi : Expr} {a : E}
theorem Walks.c {Hf : Hp} {J : It} {xs : List D} (w : Walks G Hf J xs) (ts0 : List Gt) : WalksC G Hf ts0 J xs := fun H1 Hf1 us le ok i => w H1 Hf1 (us ++ ts0) le ok i
theorem evi_itr (k : Itk) (es : List E) (s : St) : evi C (.itr k es) s = evj C (.itr k es) s := by rw [evi, evj]
theorem snd_srcC_itr {k : Itk} {es : List E} (h : PI X ptg pi (tI G C W (.itr k es))) : PI X ptg pi (tIC G C W (.itr k es)) := by
  refine h.imp fun σ H Z ⟨gs, Rm, Hf, ok, rel, h⟩ => ⟨gs, Rm, Hf, ok, rel, ?_⟩
  rw [evi_itr] at h
  cases e : evj C (.itr k es) (gs.map er) with
  | no => rw [e] at h; exact h
  | exc => rw [e] at h; exact h
  | ok xs s =>
    rw [e] at h
    exact fun H' Hf' gs' J le ok' es' rel' sm w => h H' Hf' gs' [] J le ok' es' rel' sm (w.c _)
theorem Held.inn {H Hf : Hp} {gs T Rm : List Gt} {t : Gt} (h : Held G H Hf gs T a t) : ∀ (H1 Hf1 : Hp) (us : List Gt), Ok G H1 Hf1 (us ++ (gs ++ (T ++ Rm))) → OkT G H1 Hf1 t := by
  intro H1 Hf1 us ok
  obtain ⟨_, h⟩ := h
  rcases h with ⟨rfl, _⟩ | ⟨rfl, p, _, q⟩
  · exact ok.ok _ (by simp)
  · rw [← q]
    exact ok.dropL.getT p
theorem snd_srcC_e (gx : GX G X) (ha : PE X pa (tB G C W a)) : PI X ptg pa (tIC G C W (.e a)) := by
  refine (((pi_list ha).or (pi_tup ha)).or (pi_str ha)).imp fun σ H Z ⟨gs, Rm, Hf, ok, rel, h⟩ => ?_
  rw [evi] at h
  cases e : bor a (gs.map er) (ev C a (gs.map er)) with
  | no => rw [e] at h; exact h.elim
  | exc c p s =>
    rw [e] at h
    exact .inl (.inl ⟨gs, Rm, Hf, ok, rel, by rw [e]; exact h⟩)
  | ok o s =>
    rw [e] at h
    have h : (match (match o.d?.bind seqD with | some xs => R.ok xs s | none => R.no) with
      | .ok xs s => ∀ (H' Hf' : Hp) (gs' T : List Gt) (J : It), Le Hf Hf' → Ok G H' Hf' (gs' ++ (T ++ Rm)) → gs'.map er = s → Rel σ gs' → Same (effS (.e a)) gs gs' → WalksC G Hf' (gs' ++ (T ++ Rm)) J xs → Z J H'
      | .exc c p s => ExcQ G W σ Rm Hf c p s
      | .no => False) := h
    cases e1 : o.d? with
    | none => rw [e1] at h; exact h.elim
    | some d =>
      rw [e1] at h
      cases d with
      | list ds =>
        refine .inl (.inl ⟨gs, Rm, Hf, ok, rel, ?_⟩)
        rw [e]
        intro H' Hf' t gs' T n le ok' kt pl et es' rel' sm
        have inn := Held.inn (Rm := Rm) ⟨kt, pl⟩
        rw [← et] at e1
        have r := kt.top ok'.le e1
        generalize ev0 : t.rt = v at r
        cases r with
        | @lst A vs _ s1 s2 =>
          refine ⟨A, rfl, ⟨vs, gx.k ▸ s1⟩, h H' Hf' gs' T _ le ok' es' rel' sm ?_⟩
          intro H1 Hf1 us le1 ok1 i
          have r1 := (inn H1 Hf1 us ok1).top ok1.le e1
          rw [ev0] at r1
          cases r1 with
          | @lst _ vs1 _ q1 q2 =>
            have h1 : SqL X.K H1 A vs1 := gx.k ▸ q1
            refine ⟨fun hl => ⟨vs1, h1, by rw [q2.length]; exact hl⟩, fun hl => ?_, fun x H2 hl hy => ?_⟩
            · have hv : i < vs1.length := by rw [q2.length]; exact hl
              exact ⟨vs1, vs1[i], h1, List.getElem?_eq_getElem hv⟩
            · obtain ⟨rfl, q⟩ := hy
              obtain ⟨d, g1, g2⟩ := q2.get' (q vs1 h1)
              exact ⟨Hf1, d, Le.refl _, ok1, g1, g2⟩
      | tuple ds =>
        refine .inl (.inr ⟨gs, Rm, Hf, ok, rel, ?_⟩)
        rw [e]
        intro H' Hf' t gs' T n le ok' kt pl et es' rel' sm
        rw [← et] at e1
        have r := kt.top ok'.le e1
        generalize ev0 : t.rt = v at r
        cases r with
        | @tup A vs _ s1 s2 => exact ⟨A, rfl, ⟨vs, gx.k ▸ ok'.le.sqT s1⟩, h H' Hf' gs' T _ le ok' es' rel' sm ((walks_tupS gx s1 s2).c _)⟩
      | str x =>
        refine .inr ⟨gs, Rm, Hf, ok, rel, ?_⟩
        rw [e]
        intro H' Hf' t gs' T n le ok' kt pl et es' rel' sm
        rw [← et] at e1
        have r := kt.top ok'.le e1
        generalize ev0 : t.rt = v at r
        cases r with
        | str => exact ⟨x, rfl, h H' Hf' gs' T _ le ok' es' rel' sm ((walks_str x).c _)⟩
      | _ => exact h.elim
theorem enumD_get : ∀ (xs : List D) (n i : Nat) (d : D), xs[i]? = some d → (enumD n xs)[i]? = some (.tuple [.int ((n + i : Nat) : Int), d])
  | [], _, _, _, h => by cases h
  | x :: xs, n, 0, d, h => by cases h; rfl
  | x :: xs, n, i + 1, d, h => by
    rw [enumD, List.getElem?_cons_succ, enumD_get xs (n + 1) i d (by simpa using h)]
    rw [Nat.add_assoc, Nat.add_comm 1 i]
theorem enumD_len : ∀ (xs : List D) (n : Nat), (enumD n xs).length = xs.length
  | [], _ => rfl
  | x :: xs, n => by rw [enumD, List.length_cons, List.length_cons, enumD_len xs (n + 1)]
theorem walks_enum (gx : GX G X) {Hf : Hp} {a : Addr} {vs : List V} {ds : List D} (s : SqL G.K Hf a vs) (r : Rps G Hf vs ds) : Walks G Hf (Ite X.K a) (enumD 0 ds) := by
  intro H1 Hf1 ts le ok i
  have h1 : SqL X.K H1 a vs := gx.k ▸ (le.trans ok.le).sqL s
  rw [enumD_len]
  refine ⟨fun hl => ⟨vs, h1, by rw [r.length]; exact hl⟩, fun hl => ?_, fun x H2 hl hy => ?_⟩
  · have hv : i < vs.length := by rw [r.length]; exact hl
    exact ⟨vs, vs[i], h1, List.getElem?_eq_getElem hv⟩
  · obtain ⟨T, y, rfl, hT, rfl, q⟩ := hy
    obtain ⟨d, e1, e2⟩ := r.get' (q vs h1)
    obtain ⟨l2, ok2⟩ := ok.newS (ob := .tup [.int (i : Nat), y]) hT
    refine ⟨_, _, l2, ok2, enumD_get ds 0 i d e1, ?_⟩
    rw [Nat.zero_add]
    exact .tup (SqT.of upd_same) (.cons (.int _) (.cons ((e2.mono le).mono l2) .nil))
theorem walks_enumT (gx : GX G X) {Hf : Hp} {a : Addr} {vs : List V} {ds : List D} (s : SqT G.K Hf a vs) (r : Rps G Hf vs ds) : Walks G Hf (IteT X.K a) (enumD 0 ds) := by
  intro H1 Hf1 ts le ok i
  have h1 : SqT X.K H1 a vs := gx.k ▸ (le.trans ok.le).sqT s
  rw [enumD_len]
  refine ⟨fun hl => ⟨vs, h1, by rw [r.length]; exact hl⟩, fun hl => ?_, fun x H2 hl hy => ?_⟩
  · have hv : i < vs.length := by rw [r.length]; exact hl
    exact ⟨vs, vs[i], h1, List.getElem?_eq_getElem hv⟩
  · obtain ⟨T, y, rfl, hT, rfl, q⟩ := hy
    obtain ⟨d, e1, e2⟩ := r.get' (q vs h1)
    obtain ⟨l2, ok2⟩ := ok.newS (ob := .tup [.int (i : Nat), y]) hT
    refine ⟨_, _, l2, ok2, enumD_get ds 0 i d e1, ?_⟩
    rw [Nat.zero_add]
    exact .tup (SqT.of upd_same) (.cons (.int _) (.cons ((e2.mono le).mono l2) .nil))
theorem snd_enum (gx : GX G X) {elts : List Expr} {kk : Nat} {tpos p pos : Pos} (hg : Gl X "enumerate") (hm : X.mg "enumerate" = none) (ha : PA X [pa] (tEs G C W [a])) (hs : starEach [pa] X.env = [(false, eval pa X.env)]) :
    PI X (.Tuple elts kk tpos) (.Call (.Name "enumerate" p) [pa] [] pos) (tI G C W (.itr .enum [a])) := by
  refine (pi_enumA hg hm ha hs).imp fun σ H Z h => args_i h fun H2 Hf2 vs ds xs ts r e ok w => ?_
  cases r with
  | nil => cases e
  | cons r1 r =>
    cases r with
    | cons r2 r => cases r1 <;> cases e
    | nil =>
      cases r1 with
      | @lst b vs0 ds0 s1 s2 =>
        have e : some (enumD 0 ds0) = some xs := e
        cases e
        exact ⟨b, vs0, rfl, .inl ⟨gx.k ▸ ok.le.sqL s1, w _ (walks_enum gx s1 s2)⟩⟩
      | @tup b vs0 ds0 s1 s2 =>
        have e : some (enumD 0 ds0) = some xs := e
        cases e
        exact ⟨b, vs0, rfl, .inr ⟨gx.k ▸ ok.le.sqT s1, w _ (walks_enumT gx s1 s2)⟩⟩
      | _ => cases e
theorem zipD_get : ∀ (xs ys : List D) (i : Nat) (d e : D), xs[i]? = some d → ys[i]? = some e → (zipD xs ys)[i]? = some (.tuple [d, e])
  | [], _, _, _, _, h, _ => by cases h
  | _ :: _, [], _, _, _, _, h => by cases h
  | x :: xs, y :: ys, 0, d, e, h, k => by cases h; cases k; rfl
  | x :: xs, y :: ys, i + 1, d, e, h, k => by
    rw [zipD, List.getElem?_cons_succ, zipD_get xs ys i d e (by simpa using h) (by simpa using k)]
theorem zipD_len : ∀ (xs ys : List D), (zipD xs ys).length = min xs.length ys.length
  | [], _ => by simp [zipD]
  | _ :: _, [] => by simp [zipD]
  | x :: xs, y :: ys => by rw [zipD, List.length_cons, List.length_cons, List.length_cons, zipD_len xs ys]; omega
theorem walks_zip (gx : GX G X) {Hf : Hp} {a b : Addr} {vs ws : List V} {ds es : List D} (s : SqL G.K Hf a vs) (r : Rps G Hf vs ds) (s' : SqL G.K Hf b ws) (r' : Rps G Hf ws es) : Walks G Hf (Itz X.K a b) (zipD ds es) := by
  intro H1 Hf1 ts le ok i
  have h1 : SqL X.K H1 a vs := gx.k ▸ (le.trans ok.le).sqL s
  have h2 : SqL X.K H1 b ws := gx.k ▸ (le.trans ok.le).sqL s'
  rw [zipD_len, ← r.length, ← r'.length]
  refine ⟨fun hl => ⟨vs, ws, h1, h2, by omega⟩, fun hl => ?_, fun x H2 hl hy => ?_⟩
  · exact ⟨vs, ws, vs[i]'(by omega), ws[i]'(by omega), h1, h2, List.getElem?_eq_getElem _, List.getElem?_eq_getElem _⟩
  · obtain ⟨T, y, z, rfl, hT, rfl, q, q'⟩ := hy
    obtain ⟨d, e1, e2⟩ := r.get' (q vs h1)
    obtain ⟨d', e3, e4⟩ := r'.get' (q' ws h2)
    obtain ⟨l2, ok2⟩ := ok.newS (ob := .tup [y, z]) hT
    exact ⟨_, _, l2, ok2, zipD_get ds es i d d' e1 e3, .tup (SqT.of upd_same) (.cons ((e2.mono le).mono l2) (.cons ((e4.mono le).mono l2) .nil))⟩
theorem walks_zipT (gx : GX G X) {Hf : Hp} {a b : Addr} {vs ws : List V} {ds es : List D} (s : SqT G.K Hf a vs) (r : Rps G Hf vs ds) (s' : SqT G.K Hf b ws) (r' : Rps G Hf ws es) : Walks G Hf (RZ.ItzT X.K a b) (zipD ds es) := by
  intro H1 Hf1 ts le ok i
  have h1 : SqT X.K H1 a vs := gx.k ▸ (le.trans ok.le).sqT s
  have h2 : SqT X.K H1 b ws := gx.k ▸ (le.trans ok.le).sqT s'
  rw [zipD_len, ← r.length, ← r'.length]
  refine ⟨fun hl => ⟨vs, ws, h1, h2, by omega⟩, fun hl => ?_, fun x H2 hl hy => ?_⟩
  · exact ⟨vs, ws, vs[i]'(by omega), ws[i]'(by omega), h1, h2, List.getElem?_eq_getElem _, List.getElem?_eq_getElem _⟩
  · obtain ⟨T, y, z, rfl, hT, rfl, q, q'⟩ := hy
    obtain ⟨d, e1, e2⟩ := r.get' (q vs h1)
    obtain ⟨d', e3, e4⟩ := r'.get' (q' ws h2)
    obtain ⟨l2, ok2⟩ := ok.newS (ob := .tup [y, z]) hT
    exact ⟨_, _, l2, ok2, zipD_get ds es i d d' e1 e3, .tup (SqT.of upd_same) (.cons ((e2.mono le).mono l2) (.cons ((e4.mono le).mono l2) .nil))⟩
theorem snd_zip (gx : GX G X) {b : E} {pb : Expr} {elts : List Expr} {kk : Nat} {tpos p pos : Pos} (hg : Gl X "zip") (hm : X.mg "zip" = none) (ha : PA X [pa, pb] (tEs G C W [a, b])) (hs : starEach [pa, pb] X.env = (false, eval pa X.env) :: starEach [pb] X.env) (hpl : (backTo pos (starEach [pb] X.env)).any (·.1) = false) :
    PI X (.Tuple elts kk tpos) (.Call (.Name "zip" p) [pa, pb] [] pos) (tI G C W (.itr .zip [a, b])) := by
  refine (RZ.pi_zipA hg hm ha hs hpl).imp fun σ H Z h => args_i h fun H2 Hf2 vs ds xs ts r e ok w => ?_
  cases r with
  | nil => cases e
  | cons r1 r =>
    cases r with
    | nil => cases r1 <;> cases e
    | cons r2 r =>
      cases r with
      | cons r3 r => cases r1 <;> cases r2 <;> cases e
      | nil =>
        cases r1 with
        | @lst a1 v1 d1 s1 t1 =>
          cases r2 with
          | @lst a2 v2 d2 s2 t2 =>
            have e : some (zipD d1 d2) = some xs := e
            cases e
            exact ⟨a1, a2, v1, v2, rfl, .inl ⟨gx.k ▸ ok.le.sqL s1, gx.k ▸ ok.le.sqL s2, w _ (walks_zip gx s1 t1 s2 t2)⟩⟩
          | _ => cases e
        | @tup a1 v1 d1 s1 t1 =>
          cases r2 with
          | @tup a2 v2 d2 s2 t2 =>
            have e : some (zipD d1 d2) = some xs := e
            cases e
            exact ⟨a1, a2, v1, v2, rfl, .inr ⟨gx.k ▸ ok.le.sqT s1, gx.k ▸ ok.le.sqT s2, w _ (walks_zipT gx s1 t1 s2 t2)⟩⟩
          | _ => cases e
        | _ => cases r2 <;> cases e
end
end Lw

set_option autoImplicit false
set_option linter.all false
set_option Elab.async false
set_option maxRecDepth 100000
set_option maxHeartbeats 1000000
/-! LSnd15: chains, further statements. -/
namespace Lw
open PySem PySem.Spec PyProof.Rows L2
open Gt

section
variable {G : Gx} {C : Cf} {sub : Nat → Nat → Bool} {W : WX} {X : Cx} {pa pb pc : Expr} {a b c : E} {pos : Pos}
theorem sep_app (a : E) (l m : List Pl) : sep a (l ++ m) = (sep a l && sep a m) := by
  unfold sep
  cases plOf a with
  | none => rfl
  | some p => exact List.all_append
theorem chn_post (o p : Cop) (sp1 : sep a (eff b ++ eff c) = true) (sp2 : sep b (eff c) = true) {σ : L2.St} {H : Hp} {Q : VK} (h0 : tE G C W (.chn o p a b c) σ H Q) : tChain (rB G (cmpD o)) (rB G (cmpD p)) (tB G C W a) (tB G C W b) (tB G C W c) σ H Q := by
  obtain ⟨gs, Rm, Hf, ok, rel, h⟩ := h0
  rw [ev, eff] at h
  refine ⟨gs, Rm, Hf, ok, rel, PostB.mk pk_v h fun H1 Hf1 t1 gs1 T1 h n1 le1 ok1 he1 rel1 sm1 => ?_⟩
  refine ⟨gs1, T1 ++ Rm, Hf1, ok1, rel1, PostB.mk (pk_v.more le1) h fun H2 Hf2 t2 gs2 T2 h n2 le2 ok2 he2 rel2 sm2 => ?_⟩
  rw [sep_app, Bool.and_eq_true] at sp1
  obtain ⟨sp1a, sp1b⟩ := sp1
  have he1' := he1.next ok2 sm2 sp1a
  cases e1 : t1.er.d? with
  | none => simp only [e1] at h; exact h.elim
  | some d =>
    cases e2 : t2.er.d? with
    | none => simp only [e1, e2] at h; exact h.elim
    | some e =>
      simp only [e1, e2] at h
      cases ec : cmpD o d e with
      | none => rw [ec] at h; exact h.elim
      | some k =>
        rw [ec] at h
        refine ⟨d, e, Hf2, _, ok2.tailR.tailR, he1'.1.top ok2.le e1, he2.1.top ok2.le e2, k, ec, k, rfl, ?_⟩
        cases k with
        | false =>
          rw [if_neg Bool.false_ne_true]
          exact post_sh ok2.tailR.tailR (le1.trans le2) (.dat (.bl false)) rel2 ((sm1.trans sm2).weak fun q hq => List.mem_append_left _ hq) h
        | true =>
          rw [if_pos rfl]
          have h : PostV G W ((bor c (gs2.map er) (ev C c (gs2.map er))).bind fun z s => match z.d? with | some g => ofB (cmpD p e g) s | none => .no) (eff a ++ eff b ++ eff c) σ gs Rm Hf Q := h
          refine ⟨gs2, T2 ++ (T1 ++ Rm), Hf2, ok2, rel2, PostB.mk ((pk_v.more le1).more le2) h fun H3 Hf3 t3 gs3 T3 h n3 le3 ok3 he3 rel3 sm3 => ?_⟩
          have he2' := he2.next ok3 sm3 sp2
          cases e3 : t3.er.d? with
          | none => simp only [e3] at h; exact h.elim
          | some g =>
            simp only [e3] at h
            exact ⟨e, g, Hf3, _, ok3.tailR.tailR.tailR, he2'.1.top ok3.le e2, he3.1.top ok3.le e3, h.toB ((le1.trans le2).trans le3) ok3.tailR.tailR.tailR rel3 (((sm1.trans sm2).trans sm3))⟩
theorem snd_chn (gx : GX G X) (hu : X.A.units + 150 < cLine) (o p : Cop) (ha : PE X pa (tB G C W a)) (hb : PE X pb (tB G C W b)) (hc : PE X pc (tB G C W c)) (sp1 : sep a (eff b ++ eff c) = true) (sp2 : sep b (eff c) = true) (hm : lastMarks [o.py, p.py] [pb, pc] = false) :
    PE X (.Compare pa [o.py, p.py] [pb, pc] pos) (tE G C W (.chn o p a b c)) := (pe_chain (op_cmp gx hu o) (op_cmp gx hu p) ha hb hc hm).imp fun σ H Q h => chn_post o p sp1 sp2 h
theorem snd_chnT (gx : GX G X) (hu : X.A.units + 150 < cLine) (o p : Cop) (ha : PE X pa (tB G C W a)) (hb : PE X pb (tB G C W b)) (hc : PE X pc (tB G C W c)) (sp1 : sep a (eff b ++ eff c) = true) (sp2 : sep b (eff c) = true) (hm : lastMarks [o.py, p.py] [pb, pc] = false) :
    PT X (.Compare pa [o.py, p.py] [pb, pc] pos) (tT G C W (.chn o p a b c)) := (pt_chain (op_cmp gx hu o) (op_cmp gx hu p) ha hb hc hm).imp fun σ H Q h => chn_post o p sp1 sp2 h

/-! ### op= of ints and texts -/
theorem iop_mulW : OpR X (inplaceOp .Mult) (rI CMulW fun i j => .int (i * j)) := opI fun _ _ _ _ _ _ _ hc q => imul_int q hc.ok
theorem iop_int (o : Bop) : OpR X (inplaceOp o.py) (rK G (augD o)) := by
  intro pins s σ H x y v u Q I rx ry ⟨d, e, Hf, ts, ok, r1, r2, p⟩
  cases r1 <;> cases r2 <;> first | exact p.elim | skip
  case int.int i j =>
    cases o with
    | add => exact iop_add pins s σ H _ _ v u Q I rx ry ⟨i, j, rfl, rfl, p.dat ok (Le.refl _) (.int _)⟩
    | sub => exact iop_sub pins s σ H _ _ v u Q I rx ry ⟨i, j, rfl, rfl, p.dat ok (Le.refl _) (.int _)⟩
    | mul =>
      obtain ⟨hb, p⟩ := PostO.if p
      have q := p.dat ok (Le.refl _) (.int _)
      unfold mulOk at hb
      rw [Bool.or_eq_true, Bool.or_eq_true] at hb
      rcases hb with (hb | hb) | hb
      · exact iop_mul pins s σ H _ _ v u Q I rx ry ⟨i, j, rfl, rfl, .inr (by have := of_decide_eq_true hb; omega), q⟩
      · exact iop_mul pins s σ H _ _ v u Q I rx ry ⟨i, j, rfl, rfl, .inl (by have := of_decide_eq_true hb; omega), q⟩
      · exact iop_mulW pins s σ H _ _ v u Q I rx ry ⟨i, j, rfl, rfl, (by have := of_decide_eq_true hb; unfold CMulW; omega), q⟩
    | fdiv =>
      obtain ⟨hb, p⟩ := PostO.if p
      rw [Bool.and_eq_true] at hb
      exact iop_fdiv pins s σ H _ _ v u Q I rx ry ⟨i, j, rfl, rfl, ⟨of_decide_eq_true hb.1, of_decide_eq_true hb.2⟩, p.dat ok (Le.refl _) (.int _)⟩
    | mod =>
      obtain ⟨hb, p⟩ := PostO.if' p
      exact iop_mod pins s σ H _ _ v u Q I rx ry ⟨i, j, rfl, rfl, hb, p.dat ok (Le.refl _) (.int _)⟩
    | pow => exact p.elim
  case str.str i j =>
    cases o with
    | add =>
      obtain ⟨hb, p⟩ := PostO.if p
      exact iop_add_str pins s σ H _ _ v u Q I rx ry ⟨i, j, rfl, rfl, szOk_le hb, p.dat ok (Le.refl _) (.str _)⟩
    | _ => exact p.elim

/-! ### statements -/
theorem snd_augV {i : Nat} {x : Str} (o : Bop) {p' : Pos} (hN : X.N.Nodup) (hi : X.N[i]? = some x) (hx : Loc X.env.scope x) (ha : PE X pa (tE G C W a)) (sp : (eff a).all (fun q => dj (.v i) q) = true) (hf : X.fn x = true ∨ X.env.scope.names.lookup x = some .local) : PS X (.AugAssign (.Name x p') o.py pa pos) (tS G C sub W (.augV i o a)) := by
  have pip : PIp X o.py (rK G (augD o)) := fun pins s σ H x y v u Q I rx ry h => iop_int o pins s σ H x y v u Q I rx ry h
  refine (ps_aug hN hi hx ha pip hf).imp fun D σ H ⟨gs, Rm, Hf, ok, rel, h⟩ => ?_
  rw [exec, asgs] at h
  have h : PostS G W ((match (gs.map er).getD i .un with | .un => R.no | o => .ok o (gs.map er)).bind fun x s => (ev C a s).bind fun y s => match x.d?, (fz y).d? with
    | some d, some e => (match augD o d e with
      | some (.dat z) => .ok .nx (s.set i (.dat z))
      | _ => .no)
    | _, _ => .no) [i] σ Rm Hf D := h
  rw [getD_map] at h
  have n : gs.getD i .un ≠ .un := fun e => by rw [e] at h; exact h
  have hgi := getD_at rfl n
  have ne := er_un (ok.at (i := i)) n
  have h : PostS G W ((ev C a (gs.map er)).bind fun y s => match (gs.getD i .un).er.d?, (fz y).d? with
    | some d, some e => (match augD o d e with
      | some (.dat z) => .ok .nx (s.set i (.dat z))
      | _ => .no)
    | _, _ => .no) [i] σ Rm Hf D := by
    split at h
    · rename_i e; exact absurd e ne
    · exact h
  refine ⟨_, rel.2 i _ hgi n, val_s ok rel h fun H2 Hf2 t gs2 h n2 le ok2 rel2 sm => ?_⟩
  obtain ⟨Hg, lg, okg, r2⟩ := ok2.fzs n2
  have hg2 : gs2.getD i .un = gs.getD i .un := sm.2 (.v i) fun q hq => List.all_eq_true.mp sp q hq
  have k1 : OkT G H2 Hg (gs.getD i .un) := by rw [← hg2]; exact okg.at
  cases e1 : (gs.getD i .un).er.d? with
  | none => simp only [e1] at h; exact h.elim
  | some d =>
    cases e2 : (fz t.er).d? with
    | none => simp only [e1, e2] at h; exact h.elim
    | some e =>
      simp only [e1, e2] at h
      have hl : i < gs2.length := (List.getElem?_eq_some_iff.mp (getD_at hg2 n)).1
      refine ⟨d, e, Hg, gs2 ++ Rm, okg.tailR, k1.top okg.le e1, (rpO_d r2 e2).top okg.le, ?_⟩
      cases e3 : augD o d e with
      | none => rw [e3] at h; exact h.elim
      | some z =>
        rw [e3] at h
        cases z with
        | dat z =>
          intro H3 Hf3 u n3 le3 ok3 eu
          have k3 := ok3.ok u (.head _)
          cases k3 with
          | sh r =>
            cases r with
            | dat r =>
              cases eu
              exact h (σ.set i (some _)) H3 Hf3 (gs2.set i (.sh _ (.dat z))) ((le.trans lg).trans le3) (ok3.putS i) (by rw [map_set_er]; rfl) (rel2.set i rfl) (SameS.set _ _ _)
            | _ => cases eu
          | _ => cases eu
        | _ => exact h.elim
/-- t = e, a tuple of targets -/
theorem unp_ok {t : Tg} {σ : L2.St} {gs Rm : List Gt} {H Hf : Hp} {u : Gt} {d : D} {s' : St} {D : Ends} {Hf0 : Hp} (n : u ≠ .un) (ok : Ok G H Hf (u :: (gs ++ Rm))) (rel : Rel σ gs) (e : (fz u.er).d? = some d) (es : tset t d (gs.map er) = some s') (le : Le Hf0 Hf) (h : PostS G W (.ok .nx s') (tgS t) σ Rm Hf0 D) : tG G t u.rt σ H D.nx := by
  obtain ⟨Hg, lg, okg, r⟩ := ok.fzs n
  exact ⟨d, gs, Rm, Hg, s', okg.tailR, rel, rpO_d r e, es, fun σ' gs' ok' es' rel' sm' _ => h σ' H Hg gs' (le.trans lg) ok' es' rel' sm'⟩
theorem snd_unp {ptg : Expr} {t : Tg} (ha : PE X pa (tE G C W a)) (hg : PG X ptg (tG G t)) (hs : swapsWithSole [ptg] pa pos.line X.env = pure false) (hw : swappedStores [ptg] pa X.env = pure none) (h1 : (assignEach [ptg] X.env).map (·.2) = [assign ptg X.env]) : PS X (.Assign [ptg] pa pos) (tS G C sub W (.unp t a)) := by
  refine (ps_asg ha hg hs hw h1).imp fun D σ H ⟨gs, Rm, Hf, ok, rel, h⟩ => ?_
  rw [exec, asgs] at h
  refine val_s ok rel h fun H2 Hf2 u gs2 h n2 le ok2 rel2 sm => ?_
  cases e : (fz u.er).d? with
  | none => simp only [e] at h; exact h.elim
  | some d =>
    simp only [e] at h
    cases e2 : tset t d (gs2.map er) with
    | none => simp only [e2] at h; exact h.elim
    | some s' =>
      simp only [e2] at h
      exact unp_ok n2 ok2 rel2 e e2 le h

/-! ### a, b = x, y -/
def tWs (G : Gx) (C : Cf) (W : WX) (es : List E) : TA := fun σ H Q => ∃ gs Rm Hf, Ok G H Hf (gs ++ Rm) ∧ Rel σ gs ∧ (match evw C es (gs.map er) with
  | .ok os s => ∀ (H' Hf' : Hp) (ts gs' : List Gt), (∀ t ∈ ts, t ≠ .un) → Le Hf Hf' → Ok G H' Hf' (ts ++ (gs' ++ Rm)) → ts.map er = os → gs'.map er = s → Rel σ gs' → Q (ts.map rt) H'
  | .exc c p s => ExcQ G W σ Rm Hf c p s
  | .no => False)
theorem snd_ws_nil : PA X [] (tWs G C W []) := by
  refine pa_nil.imp fun σ H Q ⟨gs, Rm, Hf, ok, rel, h⟩ => ?_
  rw [evw] at h
  exact h H Hf [] gs (fun _ h => nomatch h) (Le.refl _) ok rfl rfl rel
theorem snd_ws_cons {pes : List Expr} {es : List E} (ha : PE X pa (tE G C W a)) (hr : PA X pes (tWs G C W es)) (hs : starEach (pa :: pes) X.env = (false, eval pa X.env) :: starEach pes X.env) : PA X (pa :: pes) (tWs G C W (a :: es)) := by
  refine (pa_cons ha hr hs).imp fun σ H Q ⟨gs, Rm, Hf, ok, rel, h⟩ => ?_
  rw [evw] at h
  refine ⟨gs, Rm, Hf, ok, rel, ?_⟩
  cases e1 : ev C a (gs.map er) with
  | no => rw [e1] at h; exact h
  | exc c p s => rw [e1] at h; exact h
  | ok o s =>
    rw [e1] at h
    intro H1 Hf1 t gs1 n le1 ok1 et es1 rel1 sm1
    subst et es1
    refine ⟨gs1, [t] ++ Rm, Hf1, ok1.perm (List.perm_middle (l₁ := gs1) (l₂ := Rm)), rel1, ?_⟩
    have h : (match (evw C es (gs1.map er)).bind fun os s => R.ok (t.er :: os) s with
      | .ok os s => ∀ (H' Hf' : Hp) (ts gs' : List Gt), (∀ t ∈ ts, t ≠ .un) → Le Hf Hf' → Ok G H' Hf' (ts ++ (gs' ++ Rm)) → ts.map er = os → gs'.map er = s → Rel σ gs' → Q (ts.map rt) H'
      | .exc c p s => ExcQ G W σ Rm Hf c p s
      | .no => False) := h
    cases e2 : evw C es (gs1.map er) with
    | no => rw [e2] at h; exact h
    | exc c p s => rw [e2] at h; exact ExcQ.more (T := [t]) h le1
    | ok os s2 =>
      rw [e2] at h
      intro H2 Hf2 ts gs2 hn le2 ok2 eo es2 rel2
      refine h H2 Hf2 (t :: ts) gs2 (fun x hx => (List.mem_cons.mp hx).elim (fun e => e ▸ n) (hn x)) (le1.trans le2) ?_ (by rw [List.map_cons, eo]) es2 rel2
      refine ok2.perm ?_
      show (t :: (ts ++ (gs2 ++ Rm))).Perm (ts ++ (gs2 ++ ([t] ++ Rm)))
      have p1 : (ts ++ (gs2 ++ ([t] ++ Rm))).Perm (t :: (ts ++ (gs2 ++ Rm))) := by
        have := List.perm_middle (a := t) (l₁ := ts ++ gs2) (l₂ := Rm)
        simpa [List.append_assoc] using this
      exact p1.symm
/-- the names of a, b = .. -/
def nmL : List Lh → Option (List Nat)
  | [] => some []
  | .a i :: r => (nmL r).map (i :: ·)
  | .o i :: r => (nmL r).map (i :: ·)
  | _ :: _ => none
def setL : List Nat → List V → L2.St → L2.St
  | i :: is, v :: vs, σ => setL is vs (σ.set i (some v))
  | _, _, σ => σ
theorem names_put : ∀ {ls : List Lh} {is : List Nat} {ts gs Rm : List Gt} {σ : L2.St} {H Hf : Hp} {D : Ends}, nmL ls = some is → (∀ t ∈ ts, t ≠ .un) → Ok G H Hf (ts ++ (gs ++ Rm)) → Rel σ gs → PostS G W (lhss C ls (ts.map er) (gs.map er)) (asgL ls) σ Rm Hf D → D.nx (setL is (ts.map rt) σ) H := by
  intro ls
  induction ls with
  | nil =>
    intro is ts gs Rm σ H Hf D hn _ ok rel h
    cases hn
    cases ts with
    | nil => rw [List.map_nil, lhss] at h; exact h σ H Hf gs (Le.refl _) ok rfl rel (SameS.refl _ _)
    | cons t ts => rw [List.map_cons, lhss] at h <;> first | exact h.elim | simp
  | cons l ls ih =>
    intro is ts gs Rm σ H Hf D hn hu ok rel h
    cases ts with
    | nil => rw [List.map_nil, lhss] at h <;> first | exact h.elim | simp
    | cons t ts =>
      rw [List.map_cons, lhss] at h
      have n := hu t (.head _)
      cases l with
      | a i =>
        obtain ⟨is', e1, rfl⟩ := Option.map_eq_some_iff.mp (show (nmL ls).map (i :: ·) = some is from hn)
        obtain ⟨Hg, lg, ok2⟩ := Ok.freeze (ts := ts ++ (gs ++ Rm)) ok n
        have nz := fz_un (ok.ok _ (.head _)) n
        have e : lhs C (.a i) t.er (gs.map er) = .ok .nx ((gs.map er).set i (fz t.er)) := by
          rw [lhs]
          show (match putV i t.er (gs.map er) with | some s => R.ok Fl.nx s | none => .no) = _
          unfold putV
          split
          · rename_i heq
            split at heq
            · rename_i e; exact absurd e nz
            · cases heq; rfl
          · rename_i heq
            split at heq
            · rename_i e; exact absurd e nz
            · cases heq
        rw [e] at h
        have e2 : (gs.map er).set i (fz t.er) = (gs.set i (.sh t.rt (fz t.er))).map er := by rw [map_set_er]; rfl
        have h : PostS G W (lhss C ls (ts.map er) ((gs.map er).set i (fz t.er))) (asgL (.a i :: ls)) σ Rm Hf D := h
        rw [e2] at h
        refine ih (is := is') (ts := ts) (gs := gs.set i (.sh t.rt (fz t.er))) (σ := σ.set i (some t.rt)) e1 (fun x hx => hu x (.tail _ hx)) (Hf := Hg) ?_ (rel.set i rfl) (PostS.back (m := [i]) h lg (SameS.set _ _ _) (fun q hq => by rw [asgL]; exact List.mem_cons.mpr (.inl (List.mem_singleton.mp hq))) fun q hq => by rw [asgL]; exact .tail _ hq)
        have ok3 : Ok G H Hg (.sh t.rt (fz t.er) :: (gs ++ (ts ++ Rm))) := ok2.perm (by
          refine List.Perm.cons _ ?_
          rw [← List.append_assoc, ← List.append_assoc]
          exact (List.perm_append_comm).append_right Rm)
        refine (ok3.putS i).perm ?_
        rw [← List.append_assoc, ← List.append_assoc]
        exact (List.perm_append_comm).append_right Rm
      | o i =>
        obtain ⟨is', e1, rfl⟩ := Option.map_eq_some_iff.mp (show (nmL ls).map (i :: ·) = some is from hn)
        have nz := er_un (ok.ok _ (.head _)) n
        have e : lhs C (.o i) t.er (gs.map er) = .ok .nx ((gs.map er).set i t.er) := by
          rw [lhs]
          show (match ownV i t.er (gs.map er) with | some s => R.ok Fl.nx s | none => .no) = _
          unfold ownV
          split
          · rename_i heq
            split at heq
            · rename_i e; exact absurd e nz
            · cases heq; rfl
          · rename_i heq
            split at heq
            · rename_i e; exact absurd e nz
            · cases heq
        rw [e] at h
        have h : PostS G W (lhss C ls (ts.map er) ((gs.map er).set i t.er)) (asgL (.o i :: ls)) σ Rm Hf D := h
        rw [← map_set_er] at h
        refine ih (is := is') (ts := ts) (gs := gs.set i t) (σ := σ.set i (some t.rt)) e1 (fun x hx => hu x (.tail _ hx)) (Hf := Hf) ?_ (rel.set i rfl) (PostS.back (m := [i]) h (Le.refl _) (SameS.set _ _ _) (fun q hq => by rw [asgL]; exact List.mem_cons.mpr (.inl (List.mem_singleton.mp hq))) fun q hq => by rw [asgL]; exact .tail _ hq)
        have ok3 : Ok G H Hf (t :: (gs ++ (ts ++ Rm))) := ok.perm (by
          refine List.Perm.cons _ ?_
          show (gs ++ (ts ++ Rm)).Perm (ts ++ (gs ++ Rm))
          rw [← List.append_assoc, ← List.append_assoc]
          exact (List.perm_append_comm).append_right Rm)
        refine (ok3.putS i).perm ?_
        rw [← List.append_assoc, ← List.append_assoc]
        exact (List.perm_append_comm).append_right Rm
      | _ => cases hn
theorem par_post {ls : List Lh} {is : List Nat} {es : List E} {D : Ends} {σ : L2.St} {H : Hp} (hn : nmL ls = some is) (h0 : tS G C sub W (.par ls es) D σ H) : tWs G C W es σ H fun vs H1 => D.nx (setL is vs σ) H1 := by
  obtain ⟨gs, Rm, Hf, ok, rel, h⟩ := h0
  rw [exec, asgs] at h
  refine ⟨gs, Rm, Hf, ok, rel, ?_⟩
  cases e : evw C es (gs.map er) with
  | no => rw [e] at h; exact h
  | exc c p s => rw [e] at h; exact fun d H' Hf' gs' le ok' e' rel' x => h d σ H' Hf' gs' le ok' e' rel' (SameS.refl _ _) x
  | ok os s =>
    rw [e] at h
    intro H' Hf' ts gs' hu le ok' eo es' rel'
    subst eo es'
    exact names_put (G := G) (C := C) (W := W) hn hu ok' rel' (PostS.back (m := []) h le (SameS.refl _ _) (fun _ h => nomatch h) fun q hq => hq)
theorem tWs_len {es : List E} {σ : L2.St} {H : Hp} {Q : List V → Hp → Prop} (h : tWs G C W es σ H Q) : tWs G C W es σ H fun vs H1 => vs.length = es.length ∧ Q vs H1 := by
  obtain ⟨gs, Rm, Hf, ok, rel, h⟩ := h
  refine ⟨gs, Rm, Hf, ok, rel, ?_⟩
  have hl : ∀ (es : List E) (s s' : St) (os : List O), evw C es s = .ok os s' → os.length = es.length := by
    intro es
    induction es with
    | nil => intro s s' os e; rw [evw] at e; cases e; rfl
    | cons a es ih =>
      intro s s' os e
      rw [evw] at e
      cases e1 : ev C a s with
      | no => rw [e1] at e; cases e
      | exc => rw [e1] at e; cases e
      | ok o s1 =>
        rw [e1] at e
        have e : (evw C es s1).bind (fun os s => R.ok (o :: os) s) = .ok os s' := e
        cases e2 : evw C es s1 with
        | no => rw [e2] at e; cases e
        | exc => rw [e2] at e; cases e
        | ok os2 s2 => rw [e2] at e; cases e; rw [List.length_cons, List.length_cons, ih s1 _ os2 e2]
  cases e : evw C es (gs.map er) with
  | no => rw [e] at h; exact h
  | exc c p s => rw [e] at h; exact h
  | ok os s =>
    rw [e] at h
    exact fun H' Hf' ts gs' hu le ok' eo es' rel' => ⟨by rw [List.length_map]; have := hl es _ _ os e; rw [← eo, List.length_map] at this; exact this, h H' Hf' ts gs' hu le ok' eo es' rel'⟩
theorem snd_par2 {ls : List Lh} {i j : Nat} {x y : Str} {px py pt : Pos} {kt k2 pt2} (hc : X.calm = true) (hN : X.N.Nodup) (hi : X.N[i]? = some x) (hj : X.N[j]? = some y) (hij : i ≠ j) (hx : X.env.scope.names.lookup x = some .local) (hy : X.env.scope.names.lookup y = some .local)
    (ha : PA X [pa, pb] (tWs G C W [a, b])) (hn : nmL ls = some [i, j]) (hw : swappedStores [.Tuple [.Name x px, .Name y py] kt pt] (.Tuple [pa, pb] k2 pt2) X.env = pure (some [x, y])) (hs : swapsWithSole [.Tuple [.Name x px, .Name y py] kt pt] (.Tuple [pa, pb] k2 pt2) pos.line X.env = pure false) :
    PS X (.Assign [.Tuple [.Name x px, .Name y py] kt pt] (.Tuple [pa, pb] k2 pt2) pos) (tS G C sub W (.par ls [a, b])) := by
  refine (ps_par hc hN hi hj hij hx hy ha hw hs).imp fun D σ H h => ?_
  have h := tWs_len (par_post hn h)
  obtain ⟨gs, Rm, Hf, ok, rel, h⟩ := h
  refine ⟨gs, Rm, Hf, ok, rel, ?_⟩
  cases e : evw C [a, b] (gs.map er) with
  | no => rw [e] at h; exact h
  | exc c p s => rw [e] at h; exact h
  | ok os s =>
    rw [e] at h
    intro H' Hf' ts gs' hu le ok' eo es' rel'
    obtain ⟨hl, q⟩ := h H' Hf' ts gs' hu le ok' eo es' rel'
    match ts, hl with
    | [t1, t2], _ => exact ⟨t1.rt, t2.rt, rfl, q⟩

/-! ### p[k] = v -/
/-- by values: the container's tree t, what is to be done with the new one -/
def tSet (G : Gx) : TSet := fun o i v H Q => ∃ (t : Gt) (k d : D) (Hf : Hp), Le Hf H ∧ OkT G H Hf t ∧ o = t.rt ∧ Rp G Hf i k ∧ Rp G Hf v d ∧
  ((∃ ds kvs, t.er = .dct ds ∧ dputO ds k d = some kvs ∧ ∀ a ob u, OkT G (upd H a ob) Hf u → t.ads = [a] → u.ads = [a] → u.rt = t.rt → u.er = .dct kvs → Q (upd H a ob)) ∨
   (∃ a vs ds n j, t = .lst a vs ds ∧ k = .int n ∧ ixN ds.length n = some j ∧ ∀ ob u, OkT G (upd H a ob) Hf u → u.ads = [a] → u.rt = t.rt → u.er = .lst (ds.set j d) → Q (upd H a ob)))
theorem set_ok (gx : GX G X) (hu : X.A.units + 150 < cLine) : PSet X (tSet G) := by
  intro pins s σ H o i v ov iv u Q I ro ri rv ⟨t, k, d, Hf, l, kt, eo, rk, rd, h⟩
  subst eo
  rcases h with ⟨ds, kvs, et, e, h⟩ | ⟨a, vs, ds, n, j, rfl, rfl, e, h⟩
  · have cont : ∀ (a : Addr) (s' : Shared) (ob : HO) (t' : Gt), Inv X pins σ (upd H a ob) s' → OkT G (upd H a ob) Hf t' → t.ads = [a] → t'.ads = [a] → t'.rt = .ref a → t'.er = .dct kvs → ∃ H', Inv X pins σ H' s' ∧ Q H' := by
      intro a s' ob t' I' k' e1 e2 e3 e4
      have hr : t.rt = .ref a := by
        cases t with
        | dK => cases e1; rfl
        | dT => cases e1; rfl
        | lst => cases et
        | un => cases et
        | ins => cases et
        | sh v o => cases e1
      exact ⟨_, I', h a ob t' k' e1 e2 (by rw [e3, hr]) e4⟩
    obtain ⟨a, er0, q⟩ := d_put gx hu (u := iv) (r := u) (E := X.xe) (Q := fun _ s' => ∃ H', Inv X pins σ H' s' ∧ Q H') I l kt et rk ri rd rv e cont
    rw [er0] at ro
    cases ro
    exact q
  · cases rk
    cases kt with
    | lst k1 k2 =>
      refine set_list pins s σ H _ _ _ ov iv u Q I ro ri rv ⟨a, vs, n, j, rfl, rfl, k1, by rw [k2.length]; exact e, ?_⟩
      refine h _ (.lst a (vs.set j v) (ds.set j d)) (.lst upd_same (k2.set j rd)) rfl rfl rfl
theorem setO_cases {p : Pl} {k d : D} {s s' : St} (h : setO p k d s = some s') : (∃ ds kvs, getPl p s = .dct ds ∧ dputO ds k d = some kvs ∧ setPl p (.dct kvs) s = some s') ∨ (∃ ds n j, getPl p s = .lst ds ∧ k = .int n ∧ ixN ds.length n = some j ∧ setPl p (.lst (ds.set j d)) s = some s') := by
  unfold setO at h
  split at h
  · rename_i ds e
    split at h
    · obtain ⟨j, e1, e2⟩ := Option.bind_eq_some_iff.mp h
      exact .inr ⟨ds, _, j, e, rfl, e1, e2⟩
    · cases h
  · rename_i ds e
    obtain ⟨kvs, e1, e2⟩ := Option.bind_eq_some_iff.mp h
    exact .inl ⟨ds, kvs, e, e1, e2⟩
  · cases h
theorem getPl_er {p : Pl} {gs : List Gt} {t : Gt} (hg : getT p gs = t) (n : t ≠ .un) : getPl p (gs.map er) = t.er := by
  cases p with
  | v i => rw [show getPl (.v i) (gs.map er) = (gs.map er).getD i .un from rfl, getD_map]; rw [← hg]; rfl
  | f i x =>
    rw [show getPl (.f i x) (gs.map er) = fldO ((gs.map er).getD i .un) x from rfl, getD_map]
    have hg3 : (match gs.getD i .un with | .ins _ _ _ fs => lkT fs x | _ => .un) = t := hg
    cases e : gs.getD i .un with
    | ins a dx c fs => rw [e] at hg3; rw [← hg3]; exact er_lk x fs
    | _ => rw [e] at hg3; exact absurd hg3.symm n
/-- a place's tree, its key and its new value shared: what tSet wants -/
theorem set_post {p : Pl} {σ : L2.St} {gs Rm R0 : List Gt} {H Hf Hf0 : Hp} {t : Gt} {k d : D} {s' : St} {iv vv : V} {D : Ends} {l : List Nat} (ok : Ok G H Hf (gs ++ (R0 ++ Rm))) (rel : Rel σ gs) (hg : getT p gs = t) (n : t ≠ .un) (rk : Rp G Hf iv k) (rd : Rp G Hf vv d) (e : setO p k d (gs.map er) = some s') (le : Le Hf0 Hf) (h : PostS G W (.ok .nx s') l σ Rm Hf0 D) :
    tSet G t.rt iv vv H fun H3 => D.nx σ H3 := by
  have kt : OkT G H Hf t := by rw [← hg]; exact ok.getT p
  refine ⟨t, k, d, Hf, ok.le, kt, rfl, rk, rd, ?_⟩
  have fin : ∀ (a : Addr) (ob : HO) (u : Gt) (o : O), OkT G (upd H a ob) Hf u → t.ads = [a] → u.ads = [a] → u.rt = t.rt → u.er = o → setPl p o (gs.map er) = some s' → D.nx σ (upd H a ob) := by
    intro a ob u o ku et eu er_ eo es
    have nu : u ≠ .un := fun e => by subst e; cases eu
    rw [← eo, er_set hg n] at es
    cases es
    have ok3 := ok.writeP p hg n (a := a) (ob := ob) (by rw [et]; exact .head _) ku nu (by rw [eu, et]; exact List.Sublist.refl _) er_
    exact h σ _ Hf (Lw.setT p u gs) le ok3.tailR rfl (rel.setT hg n er_) (SameS.refl _ _)
  rcases setO_cases e with ⟨ds, kvs, e1, e2, e3⟩ | ⟨ds, m, j, e1, rfl, e2, e3⟩
  · rw [getPl_er hg n] at e1
    exact .inl ⟨ds, kvs, e1, e2, fun a ob u ku et eu er_ eo => fin a ob u _ ku et eu er_ eo e3⟩
  · rw [getPl_er hg n] at e1
    cases kt with
    | lst k1 k2 =>
      cases e1
      exact .inr ⟨_, _, _, m, j, rfl, rfl, e2, fun ob u ku eu er_ eo => fin _ ob u _ ku rfl eu er_ eo e3⟩
    | sh r => cases r <;> cases e1
    | _ => cases e1
theorem snd_setI (gx : GX G X) (hu : X.A.units + 150 < cLine) {p : Pl} {k : E} {po pk : Expr} {pos' : Pos} (ha : PE X pa (tE G C W a)) (ho : PE X po (tB G C W (plE p))) (hk : PE X pk (tE G C W k)) (sp : (eff k).all (fun q => dj p q) = true)
    (has : ∀ v, assign (.Subscript po pk pos') X.env v = (do let ov ← holding [v] (eval po X.env); let iv ← holding [v, ov] (eval pk X.env); standAt pos'; holding [v, ov, iv] (setItem ov iv v); release [v, ov, iv] []))
    (hs : swapsWithSole [.Subscript po pk pos'] pa pos.line X.env = pure false) (hw : swappedStores [.Subscript po pk pos'] pa X.env = pure none) (h1 : (assignEach [.Subscript po pk pos'] X.env).map (·.2) = [assign (.Subscript po pk pos') X.env]) :
    PS X (.Assign [.Subscript po pk pos'] pa pos) (tS G C sub W (.setI p k a)) := by
  refine (ps_asg ha (pg_sub ho hk (set_ok gx hu) has) hs hw h1).imp fun D σ H ⟨gs, Rm, Hf, ok, rel, h⟩ => ?_
  rw [exec] at h
  have hpl : plOf (plE p) = some p := by cases p <;> rfl
  have hef : eff (plE p) = [] := by cases p <;> rfl
  refine val_s ok rel h fun H1 Hf1 t1 gs1 h4 n1 le1 ok1 rel1 sm1 => ?_
  obtain ⟨Hg, lg, okg, r1⟩ := ok1.fzs n1
  have e0 : bor (plE p) (gs1.map er) .no = bor (plE p) (gs1.map er) (ev C (plE p) (gs1.map er)) := by cases p <;> rfl
  rw [e0] at h4
  refine ⟨gs1, [.sh t1.rt (fz t1.er)] ++ Rm, Hg, okg, rel1, PostB.mk (pk_s.more (le1.trans lg)) h4 fun H2 Hf2 t2 gs2 T2 h5 n2 le2 ok2 he2 rel2 sm2 => ?_⟩
  rw [hef] at sm2
  have sm2 := sm2.nil
  subst sm2
  obtain ⟨k2, hp⟩ := he2
  cases ei : isC t2.er with
  | false => rw [ei] at h5; exact h5.elim
  | true =>
    rw [ei, if_pos rfl] at h5
    have hg2 : getT p gs2 = t2 ∧ T2 = [] := by
      rcases hp with ⟨_, hp | ⟨v, o, hp⟩⟩ | ⟨rfl, q, hq, hg⟩
      · rw [hpl] at hp; cases hp
      · subst hp
        cases k2 with
        | sh r => cases r <;> cases ei
      · rw [hpl] at hq; cases hq; exact ⟨hg, rfl⟩
    obtain ⟨hg2, rfl⟩ := hg2
    refine ⟨gs2, [] ++ ([.sh t1.rt (fz t1.er)] ++ Rm), Hf2, ok2, rel2, PostV.mk ((pk_s.more (le1.trans lg)).more le2) h5 fun H3 Hf3 t3 gs3 h6 n3 le3 ok3 rel3 sm3 => ?_⟩
    obtain ⟨Hk, lk, okk, r3⟩ := ok3.fzs n3
    have r1' : RpO G Hk t1.rt (fz t1.er) := (r1.mono le2 |>.mono le3).mono lk
    have hg3 : getT p gs3 = t2 := by
      rw [sm3.2 p fun q hq => List.all_eq_true.mp sp q hq]
      exact hg2
    cases e1 : (fz t3.er).d? with
    | none => simp only [e1] at h6; exact h6.elim
    | some k' =>
      cases e2 : (fz t1.er).d? with
      | none => simp only [e1, e2] at h6; exact h6.elim
      | some d' =>
        simp only [e1, e2] at h6
        cases e3 : setO p k' d' (gs3.map er) with
        | none => simp only [e3] at h6; exact h6.elim
        | some s' =>
          simp only [e3] at h6
          have ok4 : Ok G H3 Hk (gs3 ++ (([.sh t3.rt (fz t3.er)] ++ [.sh t1.rt (fz t1.er)]) ++ Rm)) := by
            rw [List.append_assoc]; exact okk
          exact set_post ok4 rel3 hg3 n2 (rpO_d r3 e1) (rpO_d r1' e2) e3 (((le1.trans lg).trans le2).trans (le3.trans lk)) h6
end
end Lw

set_option autoImplicit false
set_option linter.all false
set_option Elab.async false
set_option maxRecDepth 100000
set_option maxHeartbeats 1000000
/-! LSortDk: sorted(d), a dict of fewer than 64 ints, wherever it lies. -/
namespace Lw
open PySem PySem.Spec PyProof.Rows L2
open Gt

theorem sorted_dk {X : Cx} {pins : List (Addr × Obj)} {s : Shared} {σ : L2.St} {H : Hp} {a : Addr} {kvs : List (Key × V)} {ws : List (Key × Value)} {ks : List Int} {Q : VK} (I : Inv X pins σ H s) (hcalm : X.calm = true)
    (lo : (a == sysModules) = false) (rel : KV kvs ws) (dd : s.heap.DictOf (mixKind X.prog X.w) a ws) (hks : kvs.map (·.1) = ks.map Sum.inl) (h64 : ks.length < 64)
    (q : ∀ (ys : List Int) (p : Addr), ys.Perm ks → ys.Pairwise (· ≤ ·) → H p = none → Q (.ref p) (upd H p (.lst (ys.map V.int)))) :
    wpAny (model X.prog X.w) X.A (call (.builtin "sorted") [.ref a]) (EP X pins σ Q) X.xe s := by
  obtain ⟨ep0, at0⟩ := dd.dictAt
  have kk : ws.map (·.1) = ks.map Sum.inl := rel.keys.symm.trans hks
  have len0 : ws.length = ks.length := by
    have e0 := congrArg List.length kk
    rwa [List.length_map, List.length_map] at e0
  have len1 : ws.length ≤ sizeLine := by rw [len0, sizeLine_eq]; omega
  refine Calls.call_function_entry PyProof.Rows.kind_sorted PyProof.Rows.plain_sorted PyProof.Rows.entry_sorted (PyProof.Rows.args_sorted1 _) ?_
  unfold Builtin.«sorted»
  refine wpAny_bind (m := checkCount "sorted" 1 1 _) (wpAny_pure (wpAny_bind (PySem.W.kdu_collect (A := X.A.in1) (PySem.W.kdl_dict (knd := mixKind X.prog X.w) (kvs := ws) (ep := ep0) lo) (I.ok.hd hcalm) at0 len1 fun g1 t1 ac k1 i1 => ?_)))
  have len2 : ac.toList.length = ks.length := by rw [Array.length_toList, i1.1, len0]
  have ia : IntsAre ac.toList ks := ints_each len2 fun j v ev => by
    obtain ⟨k, x, e1, e2⟩ := i1.2 j v (by rw [← Array.getElem?_toList]; exact ev)
    have e3 : (ws.map (·.1))[j]? = some k := by rw [List.getElem?_map, e1]; rfl
    rw [kk, List.getElem?_map] at e3
    cases e4 : ks[j]? with
    | none => rw [e4] at e3; cases e3
    | some y =>
      rw [e4] at e3
      have e5 : Sum.inl y = k := Option.some.inj e3
      subst e5
      rcases keyIs_shape (show keyIs (Sum.inl y) v = true from e2) with ⟨i, t, ek, ev2⟩ | ⟨z, t, ek, _⟩
      · cases ek; exact ⟨y, t, rfl, ev2⟩
      · cases ek
  have I1 : Inv X pins σ H { s with heap := g1, toks := t1 } := I.kept k1
  refine wpAny_bind (wpAny_newList ?_ (by rw [len2, sizeLine_eq]; omega))
  have ob : (g1.push (seqObj "list" ac.toList.toArray 0)).get? g1.objs.size = some (seqObj "list" ac.toList.toArray 0) := Heap.get?_push_size _ rfl
  show wpAny _ _ _ _ _ { s with heap := g1.push (seqObj "list" ac.toList.toArray 0), toks := t1 }
  refine wpAny_bind (wpAny_holding (wpAny_call_entry PyProof.Rows.slot_list_sort ⟨_, ob, rfl⟩ PyProof.Rows.entry_list_sort (PyProof.Rows.list_sort_tree (s := { s with heap := g1.push (seqObj "list" ac.toList.toArray 0), toks := t1 }) ob ia (by rw [len2]; exact h64) fun out ys f1 f2 f3 => ⟨_, rfl, ?_⟩) (PyProof.Rows.args_list_sort _)))
  obtain ⟨ep1, at1⟩ := PyProof.Rows.sortedHeap_at (vs := ac.toList) (out := out) ob
  have len3 : (ys.map V.int).length ≤ sizeLine := by
    rw [List.length_map, f2.length_eq, sizeLine_eq]; omega
  refine wpAny_pure ⟨_, rfl, .ref g1.objs.size, upd H g1.objs.size (.lst (ys.map V.int)), I1.laid (t' := t1) (fun b u eb => ?_) (Nat.le_refl _) (show ObjOk X.prog X.w _ _ _ (.lst (ys.map V.int)) from ⟨len3, out.toList, ep1, vals_of_ints f1, by rw [Array.toArray_toList]; exact at1⟩), rfl, q ys _ f2 f3 (I1.hok.fresh (Nat.le_refl _))⟩
  have lb : b < g1.objs.size := Heap.lt_size eb
  rw [PyProof.Rows.sortedHeap_old (Nat.ne_of_lt lb) (by rw [size_push']; exact Nat.lt_succ_of_lt lb)]
  exact Heap.get?_push_of_some _ eb
end Lw

set_option autoImplicit false
set_option linter.all false
set_option Elab.async false
set_option maxRecDepth 100000
set_option maxHeartbeats 1000000
/-! LSnd16: tuple, list, sorted of a list or tuple. -/
namespace Lw
open PySem PySem.Spec PyProof.Rows L2
open Gt

/-- the sort of the library is the insertion sort -/
theorem leB_total (x y : D) : (leB x y || leB y x) = true := by
  have := (PySem.W.sortLe_total (PyProof.Rows.listOrd PyProof.Rows.itemOrd) false (fun d : D => PySem.W.keyToks d)).total x y
  rw [Bool.or_eq_true]
  exact this
theorem leB_trans (x y z : D) : leB x y = true → leB y z = true → leB x z = true :=
  (PySem.W.sortLe_total (PyProof.Rows.listOrd PyProof.Rows.itemOrd) false (fun d : D => PySem.W.keyToks d)).trans x y z
theorem insD_split (x : D) : ∀ (l₁ l₂ : List D), (∀ b ∈ l₁, leB x b = false) → (∀ b ∈ l₂, leB x b = true) → insD x (l₁ ++ l₂) = l₁ ++ x :: l₂
  | [], [], _, _ => rfl
  | [], b :: l₂, _, h => by
    show (if leB x b = true then x :: b :: l₂ else b :: insD x l₂) = _
    rw [if_pos (h b (.head _))]; rfl
  | a :: l₁, l₂, h, k => by
    show (if leB x a = true then x :: a :: (l₁ ++ l₂) else a :: insD x (l₁ ++ l₂)) = _
    rw [if_neg (by rw [h a (.head _)]; exact Bool.false_ne_true), insD_split x l₁ l₂ (fun b hb => h b (.tail _ hb)) k]
    rfl
theorem sort_eq : ∀ xs : List D, xs.mergeSort leB = sortD xs
  | [] => by simp [sortD]
  | x :: xs => by
    obtain ⟨l₁, l₂, h1, h2, h3⟩ := List.mergeSort_cons (le := leB) leB_trans leB_total x xs
    have ss := List.pairwise_mergeSort (le := leB) leB_trans leB_total (x :: xs)
    rw [h1] at ss
    rw [h1, sortD, ← sort_eq xs, h2]
    refine (insD_split x l₁ l₂ (fun b hb => by have := h3 b hb; simpa using this) fun b hb => ?_).symm
    exact (List.pairwise_cons.mp (List.pairwise_append.mp ss).2.1).1 b hb

section
variable {prog : Program} {w : World} {A : Around} {E : Value → Shared → Prop} {s : Shared}
open PySem.W in
theorem collect_tup {l : Addr} {vs : List Value} {Q : List Value → Shared → Prop} (hl : IsTup s.heap l vs.toArray)
    (h : Q vs { s with heap := (s.heap.push (seqObj "list" #[] 0)).update s.heap.objs.size (Obj.mapSeq (· ++ vs.toArray)) }) (hsz : vs.length ≤ sizeLine) :
    wpAny (model prog w) A (collect (.ref l)) Q E s := by
  obtain ⟨o, ho, hc, n, hd⟩ := id hl
  unfold collect
  refine wpAny_bind (wpAny_runValue (codeAny_builtin PySem.F.entry_proto_collect ?_))
  show wpAny _ _ (do again (.builtin "list.__iadd__" ⟨[← newList [], .ref l], []⟩)) _ _ s
  refine wpAny_bind (wpAny_newList (wpAny_pure ⟨Code.quiet_builtin _ (by decide +kernel), codeAny_builtin PySem.F.entry_list_iadd ?_⟩) (by decide))
  show wpAny _ _ (Builtin.List.listExtendWith (.ref s.heap.objs.size) (.ref l) (.ref s.heap.objs.size)) _ _ { s with heap := s.heap.push (seqObj "list" #[] 0) }
  unfold Builtin.List.listExtendWith
  have ho' : (s.heap.push (seqObj "list" #[] 0)).get? l = some o := Heap.get?_push_of_some _ ho
  refine wpAny_bind (wpAny_typeOf (T := "tuple") ⟨o, ho', hc⟩ ?_)
  have ht : (Value.type "tuple" == Value.type "tuple") = true := by rfl
  rw [if_pos (by rw [ht]; simp)]
  refine wpAny_bind (listItems_at ho' hd ?_)
  refine wpAny_bind (listItems_at (xs := #[]) (n := 0) (Heap.get?_push_size _ rfl) rfl ?_)
  rw [if_neg (by simp)]
  refine wpAny_bind (listUpdate_at (xs := #[]) (n := 0) (Heap.get?_push_size _ rfl) rfl ?_ (Nat.zero_le _) (by show (#[] ++ vs.toArray).size ≤ sizeLine + 1; simp only [Array.size_append, List.size_toArray, List.length_nil]; omega))
  refine wpAny_pure ?_
  show wpAny (model prog w) A (do
      let o ← load s.heap.objs.size
      match o.data with
      | .seq xs _ => pure xs.toList
      | _ => unsupported "internal:collect") Q E { s with heap := (s.heap.push (seqObj "list" #[] 0)).update s.heap.objs.size (Obj.mapSeq (· ++ vs.toArray)) }
  refine wpAny_bind (wpAny_load (get?_update_seq (Heap.get?_push_size _ rfl) _) ?_)
  show wpAny _ _ (pure ((#[] : Array Value) ++ vs.toArray).toList) Q E _
  rw [show ((#[] : Array Value) ++ vs.toArray).toList = vs by simp]
  exact wpAny_pure h
open PySem.W PyProof.Rows in
theorem sorted_of_sortT {l : Addr} {vs : List Value} {kw : List (Str × Value)} {Q : Value → Shared → Prop} (hl : IsTup s.heap l vs.toArray) (hL : vs.length ≤ sizeLine) (ha1 : argsOk "sorted" ⟨[.ref l], kw⟩) (ha2 : ∀ x, argsOk "list.sort" ⟨[.ref x], kw⟩)
    (body : ∀ E' : Value → Shared → Prop, wpAny (model prog w) A.in1.in1 (Builtin.«list.sort» ⟨[.ref (s.heap.objs.size + 1)], kw⟩) (fun f s' => f = .done (.ret .none) ∧ Q (.ref (s.heap.objs.size + 1)) s') E' { s with heap := copyHeap s.heap vs }) :
    wpAny (model prog w) A (call (.builtin "sorted") [.ref l] kw) Q E s := by
  refine PyProof.Rows.call_function_entry_kw kind_sorted plain_sorted entry_sorted ha1 ?_
  unfold Builtin.«sorted»
  refine wpAny_bind (m := checkCount "sorted" 1 1 _) (wpAny_pure ?_)
  refine wpAny_bind (collect_tup hl ?_ hL)
  refine wpAny_bind (wpAny_newList ?_ hL)
  have hsz : ((s.heap.push (seqObj "list" #[] 0)).update s.heap.objs.size (Obj.mapSeq (· ++ vs.toArray))).objs.size = s.heap.objs.size + 1 := by
    rw [Heap.size_update, size_push']
  show wpAny _ _ _ _ _ { s with heap := copyHeap s.heap vs }
  rw [hsz]
  refine wpAny_bind (wpAny_holding (wpAny_call_entry_kw slot_list_sort ⟨_, copyHeap_at s.heap vs, rfl⟩ entry_list_sort ?body (ha2 _)))
  case body =>
    show wpAny (model prog w) A.in1.in1 (Builtin.«list.sort» ⟨[.ref (s.heap.objs.size + 1)], kw⟩) _ _ _
    refine wpAny_mono (body _) (fun f s' hf => ?_) fun _ _ e => e
    obtain ⟨rfl, hq⟩ := hf
    exact ⟨_, rfl, wpAny_pure ⟨_, rfl, hq⟩⟩
open PySem.W PyProof.Rows in
theorem sorted_dataT {β : Type} {vs : List Value} {bs : List β} {enc : β → PyData} {R : Value → β → Prop} {l : Addr} {Q : Value → Shared → Prop} (hl : IsTup s.heap l vs.toArray) (e : EachIs R vs bs) (er : EachIs (fun v b => ∃ as, Reads s.heap v (enc b) as) vs bs) (hal : AllAlike (bs.map enc)) (hk : Sortable (bs.map enc)) (hL : bs.length ≤ sizeLine)
    (hu : ∀ b, b ∈ bs → A.units + 2 + (enc b).depth < cLine) (h : ∀ out, out.length = bs.length → EachIs R out (bs.mergeSort (dataLe false enc)) → Q (.ref (s.heap.objs.size + 1)) { s with heap := sortedAll s.heap vs (List.toArray out) }) :
    wpAny (model prog w) A (call (.builtin "sorted") [.ref l]) Q E s := by
  have er' : EachIs (fun v b => ∃ as, Reads (sortingHeap (copyHeap s.heap vs) (s.heap.objs.size + 1) vs) v (enc b) as) vs bs := er.mono fun _ _ ⟨as, r⟩ => ⟨as, PyProof.Rows.Reads.keeps (fun _ _ => sorting_copy_old) r⟩
  have hL' : vs.length ≤ sizeLine := by rw [e.length]; exact hL
  exact sorted_of_sortT hl hL' (args_sorted1 _) (fun _ => args_list_sort _) fun _ => list_sort_vals (s := { s with heap := copyHeap s.heap vs }) (copyHeap_at s.heap vs) (SortsAt.data (s := { s with heap := sortingHeap (copyHeap s.heap vs) (s.heap.objs.size + 1) vs }) (each_map (R := fun v d => ∃ as, Reads (sortingHeap (copyHeap s.heap vs) (s.heap.objs.size + 1) vs) v d as) enc er') hal hk (bound_map hu)) hL'
    ⟨rfl, h _ (by rw [sortVals_length false rfl]; exact e.length) (sortVals_data false e er' hal)⟩
end

section
variable {G : Gx} {X : Cx}
open PySem.W in
theorem each_zip {pins : List (Addr × Obj)} {s : Shared} {σ : L2.St} {H Hf : Hp} (gx : GX G X) (I : Inv X pins σ H s) (l : Le Hf H) : ∀ {vs : List V} {us : List Value} {ds : List D}, Vals vs us → Rps G Hf vs ds → PyData.plainAll ds = true →
    EachIs (fun (u : Value) (p : V × D) => RelV p.1 u ∧ Rp G Hf p.1 p.2) us (vs.zip ds) ∧ EachIs (fun (u : Value) (p : V × D) => ∃ as, Reads s.heap u p.2 as) us (vs.zip ds)
  | _, _, _, .nil, .nil, _ => ⟨.nil, .nil⟩
  | _, _, d :: ds, .cons a as, .cons b bs, h => by
    have h : PyData.plain d = true ∧ PyData.plainAll ds = true := by simpa [PyData.plainAll] using h
    obtain ⟨h1, h2⟩ := each_zip gx I l as bs h.2
    exact ⟨.cons ⟨a, b⟩ h1, .cons (Dp.reads I _ _ _ (gx.k ▸ b.dp l h.1) a) h2⟩
open PySem.W in
theorem each_back {Hf : Hp} : ∀ {us : List Value} {ps : List (V × D)}, EachIs (fun (u : Value) (p : V × D) => RelV p.1 u ∧ Rp G Hf p.1 p.2) us ps → Vals (ps.map (·.1)) us ∧ Rps G Hf (ps.map (·.1)) (ps.map (·.2))
  | _, _, .nil => ⟨.nil, .nil⟩
  | _, _, .cons a b => by
    obtain ⟨h1, h2⟩ := each_back b
    exact ⟨.cons a.1 h1, .cons a.2 h2⟩
theorem zip_snd {vs : List V} {ds : List D} (h : vs.length = ds.length) : (vs.zip ds).map (·.2) = ds := List.map_snd_zip (Nat.le_of_eq h.symm)
theorem sortable_facts {ds : List D} (h : sortable ds = true) : PyData.plainAll ds = true ∧ PySem.W.AllAlike ds ∧ PySem.W.Sortable ds ∧ ds.length ≤ sizeLine ∧ ∀ d ∈ ds, d.depth ≤ 100 := by
  unfold sortable at h
  rw [Bool.and_eq_true, Bool.and_eq_true] at h
  obtain ⟨⟨h1, h2⟩, h3⟩ := h
  have k : ∀ d ∈ ds, nice d = true ∧ ∀ e ∈ ds, ordD d e = true := fun d hd => by
    have := List.all_eq_true.mp h1 d hd
    rw [Bool.and_eq_true] at this
    exact ⟨this.1, fun e he => List.all_eq_true.mp this.2 e he⟩
  refine ⟨nice_all (List.all_eq_true.mpr fun d hd => (k d hd).1), fun d hd e he => (ordD_alike ((k d hd).2 e he)).1, ?_, szOk_le h2, fun d hd => nice_depth (k d hd).1⟩
  rw [Bool.or_eq_true] at h3
  rcases h3 with h3 | h3
  · refine .inr fun d hd => ⟨(ordD_alike ((k d hd).2 d hd)).2.1, fun xs e => ?_⟩
    have := List.all_eq_true.mp h3 d hd
    rw [e] at this
    exact absurd this (by simp [tupK])
  · refine .inl fun d hd => ?_
    have := List.all_eq_true.mp h3 d hd
    split at this
    · exact ⟨_, _, rfl⟩
    · cases this
theorem lt_ints (a b : Int) : PySem.W.dataLt (.int a) (.int b) = decide (a < b) := by
  unfold PySem.W.dataLt
  rw [PySem.W.keyToks, PySem.W.keyToks, PyProof.Rows.lexLt, PyProof.Rows.lexLt, Bool.and_false, Bool.or_false]
  rfl
theorem leB_ints (a b : Int) : leB (.int a) (.int b) = decide (a ≤ b) := by
  unfold leB
  rw [lt_ints, ← decide_not]
  exact decide_eq_decide.mpr (by omega)
theorem sortD_ints {ks ys : List Int} (hp : ys.Perm ks) (hs : ys.Pairwise (· ≤ ·)) : sortD (ks.map PyData.int) = ys.map PyData.int := by
  rw [← sort_eq]
  refine List.Perm.eq_of_pairwise (le := fun x y => leB x y = true) (fun x y hx hy h1 h2 => ?_) (List.pairwise_mergeSort (le := leB) leB_trans leB_total _) ?_ ((List.mergeSort_perm _ _).trans (hp.symm.map _))
  · have hx := (List.mem_mergeSort).mp hx
    obtain ⟨i, _, rfl⟩ := List.mem_map.mp hx
    obtain ⟨j, _, rfl⟩ := List.mem_map.mp hy
    rw [leB_ints] at h1 h2
    have a := of_decide_eq_true h1
    have b := of_decide_eq_true h2
    rw [show i = j by omega]
  · rw [List.pairwise_map]
    exact hs.imp fun h => by rw [leB_ints]; exact decide_eq_true h
theorem int_keys {G : Gx} {Hf : Hp} : ∀ {kvs : List (Key × V)} {ds : List (D × D)}, Rpk G Hf (kvs.map fun p => (keyD p.1, p.2)) ds → (ds.all fun p => isI p.1) = true → ∃ ks : List Int, ds.map (·.1) = ks.map PyData.int ∧ kvs.map (·.1) = ks.map Sum.inl
  | [], _, r, h => by cases r; exact ⟨[], rfl, rfl⟩
  | (k, v) :: kvs, _, r, h => by
    rw [List.map_cons] at r
    cases r with
    | @cons _ _ _ d ds r1 r2 =>
      rw [List.all_cons, Bool.and_eq_true] at h
      obtain ⟨ks, e1, e2⟩ := int_keys r2 h.2
      cases k with
      | inl i => exact ⟨i :: ks, by rw [List.map_cons, e1]; rfl, by rw [List.map_cons, e2]; rfl⟩
      | inr x => exact absurd h.1 Bool.false_ne_true
theorem rps_ints {G : Gx} {Hf : Hp} : ∀ ks : List Int, Rps G Hf (ks.map V.int) (ks.map PyData.int)
  | [] => .nil
  | k :: ks => .cons (.int k) (rps_ints ks)
theorem sorted_d {G : Gx} {X : Cx} {pins : List (Addr × Obj)} {s : Shared} {σ : L2.St} {H Hf : Hp} {ts : List Gt} {a : Addr} {kvs : List (Key × V)} {ws : List (Key × Value)} {ds : List (D × D)} {Q : VK} (I : Inv X pins σ H s) (hc : X.calm = true) (ok : Ok G H Hf ts)
    (lo : (a == sysModules) = false) (rel : KV kvs ws) (dd : s.heap.DictOf (mixKind X.prog X.w) a ws) (r : Rpk G Hf (kvs.map fun p => (keyD p.1, p.2)) ds)
    (p : PostO G Hf ts ((if (decide (ds.length < 64) && ds.all fun p => isI p.1) = true then some (ds.map (·.1)) else none).bind (bsD .sorted)) Q) :
    wpAny (model X.prog X.w) X.A (call (.builtin "sorted") [.ref a]) (EP X pins σ Q) X.xe s := by
  by_cases c : (decide (ds.length < 64) && ds.all fun p => isI p.1) = true
  · rw [if_pos c] at p
    rw [Bool.and_eq_true] at c
    obtain ⟨ks, e1, e2⟩ := int_keys r c.2
    have hl : ks.length < 64 := by
      have := congrArg List.length e1
      rw [List.length_map, List.length_map] at this
      have := of_decide_eq_true c.1
      omega
    have p : PostO G Hf ts (if sortable (ds.map (·.1)) = true then some (.lst (sortD (ds.map (·.1)))) else none) Q := p
    obtain ⟨_, p⟩ := PostO.if (b := sortable (ds.map (·.1))) (o := some (.lst (sortD (ds.map (·.1))))) p
    rw [e1] at p
    refine sorted_dk I hc lo rel dd e2 hl fun ys q h1 h2 hq => ?_
    rw [sortD_ints h1 h2] at p
    exact p.lst ok (Le.refl _) hq (rps_ints ys)
  · rw [if_neg c] at p
    exact p.elim
open PySem.W in
/-- sorted(xs), a list or a tuple of data -/
theorem call_sorted_data (gx : GX G X) (hc : X.calm = true) (hu : X.A.units + 150 < cLine) : CallR X (.builtin "sorted") (fun xs H Q => ∃ (x : V) (d : D) (Hf : Hp) (ts : List Gt), xs = [x] ∧ Ok G H Hf ts ∧ RpT G H Hf x d ∧ PostO G Hf ts ((lsB .sorted d).bind (bsD .sorted)) Q) := by
  intro pins s σ H xs us Q I r h0
  obtain ⟨x, d, Hf, ts, rfl, ok, rr, p⟩ := h0
  have l := ok.le
  obtain ⟨u, rfl, ru⟩ := vals1 r
  have fin : ∀ (vs : List V) (ds : List D) (its : List Value), Vals vs its → Rps G Hf vs ds → sortable ds = true → PostO G Hf ts (some (.lst (sortD ds))) Q →
      ∀ out : List Value, out.length = (vs.zip ds).length → EachIs (fun (u : Value) (p : V × D) => RelV p.1 u ∧ Rp G Hf p.1 p.2) out ((vs.zip ds).mergeSort (dataLe false fun p : V × D => p.2)) → EP X pins σ Q (.ref (s.heap.objs.size + 1)) { s with heap := sortedAll s.heap its (List.toArray out) } := by
    intro vs ds its rv rs hs p out h1 h2
    obtain ⟨f1, f2, f3, f4, f5⟩ := sortable_facts hs
    obtain ⟨g1, g2⟩ := each_back h2
    have e2 : (((vs.zip ds).mergeSort (dataLe false fun p : V × D => p.2)).map (·.2)) = sortD ds := by
      rw [← sort_eq ds]
      have := List.map_mergeSort (r := dataLe false fun p : V × D => p.2) (s := leB) (f := (·.2)) (l := vs.zip ds) (fun a _ b _ => rfl)
      rw [this, zip_snd rs.length]
    rw [e2] at g2
    have hz : (((vs.zip ds).mergeSort (dataLe false fun p : V × D => p.2)).map (·.1)).length ≤ sizeLine := by
      rw [List.length_map, List.length_mergeSort, List.length_zip]
      have := rs.length
      omega
    obtain ⟨ep, he'⟩ := PyProof.Rows.sortedAll_at s.heap its (List.toArray out)
    exact ⟨.ref _, upd H (s.heap.objs.size + 1) (.lst (((vs.zip ds).mergeSort (dataLe false fun p : V × D => p.2)).map (·.1))), I.laid (t' := s.toks) (fun _ _ => PyProof.Rows.sortedAll_old) (Nat.le_succ _) ⟨hz, out, ep, g1, he'⟩, rfl, p.lst ok (Le.refl _) (I.hok.fresh (Nat.le_succ _)) g2⟩
  cases rr <;> first | exact p.elim | skip
  case lst a vs ds h g =>
    cases ru
    obtain ⟨hs, p⟩ := PostO.if (b := sortable ds) (o := some (.lst (sortD ds))) p
    obtain ⟨f1, f2, f3, f4, f5⟩ := sortable_facts hs
    obtain ⟨its, rv, hl, z⟩ := I.list (gx.k ▸ h)
    obtain ⟨e1, e2⟩ := each_zip gx I l rv g f1
    have hz := zip_snd g.length
    refine sorted_data (enc := fun p : V × D => p.2) hl.isList e1 e2 (by rw [hz]; exact f2) (by rw [hz]; exact f3) (by rw [List.length_zip]; omega) (fun b hb => ?_) (fin vs ds its rv g hs p)
    have : b.2 ∈ ds := by rw [← hz]; exact List.mem_map_of_mem hb
    have := f5 _ this
    omega
  case tup a vs ds h g =>
    cases ru
    obtain ⟨hs, p⟩ := PostO.if (b := sortable ds) (o := some (.lst (sortD ds))) p
    obtain ⟨f1, f2, f3, f4, f5⟩ := sortable_facts hs
    obtain ⟨its, rv, hl, z⟩ := I.tuple (gx.k ▸ l.sqT h)
    obtain ⟨e1, e2⟩ := each_zip gx I l rv g f1
    have hz := zip_snd g.length
    refine sorted_dataT (enc := fun p : V × D => p.2) hl e1 e2 (by rw [hz]; exact f2) (by rw [hz]; exact f3) (by rw [List.length_zip]; omega) (fun b hb => ?_) (fin vs ds its rv g hs p)
    have : b.2 ∈ ds := by rw [← hz]; exact List.mem_map_of_mem hb
    have := f5 _ this
    omega
  case dK a kvs ds h g =>
    cases ru
    obtain ⟨_, lo, ws, rel, dd⟩ := dk_of I.hok h
    exact sorted_d I hc ok lo rel dd g p
  case dW a kvs ds h g =>
    cases ru
    obtain ⟨_, lo, ws, rel, dd⟩ := h
    have dd := dd s.heap (gx.k ▸ I.kIn)
    rw [← gx.p, ← gx.w] at dd
    exact sorted_d I hc ok lo rel dd g p
  case dT a xs ds h rt g =>
    cases ru
    cases rt with
    | nil =>
      cases g
      obtain ⟨zz, lo, nd, us, pr, dd⟩ := dT_at gx I l h .nil
      cases pr
      exact sorted_d (kvs := []) I hc ok lo .nil (empty_k dd) .nil p
    | @cons k b v r t1 t2 t3 t4 =>
      rw [List.map_cons] at g
      cases g with
      | @cons _ _ _ d es r1 r2 =>
        have e : isI k.data = false := by
          cases hk : k.data <;> first | rfl | (rw [hk] at t1; cases t1)
        have c : (decide (((k.data, d) :: es).length < 64) && ((k.data, d) :: es).all fun p => isI p.1) = false := by
          rw [List.all_cons, e, Bool.false_and, Bool.and_false]
        have p : PostO G Hf ts ((if (decide (((k.data, d) :: es).length < 64) && ((k.data, d) :: es).all fun p => isI p.1) = true then some (((k.data, d) :: es).map (·.1)) else none).bind (bsD .sorted)) Q := p
        rw [c] at p
        exact p.elim
theorem call_tuple_data (gx : GX G X) : CallR X (.type "tuple") (fun xs H Q => ∃ (x : V) (d : D) (Hf : Hp) (ts : List Gt), xs = [x] ∧ Ok G H Hf ts ∧ RpT G H Hf x d ∧ PostO G Hf ts ((lsD d).bind (bsD .tuple)) Q) := by
  intro pins s σ H xs us Q I r h0
  obtain ⟨x, d, Hf, ts, rfl, ok, rr, p⟩ := h0
  have l := ok.le
  cases rr <;> first | exact p.elim | skip
  case lst a vs ds h g => exact call_tuple_of pins s σ H _ us Q I r ⟨a, vs, rfl, .inl ⟨gx.k ▸ h, fun q hq => PostO.tup (ds := ds) p ok (Le.refl _) hq g⟩⟩
  case tup a vs ds h g => exact call_tuple_of pins s σ H _ us Q I r ⟨a, vs, rfl, .inr ⟨gx.k ▸ l.sqT h, PostO.dat (d := .tuple ds) p ok (Le.refl _) (.tup h g)⟩⟩
theorem call_list_data (gx : GX G X) : CallR X (.type "list") (fun xs H Q => ∃ (x : V) (d : D) (Hf : Hp) (ts : List Gt), xs = [x] ∧ Ok G H Hf ts ∧ RpT G H Hf x d ∧ PostO G Hf ts ((lsD d).bind (bsD .list)) Q) := by
  intro pins s σ H xs us Q I r h0
  obtain ⟨x, d, Hf, ts, rfl, ok, rr, p⟩ := h0
  have l := ok.le
  cases rr <;> first | exact p.elim | skip
  case lst a vs ds h g => exact call_list_of pins s σ H _ us Q I r ⟨a, vs, rfl, .inl (gx.k ▸ h), fun q hq => PostO.lst (ds := ds) p ok (Le.refl _) hq g⟩
  case tup a vs ds h g => exact call_list_of pins s σ H _ us Q I r ⟨a, vs, rfl, .inr (gx.k ▸ l.sqT h), fun q hq => PostO.lst (ds := ds) p ok (Le.refl _) hq g⟩
variable {C : Cf} {W : WX} {pa : Expr} {a : E} {x : Str} {p pos : Pos} {id T : String}
theorem post_bs (b : Bs) {σ : L2.St} {H : Hp} {Q : VK} (h0 : tE G C W (.bs b (.e a)) σ H Q) : tB G C W a σ H fun y H1 => ∃ (x : V) (d : D) (Hf : Hp) (ts : List Gt), [y] = [x] ∧ Ok G H1 Hf ts ∧ RpT G H1 Hf x d ∧ PostO G Hf ts ((lsB b d).bind (bsD b)) Q := by
  obtain ⟨gs, Rm, Hf, ok, rel, h⟩ := h0
  rw [ev, eff, effS] at h
  refine one_b ok rel h fun H2 Hf2 t gs2 h n le ok2 k1 rel2 sm => ?_
  have h := h.toO le rel2 sm
  cases e1 : t.er.d? with
  | none => rw [e1] at h; exact h.elim
  | some d =>
    rw [e1] at h
    exact ⟨_, d, Hf2, gs2 ++ Rm, rfl, ok2, k1.top ok2.le e1, h⟩
theorem snd_bs (b : Bs) (hc : CallR X (.builtin id) (fun xs H Q => ∃ (x : V) (d : D) (Hf : Hp) (ts : List Gt), xs = [x] ∧ Ok G H Hf ts ∧ RpT G H Hf x d ∧ PostO G Hf ts ((lsB b d).bind (bsD b)) Q)) (hg : Gl X x) (hm : X.mg x = none) (hv : bootBuiltins x = some (.builtin id)) (ha : PE X pa (tB G C W a)) (hn : x ≠ "__name__") (hdb : (x == ("__debug__" : Str)) = false)
    (he : starEach [pa] X.env = (false, eval pa X.env) :: starEach [] X.env) (hpl : (backTo pos (starEach [] X.env)).any (·.1) = false) : PE X (.Call (.Name x p) [pa] [] pos) (tE G C W (.bs b (.e a))) :=
  (pe_callB hc hg hm hv (pa_cons ha pa_nil he) hn hdb he hpl).imp fun σ H Q h => post_bs b h
theorem snd_bsT (b : Bs) (hc : CallR X (.type T) (fun xs H Q => ∃ (x : V) (d : D) (Hf : Hp) (ts : List Gt), xs = [x] ∧ Ok G H Hf ts ∧ RpT G H Hf x d ∧ PostO G Hf ts ((lsB b d).bind (bsD b)) Q)) (hg : Gl X x) (hm : X.mg x = none) (hv : bootBuiltins x = some (.type T)) (ha : PE X pa (tB G C W a)) (hn : x ≠ "__name__") (hdb : (x == ("__debug__" : Str)) = false)
    (he : starEach [pa] X.env = (false, eval pa X.env) :: starEach [] X.env) (hpl : (backTo pos (starEach [] X.env)).any (·.1) = false) : PE X (.Call (.Name x p) [pa] [] pos) (tE G C W (.bs b (.e a))) :=
  (pe_callTy hc hg hm hv (pa_cons ha pa_nil he) hn hdb he hpl).imp fun σ H Q h => post_bs b h
end
end Lw

set_option autoImplicit false
set_option linter.all false
set_option Elab.async false
set_option maxRecDepth 100000
set_option maxHeartbeats 1000000
/-! LSnd17: dict displays. -/
namespace Lw
open PySem PySem.Spec PyProof.Rows L2
open Gt

def flat : List (E × E) → List E
  | [] => []
  | (k, v) :: r => k :: v :: flat r
/-- pairs of values -/
def upV : List V → List (V × V)
  | k :: v :: r => (k, v) :: upV r
  | _ => []
section
variable {G : Gx} {C : Cf} {W : WX} {X : Cx}
theorem _root_.L2.PE.or {e : Expr} {t t' : TE} (h : PE X e t) (h' : PE X e t') : PE X e (fun σ H Q => t σ H Q ∨ t' σ H Q) := ⟨fun pins s σ H Q I q => q.elim (h.run pins s σ H Q I) (h'.run pins s σ H Q I)⟩
theorem pairs_post {σ : L2.St} {P : R O → Prop} {l : List Pl} {gs0 Rm0 : List Gt} {Hf0 : Hp} : ∀ (ps : List (E × E)) {gs Rm : List Gt} {H Hf : Hp} {k : List O → St → R O} {K : List (V × V) → Hp → Prop}, PostK G W σ Rm Hf P → Ok G H Hf (gs ++ Rm) → Rel σ gs → P ((evs C (flat ps) (gs.map er)).bind k) → Same l gs0 gs →
    (∀ (H2 Hf2 : Hp) (vs : List V) (os : List O) (gs2 : List Gt), P (k os (gs2.map er)) → Le Hf Hf2 → Ok G H2 Hf2 (gs2 ++ Rm) → Paired (RpO G Hf2) vs os → Rel σ gs2 → Same (l ++ effs (flat ps)) gs0 gs2 → vs.length = 2 * ps.length → K (upV vs) H2) →
    tPairs (ps.map fun p => (tE G C W p.1, tE G C W p.2)) σ H K
  | [], gs, Rm, H, Hf, k, K, pk, ok, rel, h, sm, hk => by
    rw [flat, evs] at h
    exact hk H Hf [] [] gs h (Le.refl _) ok .nil rel (by rw [flat, effs, List.append_nil]; exact sm) rfl
  | (a, b) :: ps, gs, Rm, H, Hf, k, K, pk, ok, rel, h, sm, hk => by
    rw [flat, evs] at h
    have h1 : P ((ev C a (gs.map er)).bind fun o s => ((evs C (b :: flat ps) s).bind fun os s => .ok (fz o :: os) s).bind k) := by
      cases e : ev C a (gs.map er) <;> rw [e] at h <;> exact h
    refine ⟨gs, Rm, Hf, ok, rel, PostV.mk pk h1 fun H1 Hf1 t1 gs1 h n1 le1 ok1 rel1 sm1 => ?_⟩
    obtain ⟨Hg, lg, okg, r1⟩ := ok1.fzs n1
    rw [evs] at h
    have h2 : P ((ev C b (gs1.map er)).bind fun o s => ((evs C (flat ps) s).bind fun os s => .ok (fz t1.er :: fz o :: os) s).bind k) := by
      cases e : ev C b (gs1.map er) with
      | no => rw [e] at h; exact h
      | exc => rw [e] at h; exact h
      | ok o s =>
        rw [e] at h
        have h : P ((((evs C (flat ps) s).bind fun os s => R.ok (fz o :: os) s).bind fun os s => R.ok (fz t1.er :: os) s).bind k) := h
        show P (((evs C (flat ps) s).bind fun os s => .ok (fz t1.er :: fz o :: os) s).bind k)
        cases e2 : evs C (flat ps) s <;> rw [e2] at h <;> exact h
    refine ⟨gs1, [.sh t1.rt (fz t1.er)] ++ Rm, Hg, okg, rel1, PostV.mk (pk.more (le1.trans lg)) h2 fun H2 Hf2 t2 gs2 h n2 le2 ok2 rel2 sm2 => ?_⟩
    obtain ⟨Hk, lk, okk, r2⟩ := ok2.fzs n2
    have h3 : P ((evs C (flat ps) (gs2.map er)).bind fun os s => k (fz t1.er :: fz t2.er :: os) s) := by
      cases e2 : evs C (flat ps) (gs2.map er) <;> rw [e2] at h <;> exact h
    have sma : Same (l ++ (eff a ++ eff b)) gs0 gs2 := sm.trans (sm1.trans sm2)
    refine pairs_post (l := l ++ (eff a ++ eff b)) (gs0 := gs0) (Rm0 := Rm0) (Hf0 := Hf0) ps (pk.more (T := [.sh t2.rt (fz t2.er)] ++ [.sh t1.rt (fz t1.er)]) ((le1.trans lg).trans (le2.trans lk))) (by rw [List.append_assoc]; exact okk) rel2 h3 sma fun H3 Hf3 vs os gs3 h le3 ok3 pr rel3 sm3 hl => ?_
    refine hk H3 Hf3 (t1.rt :: t2.rt :: vs) (fz t1.er :: fz t2.er :: os) gs3 h (((le1.trans lg).trans (le2.trans lk)).trans le3) ok3.tailR (.cons (sh_mem ok3 (by simp)) (.cons (sh_mem ok3 (by simp)) pr)) rel3 ?_ (by rw [List.length_cons, List.length_cons, hl, List.length_cons]; omega)
    refine sm3.weak fun q hq => ?_
    rw [flat, effs, effs]
    simp only [List.mem_append] at hq ⊢
    rcases hq with (h | h | h) | h <;> simp [h]
/-! ### what the display holds -/
theorem dputs_k {Hf : Hp} : ∀ (more : List (Key × V)) {mds : List (D × D)} {kvs : List (Key × V)} {ds out : List (D × D)}, Rpk G Hf (more.map fun p => (keyD p.1, p.2)) mds → Rpk G Hf (kvs.map fun p => (keyD p.1, p.2)) ds → dputs ds mds = some out → Rpk G Hf ((mergeK kvs more).map fun p => (keyD p.1, p.2)) out
  | [], _, _, _, _, r, r2, e => by
    cases r
    rw [dputs] at e
    cases e
    exact r2
  | (k, v) :: more, _, kvs, ds, out, r, r2, e => by
    rw [List.map_cons] at r
    cases r with
    | cons r1 r3 =>
      rw [dputs] at e
      obtain ⟨d1, e1, e2⟩ := Option.bind_eq_some_iff.mp e
      obtain ⟨_, _, rfl⟩ := dputO_some e1
      exact dputs_k more r3 (r2.put_k k r1) e2
def mergeX (xs more : List (NestedKey × Addr × V)) : List (NestedKey × Addr × V) := more.foldl (fun acc x => putX acc x.1 x.2.1 x.2.2) xs
theorem mergeX_len : ∀ (more xs : List (NestedKey × Addr × V)), (mergeX xs more).length ≤ xs.length + more.length
  | [], _ => Nat.le_refl _
  | x :: more, xs => by
    have h1 := mergeX_len more (putX xs x.1 x.2.1 x.2.2)
    have h2 := putX_len x.1 x.2.1 x.2.2 (xs := xs)
    show (mergeX (putX xs x.1 x.2.1 x.2.2) more).length ≤ _
    rw [List.length_cons]
    omega
theorem mergeX_ok {Hf : Hp} : ∀ {more : List (NestedKey × Addr × V)} {mus : List (NestedKey × Addr × Value)} {mds : List (D × D)} {xs : List (NestedKey × Addr × V)} {us : List (NestedKey × Addr × Value)} {ds out : List (D × D)}, XU more mus → Rpt G Hf more → Rpk G Hf (more.map fun p => (p.1.data, p.2.2)) mds → XU xs us → Rpt G Hf xs → Rpk G Hf (xs.map fun p => (p.1.data, p.2.2)) ds → (xs.map (·.1)).Nodup → dputs ds mds = some out →
    XU (mergeX xs more) (storedAllH us mus) ∧ Rpt G Hf (mergeX xs more) ∧ Rpk G Hf ((mergeX xs more).map fun p => (p.1.data, p.2.2)) out ∧ ((mergeX xs more).map (·.1)).Nodup
  | _, _, _, _, _, _, _, .nil, _, r, p, t, rr, nd, e => by
    cases r
    rw [dputs] at e
    cases e
    exact ⟨p, t, rr, nd⟩
  | (k, b, v) :: more, _, _, xs, _, _, _, .cons (b := (k2, b2, u)) q qs, tt, r, p, t, rr, nd, e => by
    obtain ⟨q1, q2, q3⟩ := q
    simp only at q1 q2 q3
    subst q1 q2
    rw [List.map_cons] at r
    cases r with
    | cons r1 r2 =>
      cases tt with
      | cons t1 t2 t3 t4 =>
        rw [dputs] at e
        obtain ⟨d1, e1, e2⟩ := Option.bind_eq_some_iff.mp e
        obtain ⟨_, _, rfl⟩ := dputO_some e1
        have h := mergeX_ok (more := more) qs t4 r2 (XU.put k b q3 p) (t.put k b v t1 t2 t3) (rr.put_t k b r1 p) (putX_nd k b v nd) e2
        exact h
/-- {k: v, ..} with tuples as keys -/
def tDispT (G : Gx) (trs : List (TE × TE)) : TE := fun σ H Q => ∀ p, H p = none → tPairs trs σ (upd H p (.dK [])) fun ps H2 => H2 p = some (.dK []) ∧ ∃ (xs : List (NestedKey × Addr × V)) (Hf2 : Hp), ps = xs.map (fun x => (V.ref x.2.1, x.2.2)) ∧ Le Hf2 H2 ∧ Rpt G Hf2 xs ∧ ((mergeX [] xs).map (·.1)).Nodup ∧ xs.length ≤ 15 ∧
  Q (.ref p) (upd H2 p (.ext (dphi G.prog G.w p (mergeX [] xs))))
theorem carriesX {pins : List (Addr × Obj)} {s : Shared} {σ : L2.St} {H Hf : Hp} (gx : GX G X) (I : Inv X pins σ H s) (l : Le Hf H) : ∀ {xs : List (NestedKey × Addr × V)} {ws : List (Value × Value)}, VV (xs.map fun x => (V.ref x.2.1, x.2.2)) ws → Rpt G Hf xs → ∃ us, CarriesH (nestedKind X.prog X.w) s.heap ws us ∧ XU xs us
  | [], _, .nil, _ => ⟨[], True.intro, .nil⟩
  | (k, b, v) :: xs, _, .cons (b := (ku, vu)) q qs, .cons t1 t2 t3 t4 => by
    obtain ⟨us, h1, h2⟩ := carriesX gx I l qs t4
    obtain ⟨q1, q2⟩ := q
    cases (show ku = Value.ref b from q1)
    exact ⟨(k, b, vu) :: us, ⟨rfl, rfl, ⟨t3.nk gx I l rfl, t2⟩, h1⟩, .cons ⟨rfl, rfl, q2⟩ h2⟩
theorem XU.len {xs : List (NestedKey × Addr × V)} {us : List (NestedKey × Addr × Value)} (h : XU xs us) : xs.length = us.length := Paired.length h
theorem mergeX_xu : ∀ {more : List (NestedKey × Addr × V)} {mus : List (NestedKey × Addr × Value)} {xs : List (NestedKey × Addr × V)} {us : List (NestedKey × Addr × Value)}, XU more mus → XU xs us → XU (mergeX xs more) (storedAllH us mus)
  | _, _, _, _, .nil, p => p
  | (k, b, v) :: more, _, _, _, .cons (b := (k2, b2, u)) q qs, p => by
    obtain ⟨q1, q2, q3⟩ := q
    simp only at q1 q2 q3
    subst q1 q2
    have h := mergeX_xu (more := more) qs (XU.put k b q3 p)
    exact h
theorem pe_dispT (gx : GX G X) (hu : X.A.units + 150 < cLine) {pos : Pos} {keys : List (Option Expr)} {values : List Expr} {trs : List (TE × TE)} (h : PPs X pos keys values trs) (hall : keys.all (·.isSome) = true) (hl : keys.length = values.length) (h0 : keys ≠ []) (h15 : keys.length ≤ 15) : PE X (.Dict keys values pos) (tDispT G trs) := by
  refine ⟨fun pins s σ H Q I q => ?_⟩
  have hn := I.hok.fresh (Nat.le_refl s.heap.objs.size)
  have I1 := I.laid (a := s.heap.objs.size) (o := .dK []) (h' := s.heap.push { cls := .type "dict", data := .dict #[] }) (t' := s.toks) (fun _ _ q => Heap.get?_push_of_some _ q) (Nat.le_refl _) (dk_empty s.heap I.big)
  have hpn := pairTrees_length keys values X.env pos hall hl
  rw [arm_eval_Dict, zip_pairTrees keys values X.env pos hall hl, dictDisplay_pairs (pairTrees keys values X.env pos) (fun he => h0 (List.length_eq_zero_iff.mp (by rw [← hpn, he]; rfl))) (by omega)]
  have room : (nestedKind X.prog X.w).room X.A := by
    show X.A.units + 8 < cLine
    omega
  refine wpAny_bind (wpAny_standAt (wpAny_bind (wpAny_subDictH (knd := nestedKind X.prog X.w) (Q := fun d s' => wpAny (model X.prog X.w) X.A (pure (Value.ref d)) (EP X pins σ Q) X.xe s') room (by omega) ?_)))
  refine thn (h.run pins _ σ _ _ I1 (q _ hn)) fun ws s2 ⟨ps, H2, I2, rel, e, xs, Hf2, ep, l2, rt, nd, lk, q2⟩ => ?_
  subst ep
  obtain ⟨us, hc, xu⟩ := carriesX gx I2 l2 rel rt
  obtain ⟨z, hd, vs0, r0, dd⟩ := dk_of I2.hok e
  cases r0
  refine ⟨us, hc, empty_t dd, fun h' tk dd' hs => wpAny_pure ⟨.ref s.heap.objs.size, _, ?_, rfl, q2⟩⟩
  obtain ⟨ob, es, epx, hq, h2, h3, h4, _, h5⟩ := dd'
  refine d_write I2 (by rw [e]; exact True.intro) hs ⟨ob, hq⟩ (dphi_ok ⟨?_, hd, nd, storedAllH [] us, mergeX_xu xu .nil, ob, es, epx, hq, h2, h3, ?_⟩)
  · have := mergeX_len xs []
    rw [List.length_nil] at this
    rw [sizeLine_eq]; omega
  · rw [gx.p, gx.w] at h4
    exact h4
/-- the keys are ints and texts, or tuples -/
theorem keys_k {Hf H : Hp} (l : Le Hf H) : ∀ {vs : List V} {os : List O} {ds : List D} {mds : List (D × D)}, Paired (RpO G Hf) vs os → dsOf os = some ds → pairUp ds = some mds → (∀ p ∈ mds, topKey p.1 = true ∧ tupK p.1 = false) → ∃ kvs : List (Key × V), upV vs = kvs.map (fun kv => (kV kv.1, kv.2)) ∧ Rpk G Hf (kvs.map fun p => (keyD p.1, p.2)) mds := by
  have A : ∀ (mds : List (D × D)) {vs : List V} {ds : List D}, Rps G Hf vs ds → pairUp ds = some mds → (∀ p ∈ mds, topKey p.1 = true ∧ tupK p.1 = false) → ∃ kvs : List (Key × V), upV vs = kvs.map (fun kv => (kV kv.1, kv.2)) ∧ Rpk G Hf (kvs.map fun p => (keyD p.1, p.2)) mds := by
    intro mds
    induction mds with
    | nil =>
      intro vs ds r e _
      cases r with
      | nil => exact ⟨[], rfl, .nil⟩
      | cons a r =>
        cases r with
        | nil => cases e
        | cons b r =>
          rw [pairUp] at e
          obtain ⟨_, _, e⟩ := Option.map_eq_some_iff.mp e
          cases e
    | cons p mds ih =>
      intro vs ds r e hk
      cases r with
      | nil => cases e
      | cons a r =>
        cases r with
        | nil => cases e
        | cons b r =>
          rw [pairUp] at e
          obtain ⟨mds', e1, e2⟩ := Option.map_eq_some_iff.mp e
          cases e2
          obtain ⟨kvs, h1, h2⟩ := ih r e1 fun q hq => hk q (.tail _ hq)
          obtain ⟨t1, t2⟩ := hk _ (.head _)
          obtain ⟨κ, e3, e4⟩ := scal_key (a.top l) t1 t2
          subst e3 e4
          exact ⟨(κ, _) :: kvs, by rw [upV, h1]; rfl, .cons b h2⟩
  intro vs os ds mds pr e1 e2 hk
  exact A _ (rps_of pr e1) e2 hk
theorem keys_t {Hf : Hp} : ∀ {vs : List V} {os : List O} {ds : List D} {mds : List (D × D)}, Paired (RpO G Hf) vs os → dsOf os = some ds → pairUp ds = some mds → (∀ p ∈ mds, topKey p.1 = true ∧ tupK p.1 = true ∧ p.1.depth ≤ 8) → ∃ xs : List (NestedKey × Addr × V), upV vs = xs.map (fun x => (V.ref x.2.1, x.2.2)) ∧ Rpt G Hf xs ∧ Rpk G Hf (xs.map fun p => (p.1.data, p.2.2)) mds := by
  have N : ∀ {d : D}, keyOk d = true → ∃ k : NestedKey, k.data = d := by
    have M : ∀ (n : Nat) (d : D), sizeOf d < n → keyOk d = true → ∃ k : NestedKey, k.data = d := by
      intro n
      induction n with
      | zero => intro d h; exact absurd h (Nat.not_lt_zero _)
      | succ n ih =>
        intro d hd hk
        cases d with
        | none => exact ⟨.none, rfl⟩
        | int i => exact ⟨.num i, rfl⟩
        | str x => exact ⟨.text x, rfl⟩
        | tuple xs =>
          have L : ∀ (xs : List D), sizeOf xs < n → keysOk xs = true → ∃ ks : List NestedKey, NestedKey.datas ks = xs := by
            intro xs
            induction xs with
            | nil => exact fun _ _ => ⟨[], rfl⟩
            | cons x xs ih2 =>
              intro hs hk
              rw [keysOk, Bool.and_eq_true] at hk
              have hs' : 1 + sizeOf x + sizeOf xs < n := by simpa using hs
              obtain ⟨k, e⟩ := ih x (by omega) hk.1
              obtain ⟨ks, es⟩ := ih2 (by omega) hk.2
              exact ⟨k :: ks, by rw [NestedKey.datas, e, es]⟩
          have hd' : 1 + sizeOf xs < n + 1 := by simpa using hd
          obtain ⟨ks, e⟩ := L xs (by omega) (by rw [keyOk] at hk; exact hk)
          exact ⟨.tup ks, by rw [NestedKey.data, e]⟩
        | bool => cases hk
        | list => cases hk
        | dict => cases hk
    intro d h
    exact M _ _ (Nat.lt_succ_self _) h
  have A : ∀ (mds : List (D × D)) {vs : List V} {ds : List D}, Rps G Hf vs ds → pairUp ds = some mds → (∀ p ∈ mds, topKey p.1 = true ∧ tupK p.1 = true ∧ p.1.depth ≤ 8) → ∃ xs : List (NestedKey × Addr × V), upV vs = xs.map (fun x => (V.ref x.2.1, x.2.2)) ∧ Rpt G Hf xs ∧ Rpk G Hf (xs.map fun p => (p.1.data, p.2.2)) mds := by
    intro mds
    induction mds with
    | nil =>
      intro vs ds r e _
      cases r with
      | nil => exact ⟨[], rfl, .nil, .nil⟩
      | cons a r =>
        cases r with
        | nil => cases e
        | cons b r =>
          rw [pairUp] at e
          obtain ⟨_, _, e⟩ := Option.map_eq_some_iff.mp e
          cases e
    | cons p mds ih =>
      intro vs ds r e hk
      cases r with
      | nil => cases e
      | cons a r =>
        cases r with
        | nil => cases e
        | cons b r =>
          rw [pairUp] at e
          obtain ⟨mds', e1, e2⟩ := Option.map_eq_some_iff.mp e
          cases e2
          obtain ⟨xs, h1, h2, h3⟩ := ih r e1 fun q hq => hk q (.tail _ hq)
          obtain ⟨t1, t2, t3⟩ := hk _ (.head _)
          cases a with
          | tup s1 s2 =>
            obtain ⟨κ, ek⟩ := N (d := .tuple _) (by rw [keyOk]; exact t1)
            refine ⟨(κ, _, _) :: xs, by rw [upV, h1]; rfl, .cons (by rw [ek]; rfl) (by rw [← nk_depth, ek]; exact t3) (by rw [ek]; exact .tup s1 s2) h2, ?_⟩
            rw [List.map_cons]
            simp only [ek]
            exact .cons b h3
          | _ => cases t2
  intro vs os ds mds pr e1 e2 hk
  exact A _ (rps_of pr e1) e2 hk
/-! ### which display it is -/
theorem dput_kind (k v : D) {b : Bool} (hb : tupK k = b) (acc : List (D × D)) (h : ∀ p ∈ acc, tupK p.1 = b) : ∀ p ∈ dput acc k v, tupK p.1 = b := by
  intro p hp
  unfold dput at hp
  split at hp
  · obtain ⟨q, hq, e⟩ := List.mem_map.mp hp
    split at e
    · subst e; exact h q hq
    · subst e; exact h q hq
  · rcases List.mem_append.mp hp with h1 | h1
    · exact h p h1
    · cases List.mem_singleton.mp h1
      exact hb
theorem dput_ne (k v : D) (acc : List (D × D)) : dput acc k v ≠ [] := by
  unfold dput
  split
  · next h =>
    intro e
    cases acc with
    | nil => cases h
    | cons => cases e
  · intro e
    exact absurd (List.append_eq_nil_iff.mp e).2 (by simp)
theorem dputs_kind {b : Bool} : ∀ (mds acc : List (D × D)) {out : List (D × D)}, acc ≠ [] → (∀ p ∈ acc, tupK p.1 = b) → dputs acc mds = some out → ∀ p ∈ mds, topKey p.1 = true ∧ p.1.depth ≤ 8 ∧ tupK p.1 = b
  | [], _, _, _, _, _ => by intro p hp; cases hp
  | (k, v) :: mds, acc, out, ne, ha, e => by
    rw [dputs] at e
    obtain ⟨acc', e1, e2⟩ := Option.bind_eq_some_iff.mp e
    obtain ⟨c, _, rfl⟩ := dputO_some e1
    unfold kOk at c
    rw [Bool.and_eq_true, Bool.and_eq_true] at c
    obtain ⟨⟨c1, c2⟩, c3⟩ := c
    have hb : tupK k = b := by
      cases acc with
      | nil => exact absurd rfl ne
      | cons a acc =>
        have := ha a (.head _)
        simp only [beq_iff_eq] at c3
        rw [c3, this]
    have ih := dputs_kind mds (dput acc k v) (dput_ne k v acc) (dput_kind k v hb acc ha) e2
    intro p hp
    cases hp with
    | head => exact ⟨c1, of_decide_eq_true c2, hb⟩
    | tail _ h => exact ih p h
theorem dputs_kinds {mds out : List (D × D)} (e : dputs [] mds = some out) : (∀ p ∈ mds, topKey p.1 = true ∧ tupK p.1 = false) ∨ (∀ p ∈ mds, topKey p.1 = true ∧ tupK p.1 = true ∧ p.1.depth ≤ 8) := by
  cases mds with
  | nil => exact .inl fun p hp => by cases hp
  | cons a mds =>
    obtain ⟨k, v⟩ := a
    rw [dputs] at e
    obtain ⟨acc', e1, e2⟩ := Option.bind_eq_some_iff.mp e
    obtain ⟨c, _, rfl⟩ := dputO_some e1
    unfold kOk at c
    rw [Bool.and_eq_true, Bool.and_eq_true] at c
    obtain ⟨⟨c1, c2⟩, _⟩ := c
    have A : ∀ p ∈ (k, v) :: mds, topKey p.1 = true ∧ p.1.depth ≤ 8 ∧ tupK p.1 = tupK k := by
      intro p hp
      cases hp with
      | head => exact ⟨c1, of_decide_eq_true c2, rfl⟩
      | tail _ h => exact dputs_kind mds _ (dput_ne k v []) (dput_kind k v rfl [] fun p hp => by cases hp) e2 p h
    cases hk : tupK k with
    | false => exact .inl fun p hp => ⟨(A p hp).1, (A p hp).2.2.trans hk⟩
    | true => exact .inr fun p hp => ⟨(A p hp).1, (A p hp).2.2.trans hk, (A p hp).2.1⟩
theorem upV_len : ∀ (n : Nat) {vs : List V}, vs.length = 2 * n → (upV vs).length = n
  | 0, [], _ => rfl
  | 0, _ :: _, h => by simp at h
  | n + 1, [], h => by simp at h
  | n + 1, [_], h => by simp at h; omega
  | n + 1, a :: b :: vs, h => by
    rw [upV, List.length_cons, upV_len n (by simp only [List.length_cons] at h; omega)]
theorem relv_ex (v : V) : ∃ u, RelV v u := by
  cases v
  all_goals first | exact ⟨_, rfl⟩ | exact ⟨.int _ 0, 0, rfl⟩ | exact ⟨.str _ 0, 0, rfl⟩ | exact ⟨.bytes _ 0, 0, rfl⟩ | exact ⟨.float _ 0, 0, rfl⟩ | skip
theorem xu_ex : ∀ (xs : List (NestedKey × Addr × V)), ∃ us, XU xs us
  | [] => ⟨[], .nil⟩
  | x :: xs => by
    obtain ⟨us, h⟩ := xu_ex xs
    obtain ⟨u, hu⟩ := relv_ex x.2.2
    exact ⟨(x.1, x.2.1, u) :: us, .cons ⟨rfl, rfl, hu⟩ h⟩
open Classical in
theorem snd_dct (gx : GX G X) (hu : X.A.units + 150 < cLine) {pos : Pos} {keys : List (Option Expr)} {values : List Expr} {ps : List (E × E)} (h : PPs X pos keys values (ps.map fun p => (tE G C W p.1, tE G C W p.2))) (hall : keys.all (·.isSome) = true) (hl : keys.length = values.length) (h0 : keys ≠ []) (h15 : ps.length ≤ 15) (hn : keys.length = ps.length) : PE X (.Dict keys values pos) (tE G C W (.dct (flat ps))) := by
  refine ((pe_disp h hall hl h0 (by omega)).or (pe_dispT (G := G) gx hu h hall hl h0 (by omega))).imp fun σ H Q ⟨gs, Rm, Hf, ok, rel, h⟩ => ?_
  rw [ev, eff] at h
  have B : ∀ (p : Addr), H p = none → Ok G (upd H p (.dK [])) Hf (gs ++ ([.dK p [] []] ++ Rm)) := fun p hp => (ok.new hp (.dK upd_same .nil) rfl).perm List.perm_middle
  cases e : evs C (flat ps) (gs.map er) with
  | no => rw [e] at h; exact h.elim
  | exc c p s =>
    refine .inl fun q hq => ?_
    refine pairs_post (l := []) (gs0 := gs) (Rm0 := Rm) (Hf0 := Hf) (P := fun r => PostV G W r (effs (flat ps)) σ gs Rm Hf Q) (k := fun _ _ => .no) ps (PostK.more pk_v (Le.refl _)) (B q hq) rel (by rw [e]; rw [e] at h; exact h) (Same.refl _ _) fun H2 Hf2 vs os gs2 h _ _ _ _ _ _ => h.elim
  | ok os s =>
    rw [e] at h
    have h : PostV G W (ofO ((((dsOf os).bind pairUp).bind (dputs [])).map .dct) s) (effs (flat ps)) σ gs Rm Hf Q := h
    cases eo : ((dsOf os).bind pairUp).bind (dputs []) with
    | none => rw [eo] at h; exact h.elim
    | some out =>
      rw [eo] at h
      obtain ⟨mds, e4, e3⟩ := Option.bind_eq_some_iff.mp eo
      obtain ⟨ds, e1, e2⟩ := Option.bind_eq_some_iff.mp e4
      have hk : PostV G W ((evs C (flat ps) (gs.map er)).bind fun os' s' => if os' = os then ofO (some (.dct out)) s' else .no) (effs (flat ps)) σ gs Rm Hf Q := by
        rw [e]
        show PostV G W (if os = os then _ else _) _ _ _ _ _ _
        rw [if_pos rfl]
        exact h
      rcases dputs_kinds e3 with kd | kd
      · refine .inl fun q hq => ?_
        refine pairs_post (l := []) (gs0 := gs) (Rm0 := Rm) (Hf0 := Hf) (P := fun r => PostV G W r (effs (flat ps)) σ gs Rm Hf Q) ps (PostK.more pk_v (Le.refl _)) (B q hq) rel hk (Same.refl _ _) fun H2 Hf2 vs os' gs2 h le ok2 pr rel2 sm hl2 => ?_
        by_cases eq : os' = os
        · subst eq
          rw [if_pos rfl] at h
          have h := h.toO le rel2 sm
          have ok3 : Ok G H2 Hf2 (.dK q [] [] :: (gs2 ++ Rm)) := ok2.perm List.perm_middle.symm
          have hd : H2 q = some (.dK []) := by
            cases ok3.ok _ (.head _) with
            | dK a _ => exact a
          obtain ⟨kvs, hv, rk⟩ := keys_k ok3.le pr e1 e2 kd
          refine ⟨hd, kvs, hv, by rw [← List.length_map, ← hv, upV_len _ hl2]; exact h15, ?_⟩
          exact h _ Hf2 (.dK q (mergeK [] kvs) out) (fun e => by cases e) (Le.refl _) (ok3.write (by simp [ads]) (.dK upd_same (dputs_k kvs rk .nil e3)) (by simp [ads])) rfl
        · rw [if_neg eq] at h; exact h.elim
      · refine .inr fun q hq => ?_
        refine pairs_post (l := []) (gs0 := gs) (Rm0 := Rm) (Hf0 := Hf) (P := fun r => PostV G W r (effs (flat ps)) σ gs Rm Hf Q) ps (PostK.more pk_v (Le.refl _)) (B q hq) rel hk (Same.refl _ _) fun H2 Hf2 vs os' gs2 h le ok2 pr rel2 sm hl2 => ?_
        by_cases eq : os' = os
        · subst eq
          rw [if_pos rfl] at h
          have h := h.toO le rel2 sm
          have ok3 : Ok G H2 Hf2 (.dK q [] [] :: (gs2 ++ Rm)) := ok2.perm List.perm_middle.symm
          have hd : H2 q = some (.dK []) := by
            cases ok3.ok _ (.head _) with
            | dK a _ => exact a
          obtain ⟨xs, hv, rt, rk⟩ := keys_t pr e1 e2 kd
          obtain ⟨us, xu⟩ := xu_ex xs
          obtain ⟨_, m1, m2, m3⟩ := mergeX_ok xu rt rk .nil .nil .nil List.nodup_nil e3
          refine ⟨hd, xs, Hf2, hv, ok3.le, rt, m3, by rw [← List.length_map, ← hv, upV_len _ hl2]; exact h15, ?_⟩
          exact h _ Hf2 (.dT q (mergeX [] xs) out) (fun e => by cases e) (Le.refl _) (ok3.write (by simp [ads]) (.dT upd_same m1 m2) (by simp [ads])) rfl
        · rw [if_neg eq] at h; exact h.elim
end
end Lw

set_option autoImplicit false
set_option linter.all false
set_option Elab.async false
set_option maxRecDepth 100000
set_option maxHeartbeats 1000000
/-! LSnd18: an attribute is set. -/
namespace Lw
open PySem PySem.Spec PyProof.Rows L2
open Gt

section
variable {G : Gx} {C : Cf} {W : WX} {X : Cx} {gs Rm ts : List Gt} {H Hf Hf0 : Hp} {t : Gt}
theorem pt_ads (x : Nat) (t : Gt) : ∀ fs : List (Nat × Gt), ∃ l : List Addr, l.Sublist (adss fs) ∧ (adss (ptT fs x t)).Perm (ads t ++ l)
  | [] => ⟨[], List.Sublist.refl _, by rw [ptT, adss, adss]⟩
  | (y, u) :: r => by
    unfold ptT
    by_cases h : y = x
    · rw [if_pos h]
      exact ⟨adss r, by rw [adss]; exact List.sublist_append_right _ _, by rw [adss]⟩
    · rw [if_neg h]
      obtain ⟨l, h1, h2⟩ := pt_ads x t r
      refine ⟨ads u ++ l, by rw [adss]; exact (List.Sublist.refl _).append h1, ?_⟩
      rw [adss]
      refine ((List.Perm.refl (ads u)).append h2).trans ?_
      rw [← List.append_assoc, ← List.append_assoc]
      exact List.perm_append_comm.append_right l
theorem pt_map {c x : Nat} (fx : FOk G c x) (t : Gt) : ∀ {fs : List (Nat × Gt)}, OkTs G H Hf c fs → (ptT fs x t).map (fun p => (G.fnm p.1, p.2.rt)) = L2.putF (G.fnm x) t.rt (fs.map fun p => (G.fnm p.1, p.2.rt))
  | [], _ => rfl
  | (y, u) :: r, .cons k1 k2 k3 k4 => by
    unfold ptT
    by_cases h : y = x
    · subst h
      rw [if_pos rfl, List.map_cons, List.map_cons, L2.putF, if_pos rfl]
    · have : G.fnm y ≠ G.fnm x := fun z => h (G.inj _ _ k1.1 fx.1 z)
      rw [if_neg h, List.map_cons, List.map_cons, L2.putF, if_neg this, pt_map fx t k4]
theorem pt_ok {c x : Nat} (fx : FOk G c x) (n : t ≠ .un) (k : OkT G H Hf t) : ∀ {fs : List (Nat × Gt)}, OkTs G H Hf c fs → OkTs G H Hf c (ptT fs x t)
  | [], _ => .cons fx n k .nil
  | (y, u) :: r, .cons k1 k2 k3 k4 => by
    unfold ptT
    by_cases h : y = x
    · rw [if_pos h]; exact .cons fx n k k4
    · rw [if_neg h]; exact .cons k1 k2 k3 (pt_ok fx n k k4)
/-- a tree goes into an attribute -/
theorem Ok.pack {a dx : Addr} {c x : Nat} {fs : List (Nat × Gt)} (ok : Ok G H Hf (t :: .ins a dx c fs :: ts)) (n : t ≠ .un) (fx : FOk G c x) :
    Ok G (upd H a (.ins (G.ca c) dx (L2.putF (G.fnm x) t.rt (fs.map fun p => (G.fnm p.1, p.2.rt))))) Hf (.ins a dx c (ptT fs x t) :: ts) := by
  obtain ⟨l, p1, p2⟩ := pt_ads x t fs
  have nd := ok.nd
  have hs : ∃ m, m.Sublist ((t :: .ins a dx c fs :: ts).flatMap ads) ∧ ((.ins a dx c (ptT fs x t) :: ts).flatMap ads).Perm m := by
    refine ⟨ads t ++ ((a :: dx :: l) ++ ts.flatMap ads), ?_, ?_⟩
    · rw [List.flatMap_cons, List.flatMap_cons]
      exact (List.Sublist.refl _).append (((p1.cons_cons dx).cons_cons a).append (List.Sublist.refl _))
    · rw [List.flatMap_cons]
      have q : (ads (.ins a dx c (ptT fs x t))).Perm (ads t ++ (a :: dx :: l)) := by
        rw [ads]
        refine ((p2.cons dx).cons a).trans ?_
        exact (List.perm_append_comm (l₁ := [a, dx]) (l₂ := ads t)).append_right l |>.trans (by rw [List.append_assoc]; exact List.Perm.refl _)
      rw [← List.append_assoc]
      exact q.append_right _
  obtain ⟨m, m1, m2⟩ := hs
  have hf : Hf a = none := ok.ap a (by rw [List.flatMap_cons, List.flatMap_cons]; simp [ads])
  have nd2 := nd
  rw [List.flatMap_cons, List.flatMap_cons, List.nodup_append, List.nodup_append] at nd2
  obtain ⟨n1, ⟨n2, n3, n4⟩, n5⟩ := nd2
  have hat : a ∉ ads t := fun h => n5 a h a (List.mem_append_left _ (by simp [ads])) rfl
  rw [ads] at n2
  have haf : a ∉ adss fs := fun h => (List.nodup_cons.mp n2).1 (List.mem_cons_of_mem _ h)
  have hdx : dx ≠ a := fun h => (List.nodup_cons.mp n2).1 (by rw [h]; exact List.mem_cons_self)
  have hts : a ∉ ts.flatMap ads := fun h => n4 a (by simp [ads]) a h rfl
  refine ⟨fun b o e => ?_, fun y hy => ?_, (m2.nodup_iff).mpr (nd.sublist m1), fun b h => ok.ap b (m1.subset (m2.subset h))⟩
  · rw [upd_ne (fun z => by subst z; rw [hf] at e; cases e)]; exact ok.le b o e
  · rcases List.mem_cons.mp hy with rfl | h
    · cases ok.ok _ (.tail _ (.head _)) with
      | ins k1 k2 k3 k4 =>
        have kt := (ok.ok t (.head _)).keep (H' := upd H a (.ins (G.ca c) dx (L2.putF (G.fnm x) t.rt (fs.map fun p => (G.fnm p.1, p.2.rt))))) (Le.refl _) fun b hb => upd_ne fun z => hat (by subst z; exact hb)
        have kf := k4.keep (H' := upd H a (.ins (G.ca c) dx (L2.putF (G.fnm x) t.rt (fs.map fun p => (G.fnm p.1, p.2.rt))))) (Le.refl _) fun b hb => upd_ne fun z => haf (by subst z; exact hb)
        refine .ins ?_ ((upd_ne hdx).trans k2) k3 (pt_ok fx n kt kf)
        rw [upd_same, pt_map fx t k4]
    · exact (ok.ok y (.tail _ (.tail _ h))).keep (Le.refl _) fun b hb => upd_ne fun z => hts (by subst z; exact List.mem_flatMap.mpr ⟨y, h, hb⟩)
theorem ers_len : ∀ fs : List (Nat × Gt), (ers fs).length = fs.length
  | [] => rfl
  | (_, _) :: r => by rw [ers, List.length_cons, List.length_cons, ers_len r]
variable {pa : Expr} {a : E} {pos : Pos} {sub : Nat → Nat → Bool}
/-- the attribute is put, as the evaluator does it -/
def fldS (fo : Nat → Nat → Bool) (i x : Nat) (o : O) (s : St) : Option St := match s.getD i .un with
  | .ins c fs => if (fo c x && decide (fs.length < 900)) = true then some (s.set i (.ins c (aput fs x o))) else none
  | _ => none
theorem putF_eq {fo : Nat → Nat → Bool} {i x : Nat} {o : O} {s : St} (n : fz o ≠ .un) : Lw.putF fo i x o s = fldS fo i x (fz o) s := by
  unfold Lw.putF fldS
  cases e : fz o <;> first | exact absurd e n | (cases s.getD i .un <;> rfl)
theorem ownF_eq {fo : Nat → Nat → Bool} {i x : Nat} {o : O} {s : St} (n : o ≠ .un) : ownFd fo i x o s = fldS fo i x o s := by
  unfold ownFd fldS
  cases o <;> first | exact absurd rfl n | (cases s.getD i .un <;> rfl)
/-- what both ways of setting an attribute have in common -/
theorem set_fld {i x : Nat} {σ : L2.St} {D : Ends} {u : Gt} {l : List Nat} (hfo : ∀ c y, C.fo c y = true → FOk G c y) (le : Le Hf0 Hf) (ok : Ok G H Hf (u :: (gs ++ Rm))) (n : u ≠ .un) (rel : Rel σ gs)
    (h : PostS G W (match fldS C.fo i x u.er (gs.map er) with | some s => .ok .nx s | none => .no) l σ Rm Hf0 D) :
    ∃ v, σ[i]? = some (some v) ∧ ∃ a c dx fs, v = .ref a ∧ H a = some (.ins c dx fs) ∧ (X.K = G.K → Cls X.K c ∧ NoAttr X.K c (G.fnm x)) ∧ fs.length < 1000 ∧ D.nx σ (upd H a (.ins c dx (L2.putF (G.fnm x) u.rt fs))) ∧ ∃ c0 fs0, gs.getD i .un = .ins a dx c0 fs0 ∧ c = G.ca c0 := by
  unfold fldS at h
  rw [getD_map] at h
  have ki := ok.drop.at (i := i)
  cases e : gs.getD i .un with
  | ins b dx c fs =>
    rw [e] at h
    have h : PostS G W (match (if (C.fo c x && decide ((ers fs).length < 900)) = true then some ((gs.map er).set i (.ins c (aput (ers fs) x u.er))) else none) with | some s => .ok .nx s | none => .no) l σ Rm Hf0 D := h
    split at h
    · next s1 h1 =>
      obtain ⟨hc, h1⟩ := ite_some h1
      rw [Bool.and_eq_true] at hc
      have fx := hfo c x hc.1
      have hl := of_decide_eq_true hc.2
      rw [ers_len] at hl
      have hi := getD_at e (fun z => by cases z)
      have hil : i < gs.length := (List.getElem?_eq_some_iff.mp hi).1
      have ok2 : Ok G H Hf (u :: .ins b dx c fs :: (gs.take i ++ gs.drop (i + 1) ++ Rm)) := ok.perm ((set_mid hi).symm.cons u)
      have k := ok2.ok _ (.tail _ (.head _))
      cases k with
      | ins k1 k2 k3 k4 =>
        refine ⟨_, rel.2 i _ hi (fun z => by cases z), b, G.ca c, dx, _, rfl, k1, fun hk => ⟨by rw [hk]; exact k3, by rw [hk]; exact fx.2⟩, by rw [List.length_map]; omega, ?_, c, fs, rfl, rfl⟩
        refine h σ _ Hf (gs.set i (.ins b dx c (ptT fs x u))) le (Ok.slot hil (ok2.pack n fx)) ?_ (rel.upd i hi (fun z => by cases z) rfl) (SameS.refl _ _)
        rw [map_set_er]
        cases h1
        show (gs.map er).set i (.ins c (ers (ptT fs x u))) = _
        rw [er_pt]
    · exact h.elim
  | sh v o =>
    rw [e] at h ki
    cases ki with
    | sh r => cases r <;> exact h.elim
  | _ => rw [e] at h; exact h.elim
theorem snd_setF (gx : GX G X) {i x : Nat} {nm f : Str} {p1 p2 : Pos} (hN : X.N[i]? = some nm) (hv : Vis X.env.scope nm) (hd : (nm == ("__debug__" : Str)) = false) (hcd : (nm == ("__classdict__" : Str)) = false) (hf : G.fnm x = f) (hfo : ∀ c y, C.fo c y = true → FOk G c y) (ha : PE X pa (tE G C W a)) (hs : swapsWith pa (some (.Attribute (.Name nm p1) f p2)) pos.line X.env = pure false) :
    PS X (.Assign [.Attribute (.Name nm p1) f p2] pa pos) (tS G C sub W (.setF i x a)) := by
  refine (ps_fld (pe_var hN hv hd hcd) ha hs).imp fun D σ H ⟨gs, Rm, Hf, ok, rel, h⟩ => ?_
  rw [exec] at h
  refine val_s ok rel h fun H2 Hf2 t gs2 h n le ok2 rel2 sm => ?_
  obtain ⟨Hg, lg, ok3⟩ := ok2.freeze n
  have nz := fz_un (ok2.ok _ (.head _)) n
  have h : PostS G W (match Lw.putF C.fo i x t.er (gs2.map er) with | some s => .ok .nx s | none => .no) _ σ Rm Hf D := h
  rw [putF_eq nz] at h
  obtain ⟨v, h1, b, c, dx, fs, h2, h3, h4, h5, h6, _⟩ := set_fld (X := X) (u := .sh t.rt (fz t.er)) hfo (le.trans lg) ok3 (fun z => by cases z) rel2 h
  obtain ⟨k1, k2⟩ := h4 gx.k
  exact ⟨v, h1, b, c, dx, fs, h2, h3, k1, by rw [← hf]; exact k2, h5, by rw [← hf]; exact h6⟩
theorem snd_ownF (gx : GX G X) {i x : Nat} {nm f : Str} {p1 p2 : Pos} (hN : X.N[i]? = some nm) (hv : Vis X.env.scope nm) (hd : (nm == ("__debug__" : Str)) = false) (hcd : (nm == ("__classdict__" : Str)) = false) (hf : G.fnm x = f) (hfo : ∀ c y, C.fo c y = true → FOk G c y) (ha : PE X pa (tE G C W a)) (hs : swapsWith pa (some (.Attribute (.Name nm p1) f p2)) pos.line X.env = pure false) :
    PS X (.Assign [.Attribute (.Name nm p1) f p2] pa pos) (tS G C sub W (.ownF i x a)) := by
  refine (ps_fld (pe_var hN hv hd hcd) ha hs).imp fun D σ H ⟨gs, Rm, Hf, ok, rel, h⟩ => ?_
  rw [exec] at h
  refine val_s ok rel h fun H2 Hf2 t gs2 h n le ok2 rel2 sm => ?_
  have nz := er_un (ok2.ok _ (.head _)) n
  have h : PostS G W (match ownFd C.fo i x t.er (gs2.map er) with | some s => .ok .nx s | none => .no) _ σ Rm Hf D := h
  rw [ownF_eq nz] at h
  obtain ⟨v, h1, b, c, dx, fs, h2, h3, h4, h5, h6, _⟩ := set_fld (X := X) hfo le ok2 n rel2 h
  obtain ⟨k1, k2⟩ := h4 gx.k
  exact ⟨v, h1, b, c, dx, fs, h2, h3, k1, by rw [← hf]; exact k2, h5, by rw [← hf]; exact h6⟩
theorem snd_augF (gx : GX G X) {i x : Nat} {nm f : Str} {p1 p2 : Pos} (o : Bop) (hN : X.N[i]? = some nm) (hv : Vis X.env.scope nm) (hd : (nm == ("__debug__" : Str)) = false) (hcd : (nm == ("__classdict__" : Str)) = false) (hf : G.fnm x = f) (hfo : ∀ c y, C.fo c y = true → FOk G c y) (ha : PE X pa (tE G C W a)) (sp : (eff a).all (fun q => dj (.v i) q) = true) :
    PS X (.AugAssign (.Attribute (.Name nm p1) f p2) o.py pa pos) (tS G C sub W (.augF i x o a)) := by
  subst hf
  have pip : InOp X o.py (rK G (augD o)) := fun pins s σ H x y v u Q I rx ry h => iop_int o pins s σ H x y v u Q I rx ry h
  refine (ps_fldaug (pe_var hN hv hd hcd) ha pip).imp fun D σ H ⟨gs, Rm, Hf, ok, rel, h⟩ => ?_
  rw [exec] at h
  have h : PostS G W ((match getPl (.f i x) (gs.map er) with | .un => R.no | o => .ok o (gs.map er)).bind fun v s => (ev C a s).bind fun y s => match v.d?, (fz y).d? with
    | some d, some e => (match augD o d e with
      | some (.dat z) => (match Lw.putF C.fo i x (.dat z) s with
        | some s => .ok .nx s
        | none => .no)
      | _ => .no)
    | _, _ => .no) (asgs (.augF i x o a)) σ Rm Hf D := h
  rw [show getPl (.f i x) (gs.map er) = fldO ((gs.map er).getD i .un) x from rfl, getD_map] at h
  have hn : fldO (gs.getD i .un).er x ≠ .un := fun e => by rw [e] at h; exact h
  have h : PostS G W ((ev C a (gs.map er)).bind fun y s => match (fldO (gs.getD i .un).er x).d?, (fz y).d? with
    | some d, some e => (match augD o d e with
      | some (.dat z) => (match Lw.putF C.fo i x (.dat z) s with
        | some s => .ok .nx s
        | none => .no)
      | _ => .no)
    | _, _ => .no) (asgs (.augF i x o a)) σ Rm Hf D := by
    split at h
    · rename_i e; exact absurd e hn
    · exact h
  have n : gs.getD i .un ≠ .un := fun e => by rw [e] at hn; exact hn rfl
  have hgi := getD_at rfl n
  have kt := ok.at (i := i)
  obtain ⟨q, cl, dx, fs, v, d1, d2, d3, d4, d5, d6⟩ := kt.fld ok.le hn
  have A : ∃ ot : Gt, ot.rt = v ∧ ot.er = fldO (gs.getD i .un).er x ∧ (∀ H2 Hg, Le Hf Hg → OkT G H2 Hg (gs.getD i .un) → OkT G H2 Hg ot) := by
    rcases d6 with ⟨b, db, c, fs', e, e7, e8, kk⟩ | r
    · refine ⟨lkT fs' x, e7, ?_, fun H2 Hg _ k => ?_⟩
      · rw [e]; exact (er_lk x fs').symm
      · rw [e] at k
        cases k with
        | ins k1 k2 k3 k4 => exact k4.look x
    · exact ⟨.sh v (fldO (gs.getD i .un).er x), rfl, rfl, fun H2 Hg l _ => .sh (r.mono l)⟩
  obtain ⟨ot, o1, o2, o3⟩ := A
  rw [← o2] at h
  refine ⟨_, rel.2 i _ hgi n, q, cl, dx, fs, v, d1, d2, by rw [gx.k]; exact d3, by rw [gx.k]; exact d4, d5, val_s ok rel h fun H2 Hf2 t gs2 h n2 le ok2 rel2 sm => ?_⟩
  obtain ⟨Hg, lg, okg, r2⟩ := ok2.fzs n2
  have hg2 : gs2.getD i .un = gs.getD i .un := sm.2 (.v i) fun q hq => List.all_eq_true.mp sp q hq
  have k1 : OkT G H2 Hg ot := o3 H2 Hg (le.trans lg) (by rw [← hg2]; exact okg.at)
  cases e1 : ot.er.d? with
  | none => simp only [e1] at h; exact h.elim
  | some d =>
    cases e2 : (fz t.er).d? with
    | none => simp only [e1, e2] at h; exact h.elim
    | some e =>
      simp only [e1, e2] at h
      rw [← o1]
      refine ⟨d, e, Hg, gs2 ++ Rm, okg.tailR, k1.top okg.le e1, (rpO_d r2 e2).top okg.le, ?_⟩
      cases e3 : augD o d e with
      | none => rw [e3] at h; exact h.elim
      | some z =>
        rw [e3] at h
        cases z with
        | dat z =>
          intro H3 Hf3 u n3 le3 ok3 eu
          have h : PostS G W (match Lw.putF C.fo i x (.dat z) (gs2.map er) with
            | some s => .ok .nx s
            | none => .no) (asgs (.augF i x o a)) σ Rm Hf D := h
          rw [putF_eq (o := .dat z) (fun z => by cases z)] at h
          have h : PostS G W (match fldS C.fo i x u.er (gs2.map er) with
            | some s => .ok .nx s
            | none => .no) (asgs (.augF i x o a)) σ Rm Hf D := by rw [eu]; exact h
          obtain ⟨v2, h1, b, c, dx2, fs2, h2, h3, h4, h5, h6, c0, fs0, h7, h8⟩ := set_fld (X := X) hfo ((le.trans lg).trans le3) ok3 n3 rel2 h
          rw [rel2.2 i _ (getD_at rfl (by rw [hg2]; exact n)) (by rw [hg2]; exact n)] at h1
          cases h1
          rw [hg2] at h2
          rw [h2] at d1
          cases d1
          have hc : cl = c := by
            rw [hg2] at h7
            rw [h7] at kt
            cases kt with
            | ins k1 k2 k3 k4 =>
              rw [k1] at d2
              cases d2
              exact h8.symm
          subst hc
          exact ⟨dx2, fs2, h3, h5, h6⟩
        | _ => exact h.elim
end
end Lw

set_option autoImplicit false
set_option linter.all false
set_option Elab.async false
set_option maxRecDepth 100000
set_option maxHeartbeats 1000000
/-! LSnd19: methods of data, d.get first. -/
namespace Lw
open PySem PySem.Spec PyProof.Rows L2
open Gt

section
variable {G : Gx} {C : Cf} {W : WX} {X : Cx} {pa : Expr} {pes : List Expr} {a : E} {es : List E} {pos apos : Pos}
/-- what must be known of a value's type, ahead of a method of it -/
def TyX (X : Cx) (T : String) (x : V) (H : Hp) : Prop := ∀ (pins : List (Addr × Obj)) (s : Shared) (σ : L2.St) (v : Value), Inv X pins σ H s → RelV x v → s.TypeIs v T ∧ ∀ b, v = .ref b → ∃ ob, s.heap.get? b = some ob ∧ ob.dict = none
def tBX (X : Cx) (T : String) (r : V → List V → Hp → VK → Prop) (to : TE) (t : TA) : TE := fun σ H Q => to σ H fun x H1 => TyX X T x H1 ∧ t σ H1 fun xs H2 => r x xs H2 Q
theorem pe_bx {T id : String} {name : Str} {o e : Expr} {rest : List Expr} {to : TE} {t : TA} {r : V → List V → Hp → VK → Prop} (plain : PlainAttrs T) (slot : Slot T name id) (hty : typeOf (.builtin id) = pure (.type "method_descriptor")) (hm : MtR X id r) (ho : PE X o to) (ha : PA X (e :: rest) t)
    (h1 : attributeBase o name X.env (eval o X.env) = eval o X.env)
    (h2 : ((backTo pos (starEach (e :: rest) X.env)).all (fun x => !x.1) && (backToKw pos (keywordEach [] X.env)).all (fun x => x.1.isSome) && decide ((e :: rest).length + ([] : List Keyword).length + (if ([] : List Keyword).isEmpty then 0 else 1) < 30)) = true)
    (h3 : (apos.endLine == pos.line) = true) (h4 : starEach (e :: rest) X.env = (false, eval e X.env) :: starEach rest X.env) (h5 : (backTo pos (starEach rest X.env)).any (·.1) = false) :
    PE X (.Call (.Attribute o name apos) (e :: rest) [] pos) (tBX X T r to t) := by
  constructor
  intro pins s σ H Q I h
  refine wpAny_Call_method_late h1 h2 h3 rfl (thn (ho.run pins s σ H _ I h) ?_)
  rintro v s1 ⟨x, H1, I1, r1, ty, q1⟩
  obtain ⟨k1, k2⟩ := ty pins s1 σ v I1 r1
  refine ⟨T, id, plain, slot, hty, k1, k2, ?_⟩
  have hA := ha.run pos pins s1 σ H1 _ I1 q1
  rw [h4] at hA ⊢
  refine Calls.callWith_builtin (by show (false || (backTo pos (starEach rest X.env)).any (·.1)) = false; rw [h5]; rfl) (Calls.evalArgs_plain (thn hA ?_))
  rintro us s2 ⟨vs, H2, I2, r2, q2⟩
  exact hm pins s2 σ H2 x vs v us Q I2 r1 r2 q2
/-- what a method of data is to do -/
def rMt (G : Gx) (m : Mt) : V → List V → Hp → VK → Prop := fun x xs H Q => ∃ (d : D) (ds : List D) (Hf : Hp) (ts : List Gt), Ok G H Hf ts ∧ RpT G H Hf x d ∧ Rps G Hf xs ds ∧ PostO G Hf ts (mtD m d ds) Q
theorem mt_post {m : Mt} {T : String} (hty : ∀ (x : V) (d : D) (H Hf : Hp), Le Hf H → RpT G H Hf x d → mtTy m d = true → TyX X T x H) (sp : sep a (effs es) = true) {σ : L2.St} {H : Hp} {Q : VK} (h0 : tE G C W (.mt m a es) σ H Q) : tBX X T (rMt G m) (tB G C W a) (tEs G C W es) σ H Q := by
  obtain ⟨gs, Rm, Hf, ok, rel, h⟩ := h0
  rw [ev, eff] at h
  refine ⟨gs, Rm, Hf, ok, rel, PostB.mk pk_v h fun H1 Hf1 t1 gs1 T1 h n1 le1 ok1 he1 rel1 sm1 => ?_⟩
  cases e1 : t1.er.d? with
  | none => rw [e1] at h; exact h.elim
  | some d =>
    rw [e1] at h
    cases e2 : mtTy m d with
    | false => simp only [e2] at h; exact h.elim
    | true =>
      simp only [e2, if_true] at h
      refine ⟨hty _ d _ _ ok1.le (he1.1.top ok1.le e1) e2, gs1, T1 ++ Rm, Hf1, ok1, rel1, PostVs.mk (pk_v.more le1) h fun H2 Hf2 vs os gs2 _ h le2 ok2 pr rel2 sm2 => ?_⟩
      have he2 := he1.next (T2 := []) ok2 sm2 sp
      cases e3 : dsOf os with
      | none => rw [e3] at h; exact h.elim
      | some ds =>
        rw [e3] at h
        exact ⟨d, ds, Hf2, gs2 ++ Rm, ok2.tailR, he2.1.top ok2.le e1, rps_of pr e3, h.toO (le1.trans le2) rel2 (sm1.trans sm2)⟩
/-! ### d.get -/
theorem dict_ty (gx : GX G X) {x : V} {ds : List (D × D)} {H Hf : Hp} (l : Le Hf H) (r : RpT G H Hf x (.dict ds)) : TyX X "dict" x H := by
  intro pins s σ v I rx
  cases r with
  | dK hH rr =>
    cases rx
    obtain ⟨z, hd, vs, rel, dd⟩ := dk_of I.hok hH
    exact ⟨dd.typeIs, fun b e => by cases e; obtain ⟨o, _, _, e, x, _⟩ := dd; exact ⟨o, e, x.2.1⟩⟩
  | dW w rr =>
    cases rx
    obtain ⟨z, hd, vs, rel, dd⟩ := w
    have dd := dd s.heap (gx.k ▸ I.kIn)
    exact ⟨dd.typeIs, fun b e => by cases e; obtain ⟨o, _, _, e, x, _⟩ := dd; exact ⟨o, e, x.2.1⟩⟩
  | dT hH rt rr =>
    cases rx
    obtain ⟨z, hd, nd, us, pr, dd⟩ := dT_at gx I l hH rt
    exact ⟨dd.typeIs, fun b e => by cases e; obtain ⟨o, _, _, e, x, _⟩ := dd; exact ⟨o, e, x.2.1⟩⟩
theorem mt_get1 (gx : GX G X) (hu : X.A.units + 150 < cLine) : MtR X "dict.get" (rMt G .get1) := by
  intro pins s σ H x xs v us Q I rx rv ⟨d, ds, Hf, ts, ok, r1, r2, p⟩
  cases d with
  | dict kvs =>
    cases r2 with
    | nil => exact p.elim
    | cons k1 r2 =>
      cases r2 with
      | cons _ r2 => exact p.elim
      | nil =>
        obtain ⟨hk, p⟩ := PostO.if p
        obtain ⟨u, rfl, ru⟩ := rv.one
        obtain ⟨q, o, rfl, rfl, ask, dv⟩ := RpT.ask gx hu I ok.le r1 rx (k1.top ok.le) ru hk
        refine ask.g1 _ _ fun tk => ?_
        cases e : dget kvs _ with
        | none =>
          rw [e] at dv p
          cases o with
          | some _ => exact dv.elim
          | none => exact ⟨.non, H, I.tok tk, rfl, p.dat ok (Le.refl _) .non⟩
        | some d' =>
          rw [e] at dv p
          cases o with
          | none => exact dv.elim
          | some w =>
            obtain ⟨v', d1, d2⟩ := dv
            exact ⟨v', H, I.tok tk, d1, p.dat ok (Le.refl _) d2⟩
  | _ => exact p.elim
theorem mt_get2 (gx : GX G X) (hu : X.A.units + 150 < cLine) : MtR X "dict.get" (rMt G .get2) := by
  intro pins s σ H x xs v us Q I rx rv ⟨d, ds, Hf, ts, ok, r1, r2, p⟩
  cases d with
  | dict kvs =>
    cases r2 with
    | nil => exact p.elim
    | cons k1 r2 =>
      cases r2 with
      | nil => exact p.elim
      | cons k2 r2 =>
        cases r2 with
        | cons _ r2 => exact p.elim
        | nil =>
          obtain ⟨hk, p⟩ := PostO.if p
          obtain ⟨u, w, rfl, ru, rw'⟩ := vals2 rv
          obtain ⟨q, o, rfl, rfl, ask, dv⟩ := RpT.ask gx hu I ok.le r1 rx (k1.top ok.le) ru hk
          refine ask.g2 _ _ w fun tk => ?_
          cases e : dget kvs _ with
          | none =>
            rw [e] at dv p
            cases o with
            | some _ => exact dv.elim
            | none => exact ⟨_, H, I.tok tk, rw', p.dat ok (Le.refl _) k2⟩
          | some d' =>
            rw [e] at dv p
            cases o with
            | none => exact dv.elim
            | some w' =>
              obtain ⟨v', d1, d2⟩ := dv
              exact ⟨v', H, I.tok tk, d1, p.dat ok (Le.refl _) d2⟩
  | _ => exact p.elim
end
end Lw

set_option autoImplicit false
set_option linter.all false
set_option Elab.async false
set_option maxRecDepth 100000
set_option maxHeartbeats 1000000
/-! LSnd20: p[k] op= e. -/
namespace Lw
open PySem PySem.Spec PyProof.Rows L2
open Gt

section
variable {G : Gx} {C : Cf} {W : WX} {X : Cx} {pa : Expr} {a : E} {pos : Pos} {sub : Nat → Nat → Bool}
/-- o[i] of a list or a dict -/
def tGetD (G : Gx) : V → V → Hp → VK → Prop := fun x y H Q => ∃ (d e : D) (Hf : Hp) (z : D), Le Hf H ∧ RpT G H Hf x d ∧ RpT G H Hf y e ∧ ((∃ xs, d = .list xs) ∨ ∃ kvs, d = .dict kvs) ∧ idxD d e = some z ∧ ∀ v, Rp G Hf v z → Q v H
theorem get_ok (gx : GX G X) (hu : X.A.units + 150 < cLine) : PGet X (tGetD G) := by
  intro pins s σ H x y v u Q I rx ry ⟨d, e, Hf, z, l, r1, r2, hd, h, q⟩
  have kk := gx.k
  rcases hd with ⟨xs, rfl⟩ | ⟨kvs, rfl⟩
  · cases e with
    | int i =>
      cases r1 with
      | lst p b =>
        cases r2
        obtain ⟨w, h1, h2⟩ := atI_rps gx b h
        cases rx
        obtain ⟨t, rfl⟩ := ry
        obtain ⟨its, r, pl, hz⟩ := I.list (kk ▸ p)
        obtain ⟨j, k1, k2, k3, k4, k5⟩ := atI_get h1
        obtain ⟨o, ew, rw'⟩ := r.get k2
        have hl := r.length
        have hn := line63
        have fin : EP X pins σ Q o s := ⟨w, H, I, rw', q w h2⟩
        by_cases h0 : 0 ≤ i
        · have hj : i.toNat = j := by
            rw [seqIndex_of h0 k5] at k1
            exact Option.some.inj k1
          exact wpAny_getItem_list pl.isList h0 (by omega) (by rw [hj]; simpa using ew) fin
        · have hj : (i + (its.toArray.size : Int)).toNat = j := by
            rw [seqIndex_neg (by omega) k4] at k1
            rw [List.size_toArray, ← hl]
            exact Option.some.inj k1
          exact wpAny_getItem_list_neg pl.isList (by omega) (by rw [List.size_toArray]; omega) (by omega) (by rw [hj]; simpa using ew) fin
    | _ => cases h
  · unfold idxD at h
    obtain ⟨c, h⟩ := ite_some h
    obtain ⟨b, o, rfl, rfl, da, dv⟩ := r1.ask gx hu I l rx r2 ry c
    obtain ⟨w, v1, e1, e2, e3⟩ := dv.some h
    exact da.get _ _ w e1 fun tk => ⟨v1, H, I.tok tk, e2, q v1 e3⟩
theorem snd_augI (gx : GX G X) (hu : X.A.units + 150 < cLine) {p : Pl} {k : E} {po pk : Expr} {pos' : Pos} (o : Bop) (ha : PE X pa (tE G C W a)) (ho : PE X po (tB G C W (plE p))) (hk : PE X pk (tE G C W k)) (sp : (eff k).all (fun q => dj p q) = true) (sp2 : (eff a).all (fun q => dj p q) = true)
    (has : ∀ ov iv new, augStore pk ov iv new = (do holding [new, ov, iv] (setItem ov iv new); release [new, ov, iv] []; pure .next)) :
    PS X (.AugAssign (.Subscript po pk pos') o.py pa pos) (tS G C sub W (.augI p o k a)) := by
  have pip : PIp X o.py (rK G (augD o)) := fun pins s σ H x y v u Q I rx ry h => iop_int o pins s σ H x y v u Q I rx ry h
  refine (ps_augS ho hk (get_ok gx hu) ha pip (set_ok gx hu) has).imp fun D σ H ⟨gs, Rm, Hf, ok, rel, h⟩ => ?_
  rw [exec] at h
  have hpl : plOf (plE p) = some p := by cases p <;> rfl
  have hef : eff (plE p) = [] := by cases p <;> rfl
  have e0 : bor (plE p) (gs.map er) .no = bor (plE p) (gs.map er) (ev C (plE p) (gs.map er)) := by cases p <;> rfl
  rw [e0] at h
  refine ⟨gs, Rm, Hf, ok, rel, PostB.mk pk_s h fun H2 Hf2 t2 gs2 T2 h5 n2 le2 ok2 he2 rel2 sm2 => ?_⟩
  rw [hef] at sm2
  have sm2 := sm2.nil
  subst sm2
  obtain ⟨k2, hp⟩ := he2
  cases ei : isC t2.er with
  | false => rw [ei] at h5; exact h5.elim
  | true =>
    rw [ei, if_pos rfl] at h5
    have hg2 : getT p gs2 = t2 ∧ T2 = [] := by
      rcases hp with ⟨_, hp | ⟨v, o, hp⟩⟩ | ⟨rfl, q, hq, hg⟩
      · rw [hpl] at hp; cases hp
      · subst hp
        cases k2 with
        | sh r => cases r <;> cases ei
      · rw [hpl] at hq; cases hq; exact ⟨hg, rfl⟩
    obtain ⟨hg2, rfl⟩ := hg2
    refine ⟨gs2, [] ++ Rm, Hf2, ok2, rel2, PostV.mk (pk_s.more le2) h5 fun H3 Hf3 t3 gs3 h6 n3 le3 ok3 rel3 sm3 => ?_⟩
    obtain ⟨Hk, lk, okk, r3⟩ := ok3.fzs n3
    have hg3 : getT p gs3 = t2 := by
      rw [sm3.2 p fun q hq => List.all_eq_true.mp sp q hq]
      exact hg2
    cases e1 : (fz t3.er).d? with
    | none => simp only [e1, Option.bind_none] at h6; exact h6.elim
    | some k' =>
      simp only [e1, Option.bind_some] at h6
      cases e2 : getO p k' (gs3.map er) with
      | none => simp only [e2] at h6; exact h6.elim
      | some x' =>
        simp only [e2] at h6
        unfold getO at e2
        rw [getPl_er hg3 n2] at e2
        cases e3 : t2.er.d? with
        | none => rw [e3] at e2; cases e2
        | some d =>
          rw [e3] at e2
          have e2 : idxD d k' = some x' := e2
          have kt : OkT G H3 Hk t2 := by rw [← hg3]; exact okk.getT p
          have hd : (∃ xs, d = .list xs) ∨ ∃ kvs, d = .dict kvs := by
            cases eo : t2.er with
            | lst xs => rw [eo] at e3; cases e3; exact .inl ⟨_, rfl⟩
            | dct kvs => rw [eo] at e3; cases e3; exact .inr ⟨_, rfl⟩
            | _ => rw [eo] at ei; cases ei
          refine ⟨d, k', Hk, x', okk.le, kt.top okk.le e3, (rpO_d r3 e1).top okk.le, hd, e2, fun v rv => ?_⟩
          refine ⟨gs3, [.sh t3.rt (fz t3.er)] ++ ([] ++ Rm), Hk, okk, rel3, PostV.mk ((pk_s.more le2).more (le3.trans lk)) h6 fun H4 Hf4 t4 gs4 h7 n4 le4 ok4 rel4 sm4 => ?_⟩
          obtain ⟨Hm, lm, okm, r4⟩ := ok4.fzs n4
          have hg4 : getT p gs4 = t2 := by
            rw [sm4.2 p fun q hq => List.all_eq_true.mp sp2 q hq]
            exact hg3
          cases e4 : (fz t4.er).d? with
          | none => simp only [e4, Option.bind_none] at h7; exact h7.elim
          | some y' =>
            simp only [e4, Option.bind_some] at h7
            refine ⟨x', y', Hm, _, okm, (rv.mono (le4.trans lm)).top okm.le, (rpO_d r4 e4).top okm.le, ?_⟩
            cases e5 : augD o x' y' with
            | none => rw [e5] at h7; exact h7.elim
            | some z =>
              rw [e5] at h7
              cases z with
              | dat z =>
                intro H5 Hf5 u n5 le5 ok5 eu
                simp only at h7
                cases e6 : setO p k' z (gs4.map er) with
                | none => rw [e6] at h7; exact h7.elim
                | some s' =>
                  rw [e6] at h7
                  have ru : Rp G Hf5 u.rt z := by
                    have k5 := ok5.ok u (.head _)
                    cases k5 with
                    | sh r => cases (show _ = O.dat z from eu); exact rpO_d r rfl
                    | _ => cases eu
                  exact set_post (R0 := [.sh t4.rt (fz t4.er)] ++ ([.sh t3.rt (fz t3.er)] ++ [])) (by
                    have := ok5.drop
                    simpa only [List.append_assoc, List.nil_append] using this) rel4 hg4 n2 (rpO_d (((r3.mono le4).mono lm).mono le5) e1) ru e6 (((le2.trans (le3.trans lk)).trans (le4.trans lm)).trans le5) h7
              | _ => exact h7.elim
end
end Lw

set_option autoImplicit false
set_option linter.all false
set_option Elab.async false
set_option maxRecDepth 100000
set_option maxHeartbeats 1000000
/-! LSnd21: math.comb. -/
namespace Lw
open PySem PySem.Spec PyProof.Rows L2
open Gt

section
variable {G : Gx} {X : Cx}
theorem call_comb_data : CallR X (.builtin "math.comb") (rUs G (biD .comb)) := by
  intro pins s σ H xs us Q I r ⟨ds, Hf, ts, ok, rr, p⟩
  have A : ∃ i j, ds = [.int i, .int j] ∧ xs = [.int i, .int j] := by
    cases rr with
    | nil => exact p.elim
    | cons r1 rr =>
      cases rr with
      | nil => cases r1 <;> exact p.elim
      | cons r2 rr =>
        cases rr with
        | cons r3 rr => cases r1 <;> cases r2 <;> exact p.elim
        | nil =>
          cases r1 <;> first | exact p.elim | skip
          cases r2 <;> first | exact p.elim | skip
          exact ⟨_, _, rfl, rfl⟩
  obtain ⟨i, j, rfl, rfl⟩ := A
  obtain ⟨u, w, rfl, ⟨t, rfl⟩, ⟨t2, rfl⟩⟩ := vals2 r
  have p : PostO G Hf ts ((if (decide (0 ≤ i) && decide (0 ≤ j) && decide (i < 2 ^ 64) && decide (j ≤ 9000 ∨ i ≤ 18000)) = true then some (.int (PySem.W.mcComb i j)) else none).map .dat) Q := p
  by_cases c : (decide (0 ≤ i) && decide (0 ≤ j) && decide (i < 2 ^ 64) && decide (j ≤ 9000 ∨ i ≤ 18000)) = true
  · rw [if_pos c] at p
    simp only [Bool.and_eq_true, decide_eq_true_eq] at c
    obtain ⟨⟨⟨c1, c2⟩, c3⟩, c4⟩ := c
    exact PySem.W.mc_comb c1 c2 c3 c4 fun _ => ⟨.int _, H, I.tok _, ⟨_, rfl⟩, p.dat ok (Le.refl _) (.int _)⟩
  · rw [if_neg c] at p
    exact p.elim
end
end Lw

set_option autoImplicit false
set_option linter.all false
set_option Elab.async false
set_option maxRecDepth 100000
set_option maxHeartbeats 1000000
/-! LSnd22: sum of ints. -/
namespace Lw
open PySem PySem.Spec PyProof.Rows L2
open Gt

section
variable {G : Gx} {X : Cx}
theorem nums_at {Hf : Hp} : ∀ {vs : List V} {ds : List D} {ns : List Int} {its : List Value}, Rps G Hf vs ds → Lw.numsOf ds = some ns → Vals vs its → its.length = ns.length ∧ ∀ (i : Nat) (v : Value), its[i]? = some v → NumOf (ns.getD i 0) v
  | _, _, _, _, .nil, e, .nil => by rw [Lw.numsOf] at e; cases e; exact ⟨rfl, fun i v h => by simp at h⟩
  | _, _, _, _, .cons r rs, e, .cons rv rvs => by
    cases r with
    | int i =>
      rw [Lw.numsOf] at e
      obtain ⟨ns, e1, rfl⟩ := Option.map_eq_some_iff.mp e
      obtain ⟨h1, h2⟩ := nums_at rs e1 rvs
      refine ⟨by rw [List.length_cons, List.length_cons, h1], fun j v hj => ?_⟩
      cases j with
      | zero => simp at hj; subst hj; obtain ⟨t, rfl⟩ := rv; exact .inl ⟨t, rfl⟩
      | succ j => exact h2 j v (by simpa using hj)
    | bl b =>
      rw [Lw.numsOf] at e
      obtain ⟨ns, e1, rfl⟩ := Option.map_eq_some_iff.mp e
      obtain ⟨h1, h2⟩ := nums_at rs e1 rvs
      refine ⟨by rw [List.length_cons, List.length_cons, h1], fun j v hj => ?_⟩
      cases j with
      | zero => simp at hj; subst hj; cases rv; exact .inr ⟨b, rfl, rfl⟩
      | succ j => exact h2 j v (by simpa using hj)
    | _ => cases e
theorem pre_take (f : Nat → Int) (ns : List Int) (h : ∀ i, f i = ns.getD i 0) : ∀ n, n ≤ ns.length → preSum f n = (ns.take n).sum := fun n => by
  induction n with
  | zero => intro _; rfl
  | succ n ih =>
    intro hn
    rw [preSum, ih (by omega), h n, List.take_add_one, List.sum_append, List.getD_eq_getElem?_getD, List.getElem?_eq_getElem (by omega)]
    simp
theorem pre_sum (ns : List Int) : preSum (fun i => ns.getD i 0) ns.length = ns.sum := by
  rw [pre_take _ ns (fun _ => rfl) _ (Nat.le_refl _), List.take_length]
theorem call_sum_data (gx : GX G X) (hc : X.calm = true) : CallR X (.builtin "sum") (fun xs H Q => ∃ (x : V) (d : D) (Hf : Hp) (ts : List Gt), xs = [x] ∧ Ok G H Hf ts ∧ RpT G H Hf x d ∧ PostO G Hf ts ((lsD d).bind (bsD .sum)) Q) := by
  intro pins s σ H xs us Q I r h0
  obtain ⟨x, d, Hf, ts, rfl, ok, rr, p⟩ := h0
  have l := ok.le
  cases rr <;> first | exact p.elim | skip
  case lst a vs ds h g =>
    have p : PostO G Hf ts ((Lw.numsOf ds).map fun ns => .dat (.int ns.sum)) Q := p
    cases e : Lw.numsOf ds with
    | none => rw [e] at p; exact p.elim
    | some ns =>
      rw [e] at p
      obtain ⟨its, rv, hl, _⟩ := I.list (gx.k ▸ h)
      rw [Vals.ref1 r]
      obtain ⟨hlen, hnum⟩ := nums_at g e rv
      have hl := hl.isList
      obtain ⟨o, ho, hc2, n, hd⟩ := id hl
      have hne : a ≠ s.heap.objs.size := Nat.ne_of_lt (Heap.lt_size ho)
      have W := (Walks.list (prog := X.prog) (w := X.w) (A := X.A.in1) (I.ok.hd hc) s.heap.objs.size a hne its.toArray).toS
      refine call_sum_walkAnyB (wpAny_pyIter_list hl ?_)
      refine ⟨s.heap.objs.size, _, _, _, _, _, _, fun i => ns.getD i 0, rfl, W, ⟨⟨_, Heap.get?_push_size _ rfl, rfl, rfl⟩, hl.at fun o e => Heap.get?_push_of_some _ e⟩, fun b hb => ?_, fun i v hP => hnum i v (by simpa using hP), fun s' t' hm => ?_⟩
      · rcases List.mem_cons.mp hb with rfl | hb
        · exact Heap.lt_size (Heap.get?_push_size _ rfl)
        · obtain rfl := List.mem_singleton.mp hb
          exact Heap.lt_size (Heap.get?_push_of_some _ ho)
      · obtain ⟨h', g', d', tk', os'⟩ := s'
        have e1 : g' = s.gens := hm.gens
        have e2 : d' = s.drawn := hm.drawn
        have e3 : os' = s.os := hm.os
        subst e1 e2 e3
        have hk : ∀ b o, s.heap.get? b = some o → h'.get? b = some o := fun b o e => hm.heap b o (fun hb => absurd (Heap.lt_size e) ((List.mem_singleton.mp hb) ▸ Nat.lt_irrefl _)) (Heap.get?_push_of_some _ e)
        rw [show its.toArray.size = ns.length by simpa using hlen, pre_sum]
        exact ⟨.int _, H, I.kept hk, ⟨_, rfl⟩, p.dat ok (Le.refl _) (.int _)⟩
  case tup a vs ds h g =>
    have p : PostO G Hf ts ((Lw.numsOf ds).map fun ns => .dat (.int ns.sum)) Q := p
    cases e : Lw.numsOf ds with
    | none => rw [e] at p; exact p.elim
    | some ns =>
      rw [e] at p
      obtain ⟨its, rv, ht, _⟩ := I.tuple (gx.k ▸ l.sqT h)
      rw [Vals.ref1 r]
      obtain ⟨hlen, hnum⟩ := nums_at g e rv
      have ht : s.heap.IsTuple a its.toArray := by
        obtain ⟨o, e2, hc2, n2, hd2⟩ := ht
        exact ⟨o, e2, hc2, n2, hd2⟩
      obtain ⟨o, ho, hc2, n, hd⟩ := id ht
      have hne : a ≠ s.heap.objs.size := Nat.ne_of_lt (Heap.lt_size ho)
      have W := (Walks.tuple (prog := X.prog) (w := X.w) (A := X.A.in1) (I.ok.hd hc) s.heap.objs.size a hne its.toArray).toS
      refine call_sum_walkAnyB (wpAny_pyIter_tuple ht ?_)
      refine ⟨s.heap.objs.size, _, _, _, _, _, _, fun i => ns.getD i 0, rfl, W, ⟨⟨_, Heap.get?_push_size _ rfl, rfl, rfl⟩, ht.at fun o e => Heap.get?_push_of_some _ e⟩, fun b hb => ?_, fun i v hP => hnum i v (by simpa using hP), fun s' t' hm => ?_⟩
      · rcases List.mem_cons.mp hb with rfl | hb
        · exact Heap.lt_size (Heap.get?_push_size _ rfl)
        · obtain rfl := List.mem_singleton.mp hb
          exact Heap.lt_size (Heap.get?_push_of_some _ ho)
      · obtain ⟨h', g', d', tk', os'⟩ := s'
        have e1 : g' = s.gens := hm.gens
        have e2 : d' = s.drawn := hm.drawn
        have e3 : os' = s.os := hm.os
        subst e1 e2 e3
        have hk : ∀ b o, s.heap.get? b = some o → h'.get? b = some o := fun b o e => hm.heap b o (fun hb => absurd (Heap.lt_size e) ((List.mem_singleton.mp hb) ▸ Nat.lt_irrefl _)) (Heap.get?_push_of_some _ e)
        rw [show its.toArray.size = ns.length by simpa using hlen, pre_sum]
        exact ⟨.int _, H, I.kept hk, ⟨_, rfl⟩, p.dat ok (Le.refl _) (.int _)⟩
end
end Lw

set_option autoImplicit false
set_option linter.all false
set_option Elab.async false
set_option maxRecDepth 100000
set_option maxHeartbeats 1000000
/-! LSnd23: raise of an own exception with a text, try .. except without a name. -/
namespace Lw
open PySem PySem.Spec PyProof.Rows L2
open Gt

section
variable {X : Cx} {G : Gx} {C : Cf} {W : WX} {sub : Nat → Nat → Bool}
abbrev veB : List Value := [.type "ValueError", .type "Exception", .type "BaseException", .type "object"]
theorem snd_rai {x m : Str} {j c : Nat} {p p2 pos pos' : Pos} (hc : X.calm = true) (tk : Takes X W) (q : PySem.W.excIn X.K (G.ca c) veB "ValueError.__new__" = true) (gC : X.mg x = some (.ref (G.ca c))) (kC : PySem.W.keepIn X.K (.ref (G.ca c)) = true) (r : Raises X (.ref (G.ca c))) (hg : Gl X x)
    (hdb : (x == ("__debug__" : Str)) = false) : PS X (.Raise (some (.Call (.Name x p) [.Constant (.str m) j p2] [] pos)) none pos') (tS G C sub W (.rai c [.str m])) := by
  refine (ps_raise hc tk (pmk_own PySem.F.excBase_ValueError q gC kC r hg hdb)).imp fun D σ H ⟨gs, Rm, Hf, ok, rel, h⟩ => ?_
  rw [exec] at h
  exact h none σ H Hf gs (Le.refl _) ok rfl rel (SameS.refl _ _) trivial
/-- a handler's class and suite -/
abbrev Hd : Type := List Nat × Option Nat × List S
def hdL (G : Gx) (C : Cf) (sub : Nat → Nat → Bool) : List Hd → List (Value × (Addr → Value → Option Addr → TS))
  | [] => []
  | (ks, _, b) :: r => (.ref (G.ca (ks.headD 0)), fun _ _ _ => tSs G C sub noW b) :: hdL G C sub r
/-- one class, no name -/
def plainH (sub : Nat → Nat → Bool) : List Hd → Bool
  | [] => true
  | ([k], none, _) :: r => sub k k && plainH sub r
  | _ => false
theorem asgH_mem {k : Nat} {ks : List Nat} {n : Option Nat} {b : List S} {hs : List Hd} (h : k ∈ asgss b) : k ∈ asgH ((ks, n, b) :: hs) := by
  unfold asgH
  cases n <;> simp [h]
theorem asgH_tail {k : Nat} {a : Hd} {hs : List Hd} (h : k ∈ asgH hs) : k ∈ asgH (a :: hs) := by
  obtain ⟨ks, n, b⟩ := a
  unfold asgH
  cases n <;> simp [h]
theorem PostS.weakL {r : R Fl} {l m : List Nat} {σ : L2.St} {Rm : List Gt} {Hf : Hp} {D : Ends} (h : PostS G W r l σ Rm Hf D) (k : ∀ i ∈ m, i ∈ l) : PostS G W r m σ Rm Hf D := by
  cases r with
  | no => exact h
  | exc c p s => exact fun d σ' H' Hf' gs' le ok es rel sm => h d σ' H' Hf' gs' le ok es rel (sm.weak k)
  | ok f s => cases f with
    | nx => exact fun σ' H' Hf' gs' le ok es rel sm => h σ' H' Hf' gs' le ok es rel (sm.weak k)
    | brk => exact fun σ' H' Hf' gs' le ok es rel sm => h σ' H' Hf' gs' le ok es rel (sm.weak k)
    | cnt => exact fun σ' H' Hf' gs' le ok es rel sm => h σ' H' Hf' gs' le ok es rel (sm.weak k)
    | ret o => exact fun σ' H' Hf' t gs' n le ok et es rel sm => h σ' H' Hf' t gs' n le ok et es rel (sm.weak k)
/-- .. from another start -/
theorem PostS.from {r : R Fl} {l m : List Nat} {σ σ1 : L2.St} {Rm : List Gt} {Hf Hf1 : Hp} {D : Ends} (h : PostS G W r l σ Rm Hf D) (le0 : Le Hf Hf1) (sm0 : SameS m σ σ1) (k1 : ∀ i ∈ m, i ∈ l) {n : List Nat} (k2 : ∀ i ∈ n, i ∈ l) : PostS G W r n σ1 Rm Hf1 D := by
  have tr : ∀ {σ' : L2.St}, SameS n σ1 σ' → SameS l σ σ' := fun sm => (sm0.trans sm).weak fun i hi => (List.mem_append.mp hi).elim (k1 i) (k2 i)
  cases r with
  | no => exact h
  | exc c p s => exact fun d σ' H' Hf' gs' le ok es rel sm => h d σ' H' Hf' gs' (le0.trans le) ok es rel (tr sm)
  | ok f s => cases f with
    | nx => exact fun σ' H' Hf' gs' le ok es rel sm => h σ' H' Hf' gs' (le0.trans le) ok es rel (tr sm)
    | brk => exact fun σ' H' Hf' gs' le ok es rel sm => h σ' H' Hf' gs' (le0.trans le) ok es rel (tr sm)
    | cnt => exact fun σ' H' Hf' gs' le ok es rel sm => h σ' H' Hf' gs' (le0.trans le) ok es rel (tr sm)
    | ret o => exact fun σ' H' Hf' t gs' n le ok et es rel sm => h σ' H' Hf' t gs' n (le0.trans le) ok et es rel (tr sm)
theorem PostS.quiet {r : R Fl} {l : List Nat} {σ : L2.St} {Rm : List Gt} {Hf : Hp} {D : Ends} (h : PostS G W (quiet r) l σ Rm Hf D) : PostS G noW r l σ Rm Hf D := by
  cases r with
  | no => exact h
  | exc c p s => exact h.elim
  | ok f s => cases f with
    | nx => exact h
    | brk => exact h
    | cnt => exact h
    | ret o => exact h
theorem many_of (ex : ∀ c k, sub c c = true → sub k k = true → PySem.W.exmOne X.K (.ref (G.ca c)) (.ref (G.ca k)) = some (sub c k)) {c : Nat} {p : List (Nat × D)} {D : Ends} {d : Option Addr} {σ : L2.St} {H Hf : Hp} {gs Rm : List Gt} (ok : Ok G H Hf (gs ++ Rm)) (rel : Rel σ gs) (xp : ExcP G H d p) :
    ∀ (hs : List Hd) (l : List Nat), plainH sub hs = true → (∀ i ∈ asgH hs, i ∈ l) → PostS G W (handle C sub hs c p (gs.map er)) l σ Rm Hf D → wMany X.K W D (hdL G C sub hs) (.ref (G.ca c)) d σ H
  | [], l, _, _, h => by
    rw [handle] at h
    exact h d σ H Hf gs (Le.refl _) ok rfl rel (SameS.refl _ _) xp
  | ([], _, _) :: hs, l, hp, _, h => by cases hp
  | (_ :: _ :: _, _, _) :: hs, l, hp, _, h => by cases hp
  | ([k], some _, _) :: hs, l, hp, _, h => by cases hp
  | ([k], none, b) :: hs, l, hp, hl, h => by
    have hp : (sub k k && plainH sub hs) = true := hp
    rw [Bool.and_eq_true] at hp
    rw [handle] at h
    cases e1 : (sub c c && [k].all fun k => sub k k) with
    | false => rw [e1] at h; exact h.elim
    | true =>
      rw [e1, if_pos rfl] at h
      rw [Bool.and_eq_true] at e1
      refine ⟨sub c k, ex c k e1.1 hp.1, fun hb a ha => ?_, fun hb => ?_⟩
      · have hc : catches sub c [k] = true := by unfold catches; rw [hb]; rfl
        rw [hc, if_pos rfl] at h
        exact ⟨gs, Rm, Hf, ok, rel, (PostS.quiet h).weakL fun i hi => hl i (asgH_mem hi)⟩
      · have hc : catches sub c [k] = false := by unfold catches; rw [hb]; rfl
        rw [hc, if_neg Bool.false_ne_true] at h
        exact many_of ex ok rel xp hs l hp.2 (fun i hi => hl i (asgH_tail hi)) h
theorem snd_tri {body : List Stmt} {h0 : ExceptHandler} {hds : List ExceptHandler} {b : List S} {hs : List Hd} {pos : Pos} (hst : X.stack = X.env :: X.outer) (hf : X.env.frame = some X.env.locals) (tk : Takes X W)
    (ex : ∀ c k, sub c c = true → sub k k = true → PySem.W.exmOne X.K (.ref (G.ca c)) (.ref (G.ca k)) = some (sub c k)) (hp : plainH sub hs = true)
    (hb : ∀ (W : WX) (pn : List (Addr × Obj)) (xe : Value → Shared → Prop), Takes (X.tr pn xe) W → PassesOwn (model X.prog X.w) X.A X.env xe → PSs (X.tr pn xe) body (tSs G C sub W b))
    (hh : HdsOk X (h0 :: hds) (hdL G C sub hs)) : PS X (.Try body (h0 :: hds) [] [] pos) (tS G C sub W (.tri b hs)) := by
  refine (ps_try_many hst hf tk hb hh).imp fun D σ H ⟨gs, Rm, Hf, ok, rel, h⟩ => ⟨gs, Rm, Hf, ok, rel, ?_⟩
  rw [exec, asgs] at h
  cases e : execs C sub b (gs.map er) with
  | no => rw [e] at h; exact h
  | ok f s =>
    rw [e] at h
    have h := PostS.weakL h (m := asgss b) fun i hi => List.mem_append_left _ hi
    cases f with
    | nx => exact h
    | brk => exact h
    | cnt => exact h
    | ret o => exact h
  | exc c p s =>
    rw [e] at h
    intro d σ' H' Hf' gs' le ok' es rel' sm xp
    subst es
    exact many_of ex ok' rel' xp hs _ hp (fun i hi => hi) (PostS.from h le sm (fun i hi => List.mem_append_left _ hi) (n := asgH hs) fun i hi => List.mem_append_right _ hi)
end
end Lw

set_option autoImplicit false
set_option linter.all false
set_option Elab.async false
set_option maxRecDepth 100000
set_option maxHeartbeats 1000000
/-! LSnd24: dict(..) of a list of pairs. -/
namespace Lw
open PySem PySem.Spec PyProof.Rows L2
open Gt

section
variable {G : Gx} {X : Cx}
theorem pairs_k {Hf : Hp} : ∀ {vs : List V} {ds : List D} {ps : List (D × D)}, Rps G Hf vs ds → pairsOf ds = some ps → (∀ p ∈ ps, topKey p.1 = true ∧ tupK p.1 = false) →
    ∃ (as : List Addr) (kvs : List (Key × V)), vs = as.map V.ref ∧ Paired (fun p kv => SqT G.K Hf p [kV kv.1, kv.2]) as kvs ∧ Rpk G Hf (kvs.map fun p => (keyD p.1, p.2)) ps
  | _, _, _, .nil, e, _ => by rw [pairsOf] at e; cases e; exact ⟨[], [], rfl, .nil, .nil⟩
  | _, _, _, .cons r rs, e, hk => by
    cases r with
    | tup hS hR =>
      cases hR with
      | nil => cases e
      | cons r1 hR =>
        cases hR with
        | nil => cases e
        | cons r2 hR =>
          cases hR with
          | cons => cases e
          | nil =>
            rw [pairsOf] at e
            obtain ⟨ps, e1, rfl⟩ := Option.map_eq_some_iff.mp e
            obtain ⟨as, kvs, hv, hp, hr⟩ := pairs_k rs e1 fun p hp => hk p (.tail _ hp)
            obtain ⟨k1, k2⟩ := hk _ (.head _)
            subst hv
            cases r1 with
            | int i => exact ⟨_ :: as, (.inl i, _) :: kvs, rfl, .cons hS hp, .cons r2 hr⟩
            | str x => exact ⟨_ :: as, (.inr x, _) :: kvs, rfl, .cons hS hp, .cons r2 hr⟩
            | _ => first | cases k1 | cases k2
    | _ => cases e
theorem call_dict_data (gx : GX G X) (hc : X.calm = true) : CallR X (.type "dict") (fun xs H Q => ∃ (x : V) (d : D) (Hf : Hp) (ts : List Gt), xs = [x] ∧ Ok G H Hf ts ∧ RpT G H Hf x d ∧ PostO G Hf ts ((lsB .dict d).bind (bsD .dict)) Q) := by
  intro pins s σ H xs us Q I r h0
  obtain ⟨x, d, Hf, ts, rfl, ok, rr, p⟩ := h0
  have l := ok.le
  cases rr <;> first | exact p.elim | skip
  case lst a vs ds h g =>
    have p : PostO G Hf ts ((pairsOf ds).bind fun ps => if ps.all fun p => !tupK p.1 then (dputs [] ps).map .dct else none) Q := p
    cases e : pairsOf ds with
    | none => rw [e] at p; exact p.elim
    | some ps =>
      rw [e] at p
      have p : PostO G Hf ts (if ps.all fun p => !tupK p.1 then (dputs [] ps).map .dct else none) Q := p
      cases e2 : ps.all fun p => !tupK p.1 with
      | false => rw [e2] at p; exact p.elim
      | true =>
        rw [e2, if_pos rfl] at p
        cases e3 : dputs [] ps with
        | none => rw [e3] at p; exact p.elim
        | some out =>
          rw [e3] at p
          have hk : ∀ q ∈ ps, topKey q.1 = true ∧ tupK q.1 = false := fun q hq => by
            have h1 : tupK q.1 = false := by
              have := List.all_eq_true.mp e2 q hq
              simpa using this
            rcases dputs_kinds e3 with k | k
            · exact k q hq
            · exact ⟨(k q hq).1, h1⟩
          obtain ⟨as, kvs, hv, hp, hr⟩ := pairs_k g e hk
          subst hv
          refine call_dictP hc pins s σ H _ us Q I r ⟨a, as, kvs, rfl, gx.k ▸ h, gx.k ▸ Paired.mono (fun _ _ h => l.sqT h) hp, fun q hq => ?_⟩
          exact p _ Hf (.dK q (mergeK [] kvs) out) (fun e => by cases e) (Le.refl _) (ok.new hq (.dK upd_same (dputs_k kvs hr .nil e3)) rfl) rfl
end
end Lw

set_option autoImplicit false
set_option linter.all false
set_option Elab.async false
set_option maxRecDepth 100000
set_option maxHeartbeats 1000000
/-! LSnd25: all, any of truth values; max, min of ints in a list. -/
namespace Lw
open PySem PySem.Spec PyProof.Rows L2
open Gt

section
variable {G : Gx} {X : Cx}
theorem bools_of {Hf : Hp} {h : Heap} : ∀ {vs : List V} {ds : List D} {bs : List Bool} {its : List Value}, Rps G Hf vs ds → boolsOf ds = some bs → Vals vs its → (∃ as, ReadsAll h its ds as) ∧ ds = bs.map .bool
  | _, _, _, _, .nil, e, .nil => by rw [boolsOf] at e; cases e; exact ⟨⟨_, .nil⟩, rfl⟩
  | _, _, _, _, .cons r rs, e, .cons rv rvs => by
    cases r with
    | bl b =>
      rw [boolsOf] at e
      obtain ⟨bs, e1, rfl⟩ := Option.map_eq_some_iff.mp e
      obtain ⟨⟨as, h1⟩, h2⟩ := bools_of (h := h) rs e1 rvs
      cases rv
      exact ⟨⟨_, .cons (.bool b) h1⟩, by rw [h2]; rfl⟩
    | _ => cases e
theorem plain_bools : ∀ bs : List Bool, PyData.plainAll (bs.map .bool) = true
  | [] => rfl
  | b :: r => by
    show (PyData.plain (.bool b) && PyData.plainAll (r.map .bool)) = true
    rw [plain_bools r]; rfl
theorem fits_bools (bs : List Bool) : ∀ x ∈ bs.map PyData.bool, x.fits63 := fun x hx => by
  obtain ⟨b, _, rfl⟩ := List.mem_map.mp hx
  trivial
theorem all_bools (bs : List Bool) : (bs.map PyData.bool).all PyData.truthy = bs.all id := by
  induction bs with
  | nil => rfl
  | cons b r ih => rw [List.map_cons, List.all_cons, List.all_cons, ih]; rfl
theorem any_bools (bs : List Bool) : (bs.map PyData.bool).any PyData.truthy = bs.any id := by
  induction bs with
  | nil => rfl
  | cons b r ih => rw [List.map_cons, List.any_cons, List.any_cons, ih]; rfl
theorem call_all_data (gx : GX G X) (hc : X.calm = true) : CallR X (.builtin "all") (fun xs H Q => ∃ (x : V) (d : D) (Hf : Hp) (ts : List Gt), xs = [x] ∧ Ok G H Hf ts ∧ RpT G H Hf x d ∧ PostO G Hf ts ((lsD d).bind (bsD .all)) Q) := by
  intro pins s σ H xs us Q I r h0
  obtain ⟨x, d, Hf, ts, rfl, ok, rr, p⟩ := h0
  have l := ok.le
  cases rr <;> first | exact p.elim | skip
  case lst a vs ds h g =>
    have p2 : PostO G Hf ts ((boolsOf ds).map fun bs => .dat (.bool (bs.all id))) Q := p
    cases e : boolsOf ds with
    | none => rw [e] at p2; exact p2.elim
    | some bs =>
      rw [e] at p2
      obtain ⟨its, rv, hl, _⟩ := I.list (gx.k ▸ h)
      rw [Vals.ref1 r]
      obtain ⟨⟨as, hr⟩, rfl⟩ := bools_of (h := s.heap) g e rv
      refine PySem.W.all_list_data (I.ok.hd hc) hl.isList (by simpa using hr) (plain_bools bs) (fits_bools bs) fun h' tk hk => ?_
      rw [all_bools]
      exact ⟨.bl _, H, I.kept hk, rfl, p2.dat ok (Le.refl _) (.bl _)⟩
  case tup a vs ds h g =>
    have p2 : PostO G Hf ts ((boolsOf ds).map fun bs => .dat (.bool (bs.all id))) Q := p
    cases e : boolsOf ds with
    | none => rw [e] at p2; exact p2.elim
    | some bs =>
      rw [e] at p2
      obtain ⟨its, rv, ht, _⟩ := I.tuple (gx.k ▸ l.sqT h)
      rw [Vals.ref1 r]
      obtain ⟨⟨as, hr⟩, rfl⟩ := bools_of (h := s.heap) g e rv
      have ht : s.heap.IsTuple a its.toArray := by
        obtain ⟨o, e2, hc2, n2, hd2⟩ := ht
        exact ⟨o, e2, hc2, n2, hd2⟩
      refine PySem.W.all_tuple_data (I.ok.hd hc) ht (by simpa using hr) (plain_bools bs) (fits_bools bs) fun h' tk hk => ?_
      rw [all_bools]
      exact ⟨.bl _, H, I.kept hk, rfl, p2.dat ok (Le.refl _) (.bl _)⟩
theorem call_any_data (gx : GX G X) (hc : X.calm = true) : CallR X (.builtin "any") (fun xs H Q => ∃ (x : V) (d : D) (Hf : Hp) (ts : List Gt), xs = [x] ∧ Ok G H Hf ts ∧ RpT G H Hf x d ∧ PostO G Hf ts ((lsD d).bind (bsD .any)) Q) := by
  intro pins s σ H xs us Q I r h0
  obtain ⟨x, d, Hf, ts, rfl, ok, rr, p⟩ := h0
  have l := ok.le
  cases rr <;> first | exact p.elim | skip
  case lst a vs ds h g =>
    have p2 : PostO G Hf ts ((boolsOf ds).map fun bs => .dat (.bool (bs.any id))) Q := p
    cases e : boolsOf ds with
    | none => rw [e] at p2; exact p2.elim
    | some bs =>
      rw [e] at p2
      obtain ⟨its, rv, hl, _⟩ := I.list (gx.k ▸ h)
      rw [Vals.ref1 r]
      obtain ⟨⟨as, hr⟩, rfl⟩ := bools_of (h := s.heap) g e rv
      refine PySem.W.any_list_data (I.ok.hd hc) hl.isList (by simpa using hr) (plain_bools bs) (fits_bools bs) fun h' tk hk => ?_
      rw [any_bools]
      exact ⟨.bl _, H, I.kept hk, rfl, p2.dat ok (Le.refl _) (.bl _)⟩
  case tup a vs ds h g =>
    have p2 : PostO G Hf ts ((boolsOf ds).map fun bs => .dat (.bool (bs.any id))) Q := p
    cases e : boolsOf ds with
    | none => rw [e] at p2; exact p2.elim
    | some bs =>
      rw [e] at p2
      obtain ⟨its, rv, ht, _⟩ := I.tuple (gx.k ▸ l.sqT h)
      rw [Vals.ref1 r]
      obtain ⟨⟨as, hr⟩, rfl⟩ := bools_of (h := s.heap) g e rv
      have ht : s.heap.IsTuple a its.toArray := by
        obtain ⟨o, e2, hc2, n2, hd2⟩ := ht
        exact ⟨o, e2, hc2, n2, hd2⟩
      refine PySem.W.any_tuple_data (I.ok.hd hc) ht (by simpa using hr) (plain_bools bs) (fits_bools bs) fun h' tk hk => ?_
      rw [any_bools]
      exact ⟨.bl _, H, I.kept hk, rfl, p2.dat ok (Le.refl _) (.bl _)⟩
end
end Lw

set_option autoImplicit false
set_option linter.all false
set_option Elab.async false
set_option maxRecDepth 100000
set_option maxHeartbeats 1000000
/-! LSnd26: min, max of alike data in a list, in a tuple. -/
namespace Lw
open PySem PySem.Spec PyProof.Rows L2
open Gt

section
variable {G : Gx} {X : Cx}
theorem reads_all {h : Heap} : ∀ {us : List Value} {ps : List (V × D)}, PySem.W.EachIs (fun (u : Value) (p : V × D) => ∃ as, Reads h u p.2 as) us ps → ∃ as, ReadsAll h us (ps.map (·.2)) as
  | _, _, .nil => ⟨_, .nil⟩
  | _, _, .cons ⟨_, a⟩ b => by
    obtain ⟨bs, hb⟩ := reads_all b
    exact ⟨_, .cons a hb⟩
theorem alike_all {ds : List D} (h : sortable ds = true) : PySem.W.AlikeAll ds := by
  unfold sortable at h
  rw [Bool.and_eq_true, Bool.and_eq_true] at h
  obtain ⟨⟨h1, _⟩, _⟩ := h
  refine ⟨fun d hd e he => ?_, fun d hd => ?_⟩
  · have := List.all_eq_true.mp h1 d hd
    rw [Bool.and_eq_true] at this
    exact (ordD_alike (List.all_eq_true.mp this.2 e he)).1
  · have := List.all_eq_true.mp h1 d hd
    rw [Bool.and_eq_true] at this
    have := List.all_eq_true.mp this.2 d hd
    intro e
    subst e
    cases this
theorem depth_all : ∀ {ds : List D} {n : Nat}, (∀ d ∈ ds, d.depth ≤ n) → PyData.depthAll ds ≤ n
  | [], n, _ => by simp [PyData.depthAll]
  | d :: r, n, h => by
    have h1 := h d (.head _)
    have h2 := depth_all (fun e he => h e (.tail _ he))
    simp only [PyData.depthAll]
    omega
/-- the item told is one of the data -/
theorem item_is {Hf : Hp} {h h' : Heap} {vs : List V} {ds : List D} {its : List Value} {i : Nat} {v : Value} {m : D} {bs : List Addr} (g : Rps G Hf vs ds) (rv : Vals vs its) (er : PySem.W.EachIs (fun (u : Value) (p : V × D) => ∃ as, Reads h u p.2 as) its (vs.zip ds))
    (hv : its[i]? = some v) (rm : Reads h' v m bs) (k : ∀ b o, h.get? b = some o → h'.get? b = some o) : ∃ x, RelV x v ∧ Rp G Hf x m := by
  obtain ⟨x, hx, rx⟩ : ∃ x, vs[i]? = some x ∧ RelV x v := by
    have hl := rv.length
    have hi := (List.getElem?_eq_some_iff.mp hv).1
    have hi2 : i < vs.length := by omega
    refine ⟨vs[i], List.getElem?_eq_getElem hi2, ?_⟩
    obtain ⟨u, hu, ru⟩ := rv.get (List.getElem?_eq_getElem hi2)
    rw [hv] at hu
    cases hu
    exact ru
  obtain ⟨d, hd, rd⟩ := g.get' hx
  have hz : (vs.zip ds)[i]? = some (x, d) := by
    rw [List.getElem?_zip_eq_some]
    exact ⟨hx, hd⟩
  obtain ⟨as, r1⟩ : ∃ as, Reads h v d as := by
    have : ∀ {us : List Value} {ps : List (V × D)} (j : Nat) {u : Value} {p : V × D}, PySem.W.EachIs (fun (u : Value) (p : V × D) => ∃ as, Reads h u p.2 as) us ps → us[j]? = some u → ps[j]? = some p → ∃ as, Reads h u p.2 as := by
      intro us ps j
      induction j generalizing us ps with
      | zero =>
        intro u p e h1 h2
        cases e with
        | nil => simp at h1
        | cons a b => simp at h1 h2; subst h1; subst h2; exact a
      | succ j ih =>
        intro u p e h1 h2
        cases e with
        | nil => simp at h1
        | cons a b => exact ih b (by simpa using h1) (by simpa using h2)
    exact this i er hv hz
  have e := ((PySem.W.reads_keeps k r1).unique _ _ rm).1
  subst e
  exact ⟨x, rx, rd⟩
theorem call_min_data (gx : GX G X) (hc : X.calm = true) (hu : X.A.units + 150 < cLine) : CallR X (.builtin "min") (fun xs H Q => ∃ (x : V) (d : D) (Hf : Hp) (ts : List Gt), xs = [x] ∧ Ok G H Hf ts ∧ RpT G H Hf x d ∧ PostO G Hf ts ((lsD d).bind (bsD .min)) Q) := by
  intro pins s σ H xs us Q I r h0
  obtain ⟨x, d, Hf, ts, rfl, ok, rr, p⟩ := h0
  have l := ok.le
  cases rr <;> first | exact p.elim | skip
  case lst a vs ds h g =>
    have p2 : PostO G Hf ts (if sortable ds = true then (Lw.minD ds).map .dat else none) Q := p
    obtain ⟨hs, p3⟩ := PostO.if' p2
    cases ds with
    | nil => exact p3.elim
    | cons d0 dr =>
      obtain ⟨its, rv, hl, _⟩ := I.list (gx.k ▸ h)
      rw [Vals.ref1 r]
      have f := sortable_facts hs
      obtain ⟨_, er⟩ := each_zip gx I l rv g f.1
      obtain ⟨as, hr⟩ := reads_all er
      rw [zip_snd g.length] at hr
      have hd := depth_all f.2.2.2.2
      refine PySem.W.min_list_data (x := d0) (xs := dr) (I.ok.hd hc) hl.isList (by simpa using hr) (alike_all hs) (by omega) fun i v h' tk bs hv rm k => ?_
      obtain ⟨x, rx, rd⟩ := item_is g rv er (by simpa using hv) rm k
      exact ⟨x, H, I.kept k, rx, p3.dat ok (Le.refl _) rd⟩
  case tup a vs ds h g =>
    have p2 : PostO G Hf ts (if sortable ds = true then (Lw.minD ds).map .dat else none) Q := p
    obtain ⟨hs, p3⟩ := PostO.if' p2
    cases ds with
    | nil => exact p3.elim
    | cons d0 dr =>
      obtain ⟨its, rv, ht, _⟩ := I.tuple (gx.k ▸ l.sqT h)
      rw [Vals.ref1 r]
      have f := sortable_facts hs
      obtain ⟨_, er⟩ := each_zip gx I l rv g f.1
      obtain ⟨as, hr⟩ := reads_all er
      rw [zip_snd g.length] at hr
      have hd := depth_all f.2.2.2.2
      have ht : s.heap.IsTuple a its.toArray := by
        obtain ⟨o, e2, hc2, n2, hd2⟩ := ht
        exact ⟨o, e2, hc2, n2, hd2⟩
      refine PySem.W.min_tuple_data (x := d0) (xs := dr) (I.ok.hd hc) ht (by simpa using hr) (alike_all hs) (by omega) fun i v h' tk bs hv rm k => ?_
      obtain ⟨x, rx, rd⟩ := item_is g rv er (by simpa using hv) rm k
      exact ⟨x, H, I.kept k, rx, p3.dat ok (Le.refl _) rd⟩
theorem call_max_data (gx : GX G X) (hc : X.calm = true) (hu : X.A.units + 150 < cLine) : CallR X (.builtin "max") (fun xs H Q => ∃ (x : V) (d : D) (Hf : Hp) (ts : List Gt), xs = [x] ∧ Ok G H Hf ts ∧ RpT G H Hf x d ∧ PostO G Hf ts ((lsD d).bind (bsD .max)) Q) := by
  intro pins s σ H xs us Q I r h0
  obtain ⟨x, d, Hf, ts, rfl, ok, rr, p⟩ := h0
  have l := ok.le
  cases rr <;> first | exact p.elim | skip
  case lst a vs ds h g =>
    have p2 : PostO G Hf ts (if sortable ds = true then (Lw.maxD ds).map .dat else none) Q := p
    obtain ⟨hs, p3⟩ := PostO.if' p2
    cases ds with
    | nil => exact p3.elim
    | cons d0 dr =>
      obtain ⟨its, rv, hl, _⟩ := I.list (gx.k ▸ h)
      rw [Vals.ref1 r]
      have f := sortable_facts hs
      obtain ⟨_, er⟩ := each_zip gx I l rv g f.1
      obtain ⟨as, hr⟩ := reads_all er
      rw [zip_snd g.length] at hr
      have hd := depth_all f.2.2.2.2
      refine PySem.W.max_list_data (x := d0) (xs := dr) (I.ok.hd hc) hl.isList (by simpa using hr) (alike_all hs) (by omega) fun i v h' tk bs hv rm k => ?_
      obtain ⟨x, rx, rd⟩ := item_is g rv er (by simpa using hv) rm k
      exact ⟨x, H, I.kept k, rx, p3.dat ok (Le.refl _) rd⟩
  case tup a vs ds h g =>
    have p2 : PostO G Hf ts (if sortable ds = true then (Lw.maxD ds).map .dat else none) Q := p
    obtain ⟨hs, p3⟩ := PostO.if' p2
    cases ds with
    | nil => exact p3.elim
    | cons d0 dr =>
      obtain ⟨its, rv, ht, _⟩ := I.tuple (gx.k ▸ l.sqT h)
      rw [Vals.ref1 r]
      have f := sortable_facts hs
      obtain ⟨_, er⟩ := each_zip gx I l rv g f.1
      obtain ⟨as, hr⟩ := reads_all er
      rw [zip_snd g.length] at hr
      have hd := depth_all f.2.2.2.2
      have ht : s.heap.IsTuple a its.toArray := by
        obtain ⟨o, e2, hc2, n2, hd2⟩ := ht
        exact ⟨o, e2, hc2, n2, hd2⟩
      refine PySem.W.max_tuple_data (x := d0) (xs := dr) (I.ok.hd hc) ht (by simpa using hr) (alike_all hs) (by omega) fun i v h' tk bs hv rm k => ?_
      obtain ⟨x, rx, rd⟩ := item_is g rv er (by simpa using hv) rm k
      exact ⟨x, H, I.kept k, rx, p3.dat ok (Le.refl _) rd⟩
end
end Lw

set_option autoImplicit false
set_option linter.all false
set_option Elab.async false
set_option maxRecDepth 100000
set_option maxHeartbeats 1000000
/-! LSnd27: l.index(x). -/
namespace Lw
open PySem PySem.Spec PyProof.Rows L2
open Gt

section
variable {G : Gx} {X : Cx}
theorem list_ty (gx : GX G X) {x : V} {ds : List D} {H Hf : Hp} (r : RpT G H Hf x (.list ds)) : TyX X "list" x H := by
  intro pins s σ v I rx
  cases r with
  | lst hS hR =>
    cases rx
    obtain ⟨its, rv, hl, _⟩ := I.list (gx.k ▸ hS)
    obtain ⟨o, n, ho, hc, hd, hdat⟩ := hl
    refine ⟨⟨o, ho, hc⟩, fun b e => ?_⟩
    cases e
    exact ⟨o, ho, hd⟩
theorem find_at {α : Type} {p : α → Bool} : ∀ {xs : List α} {j : Nat}, xs.findIdx? p = some j → ∃ h : j < xs.length, p xs[j] = true ∧ ∀ (m : Nat) (hm : m < xs.length), m < j → p xs[m] = false := fun {xs j} h => by
  rw [List.findIdx?_eq_some_iff_getElem] at h
  obtain ⟨h1, h2, h3⟩ := h
  exact ⟨h1, h2, fun m hm hj => by simpa using h3 m hj⟩
theorem mt_index (gx : GX G X) (hu : X.A.units + 150 < cLine) : MtR X "list.index" (rMt G .index) := by
  intro pins s σ H x xs v us Q I rx rv ⟨d, ds, Hf, ts, ok, r1, r2, p⟩
  have l := ok.le
  cases d with
  | list ys =>
    cases r2 with
    | nil => exact p.elim
    | cons k1 r2 =>
      cases r2 with
      | cons _ r2 => exact p.elim
      | nil =>
        rename_i y dy
        have p : PostO G Hf ts (if (nice dy && ys.all nice) = true then (indexD ys dy).map fun (n : Nat) => .dat (.int n) else none) Q := p
        obtain ⟨hn, p⟩ := PostO.if' p
        rw [Bool.and_eq_true] at hn
        obtain ⟨u, rfl, ru⟩ := rv.one
        cases e : indexD ys dy with
        | none => rw [e] at p; exact p.elim
        | some j =>
          rw [e] at p
          obtain ⟨hj, h1, h2⟩ := find_at e
          cases r1 with
          | lst hS hR =>
            cases rx
            obtain ⟨its, rvs, ⟨⟨cls, dd, data, sls⟩, n, ho, hc, hdn, hdt⟩, hz⟩ := I.list (gx.k ▸ hS)
            simp only at hc hdt
            subst hc hdt
            have hpl : PyData.plainAll ys = true := nice_all hn.2
            obtain ⟨_, er⟩ := each_zip gx I l rvs hR hpl
            obtain ⟨as, hr⟩ := reads_all er
            rw [zip_snd hR.length] at hr
            obtain ⟨bs, hy⟩ := RpT.reads gx I l (k1.top l) ru (nice_plain hn.1)
            have hdep := nice_depthAll hn.2
            have hmap : its.map (SeqAt.readOf s.heap) = ys := SeqAt.readsAll_map_plain ys its _ hpl hr
            have hlen : its.length = ys.length := by rw [← hmap, List.length_map]
            have hvl := rvs.length
            have hsl := sizeLine_eq
            have hjl : j < its.toArray.size := by rw [List.size_toArray, hlen]; exact hj
            have at_ : ∀ (m : Nat) (hm : m < its.toArray.size) (hm2 : m < ys.length), SeqAt.readOf s.heap its.toArray[m] = ys[m] := by
              intro m hm hm2
              have hml : m < its.length := by simpa using hm
              have e1 : (its.map (SeqAt.readOf s.heap))[m]? = some ys[m] := by rw [hmap]; exact List.getElem?_eq_getElem hm2
              rw [List.getElem?_map, List.getElem?_eq_getElem hml] at e1
              simpa using Option.some.inj e1
            refine call_meets PySem.F.slot_list_index ⟨_, ho, rfl⟩ PySem.F.entry_list_index (PySem.F.args_list_index_2 _ _)
              (SeqAt.list_indexAt _ its.toArray n dd sls u (fun z => PyData.eqv (SeqAt.readOf s.heap z) dy) j hjl (by omega) ?_ ?_)
              ⟨ho, SeqAt.items_plain (vs := its.toArray) (by simpa using hr) hy hpl (nice_plain hn.1) (by have : min (PyData.depthAll ys) dy.depth ≤ 100 := Nat.le_trans (Nat.min_le_left _ _) hdep; omega), ?_⟩
            · show PyData.eqv (SeqAt.readOf s.heap its.toArray[j]) dy = true
              rw [at_ j hjl hj]
              exact h1
            · intro m hm hmj
              have hm2 : m < ys.length := by rw [← hlen]; simpa using hm
              show PyData.eqv (SeqAt.readOf s.heap its.toArray[m]) dy = false
              rw [at_ m hm hm2]
              exact h2 m hm2 hmj
            · exact ⟨.int (j : Nat), H, I.tok _, ⟨_, rfl⟩, p.dat ok (Le.refl _) (.int _)⟩
  | _ => exact p.elim
end
end Lw

set_option autoImplicit false
set_option linter.all false
set_option Elab.async false
set_option maxRecDepth 100000
set_option maxHeartbeats 1000000
/-! LSnd28: dict comprehensions. -/
namespace Lw
open PySem PySem.Spec PyProof.Rows L2
open Gt

section
variable {G : Gx} {C : Cf} {W : WX} {X : Cx} {t : Tg} {ptg pi pk pv pc : Expr} {a : Src} {ek e c : E} {pos : Pos}
theorem rpk_len {H : Hp} : ∀ {ks : List (D × V)} {ds : List (D × D)}, Rpk G H ks ds → ks.length = ds.length
  | _, _, .nil => rfl
  | _, _, .cons _ r => by rw [List.length_cons, List.length_cons, rpk_len r]
theorem dput_len (k v : D) (ds : List (D × D)) : (dput ds k v).length ≤ ds.length + 1 := by
  unfold dput
  split
  · rw [List.length_map]; omega
  · rw [List.length_append]; simp
theorem dputO_eq {ds ds' : List (D × D)} {k v : D} (h : dputO ds k v = some ds') : topKey k = true ∧ ds' = dput ds k v := by
  unfold dputO at h
  split at h
  · rename_i hk
    cases h
    rw [Bool.and_eq_true] at hk
    have hk := hk.1
    unfold kOk at hk
    rw [Bool.and_eq_true, Bool.and_eq_true] at hk
    exact ⟨hk.1.1, rfl⟩
  · cases h
/-- what a turn of the comprehension does to the dict -/
def dcOne (ds : List (D × D)) : Option (D × D) → List (D × D) → Prop
  | none, ds' => ds' = ds
  | some (k, v), ds' => tupK k = false ∧ dputO ds k v = some ds'
theorem dc_run {F : D → Option (Option (D × D))} {tt : TT} {tk te : TE} {σ : L2.St} {gs R : List Gt} {H1 Hf1 : Hp} {J : It} {xs : List D} {ys : List (D × D)} {Q : VK} (ok1 : Ok G H1 Hf1 (gs ++ R)) (lost : Lost gs (tgS t)) (hlen : xs.length ≤ sizeLine) (wk : WalksC G Hf1 (gs ++ R) J xs) (out : dcGo F [] xs = some ys)
    (item : ∀ (d : D) (y : Option (D × D)) (x : V) (H2 Hf2 : Hp) (A : Addr) (acc : List (Key × V)) (ds ds' : List (D × D)) (Nx : Hp → Prop), F d = some y → Le Hf1 Hf2 → Ok G H2 Hf2 (wipeG (tgS t) gs ++ (.dK A acc ds :: R)) → Rp G Hf2 x d → acc.length < sizeLine → dcOne ds y ds' →
      (∀ (H3 Hf3 : Hp) (gs3 : List Gt) (acc3 : List (Key × V)), Le Hf2 Hf3 → SameG (tgS t) (wipeG (tgS t) gs) gs3 → Ok G H3 Hf3 (gs3 ++ (.dK A acc3 ds' :: R)) → Nx H3) →
      tG G t x (wipe σ (tgS t)) H2 fun σ2 H2 => wipe σ2 (tgS t) = wipe σ (tgS t) ∧ tt σ2 H2 fun b H3 => if b = true then tk σ2 H3 fun y H4 => te σ2 H4 fun z H5 => ∃ kvs k, y = kV k ∧ H5 A = some (.dK kvs) ∧ kvs.length < sizeLine ∧ Nx (upd H5 A (.dK (putK kvs k z))) else Nx H3)
    (fin : ∀ (A : Addr) (H2 Hf2 : Hp) (acc : List (Key × V)), Le Hf1 Hf2 → Ok G H2 Hf2 (.dK A acc ys :: (gs ++ R)) → Q (.ref A) H2) :
    ∀ A, H1 A = none → ∃ W : Nat → Nat → Hp → Prop, (∃ m, W 0 m (upd H1 A (.dK []))) ∧ ∀ i m H, W i m H →
      (J.stop i H ∧ Q (.ref A) H) ∨ (J.go i H ∧ ∃ Nx : Hp → Prop, (∀ H', Nx H' → ∃ m', m' < m ∧ W (i + 1) m' H') ∧ ∀ x H', J.yld i H x H' → tG G t x (wipe σ (tgS t)) H' fun σ2 H2 => wipe σ2 (tgS t) = wipe σ (tgS t) ∧ tt σ2 H2 fun b H3 =>
        if b = true then tk σ2 H3 fun y H4 => te σ2 H4 fun z H5 => ∃ kvs k, y = kV k ∧ H5 A = some (.dK kvs) ∧ kvs.length < sizeLine ∧ Nx (upd H5 A (.dK (putK kvs k z))) else Nx H3) := by
  intro A hA
  refine ⟨fun i m H => m + i = xs.length ∧ ∃ (Hf2 : Hp) (acc : List (Key × V)) (ds : List (D × D)), Le Hf1 Hf2 ∧ Ok G H Hf2 (.dK A acc ds :: (gs ++ R)) ∧ ds.length ≤ i ∧ dcGo F ds (xs.drop i) = some ys,
    ⟨xs.length, rfl, Hf1, [], [], Le.refl _, ok1.new hA (.dK upd_same .nil) rfl, Nat.le_refl _, out⟩, ?_⟩
  intro i m H ⟨hm, Hf2, acc, ds, le2, ok2, hl, hr⟩
  obtain ⟨w1, w2, w3⟩ := wk H Hf2 [.dK A acc ds] le2 ok2 i
  by_cases hi : i < xs.length
  · refine .inr ⟨w2 hi, fun H4 => ∃ (Hf4 : Hp) (acc : List (Key × V)) (ds : List (D × D)), Le Hf1 Hf4 ∧ Ok G H4 Hf4 (.dK A acc ds :: (gs ++ R)) ∧ ds.length ≤ i + 1 ∧ dcGo F ds (xs.drop (i + 1)) = some ys, fun H4 q => ⟨m - 1, by omega, by omega, q⟩, fun x H3 hyy => ?_⟩
    obtain ⟨Hf3, d, le3, ok3, ed, rd⟩ := w3 x H3 hi hyy
    have ed2 : xs[i] = d := (List.getElem?_eq_some_iff.mp ed).2
    rw [List.drop_eq_getElem_cons hi, ed2, dcGo] at hr
    have ok3 : Ok G H3 Hf3 (.dK A acc ds :: (gs ++ R)) := ok3
    have ok3' : Ok G H3 Hf3 (wipeG (tgS t) gs ++ (.dK A acc ds :: R)) := (ok3.perm (List.perm_middle (l₁ := gs) (l₂ := R))).wipe _
    have hacc : acc.length = ds.length := by
      cases ok3.ok _ (.head _) with
      | dK _ b => rw [← rpk_len b, List.length_map]
    have key : ∃ y ds', F d = some y ∧ dcOne ds y ds' ∧ dcGo F ds' (xs.drop (i + 1)) = some ys ∧ ds'.length ≤ ds.length + 1 := by
      cases hF : F d with
      | none => rw [hF] at hr; cases hr
      | some y =>
        rw [hF] at hr
        cases y with
        | none => exact ⟨none, ds, rfl, rfl, hr, by omega⟩
        | some kv =>
          obtain ⟨k, v⟩ := kv
          have hr : (if tupK k = true then none else (dputO ds k v).bind fun acc => dcGo F acc (xs.drop (i + 1))) = some ys := hr
          cases ht : tupK k with
          | true => rw [ht, if_pos rfl] at hr; cases hr
          | false =>
            rw [ht, if_neg Bool.false_ne_true] at hr
            obtain ⟨ds', e1, e2⟩ := Option.bind_eq_some_iff.mp hr
            refine ⟨some (k, v), ds', rfl, ⟨ht, e1⟩, e2, ?_⟩
            rw [(dputO_eq e1).2]
            exact dput_len k v ds
    obtain ⟨y, ds', hF, h1, h2, h3⟩ := key
    refine item d y x H3 Hf3 A acc ds ds' _ hF (le2.trans le3) ok3' rd (by rw [hacc]; omega) h1 fun H5 Hf5 gs5 acc5 le5 sg5 ok5 => ?_
    exact ⟨Hf5, acc5, ds', (le2.trans le3).trans le5, (Ok.unwipe ok1 lost sg5 ((le2.trans le3).trans le5) ok5).perm (List.perm_middle (l₁ := gs) (l₂ := R)).symm, by omega, h2⟩
  · refine .inl ⟨w1 (by omega), ?_⟩
    rw [List.drop_eq_nil_of_le (by omega), dcGo] at hr
    cases hr
    exact fin A H Hf2 acc le2 ok2
/-- a key, a value are worked out and go to the dict -/
theorem item_kv {σ2 : L2.St} {gs2 R : List Gt} {H2 Hf2 : Hp} {A : Addr} {acc : List (Key × V)} {ds ds' : List (D × D)} {k v : D} {Nx : Hp → Prop} (hk : eff ek = []) (he : eff e = []) (ok2 : Ok G H2 Hf2 (gs2 ++ (.dK A acc ds :: R))) (rel2 : Rel σ2 gs2) (hl : acc.length < sizeLine)
    (hvk : oD (ev C ek (gs2.map er)).val = some k) (hv : oD (ev C e (gs2.map er)).val = some v) (h1 : tupK k = false) (h2 : dputO ds k v = some ds')
    (hN : ∀ (H3 Hf3 : Hp) (acc3 : List (Key × V)), Le Hf2 Hf3 → Ok G H3 Hf3 (gs2 ++ (.dK A acc3 ds' :: R)) → Nx H3) : tE G C noW ek σ2 H2 fun y H4 => tE G C noW e σ2 H4 fun z H5 => ∃ kvs k, y = kV k ∧ H5 A = some (.dK kvs) ∧ kvs.length < sizeLine ∧ Nx (upd H5 A (.dK (putK kvs k z))) := by
  obtain ⟨o, s, e1, e2⟩ := valD hvk
  obtain ⟨o', s', e3, e4⟩ := valD hv
  refine ⟨gs2, .dK A acc ds :: R, Hf2, ok2, rel2, ?_⟩
  rw [e1]
  intro H3 Hf3 t gs3 n le3 ok3 et es rel3 sm
  rw [hk] at sm
  have sm := sm.nil
  subst sm
  obtain ⟨Hg, lg, ok4, r⟩ := ok3.fzs n
  rw [et] at r
  have rk := rpO_d r e2
  have hkey : ∃ kk, t.rt = kV kk ∧ k = keyD kk := by
    have tk := (dputO_eq h2).1
    generalize t.rt = y at rk
    cases rk with
    | int i => exact ⟨.inl i, rfl, rfl⟩
    | str x => exact ⟨.inr x, rfl, rfl⟩
    | _ => first | cases tk | cases h1
  obtain ⟨kk, ey, ek2⟩ := hkey
  rw [ey]
  have ok5 : Ok G H3 Hf3 (gs3 ++ (.dK A acc ds :: R)) := ok3.drop
  refine ⟨gs3, .dK A acc ds :: R, Hf3, ok5, rel3, ?_⟩
  rw [e3]
  intro H5 Hf5 t5 gs5 n5 le5 ok6 et5 es5 rel5 sm5
  rw [he] at sm5
  have sm5 := sm5.nil
  subst sm5
  obtain ⟨Hg5, lg5, ok7, r5⟩ := ok6.fzs n5
  rw [et5] at r5
  have rd := rpO_d r5 e4
  have kd : OkT G H5 Hg5 (.dK A acc ds) := ok7.ok _ (by simp)
  cases kd with
  | dK k1 k2 =>
    refine ⟨acc, kk, rfl, k1, hl, hN _ Hg5 (putK acc kk t5.rt) ((le3.trans le5).trans lg5) ?_⟩
    have ok8 : Ok G H5 Hg5 (.dK A acc ds :: (gs5 ++ R)) := by
      refine (ok7.sub ?_).perm (List.perm_middle (l₁ := gs5) (l₂ := R)).symm
      exact (List.Sublist.refl gs5).append (List.sublist_append_right [_] _)
    have e9 : ds' = dput ds (keyD kk) v := by rw [(dputO_eq h2).2, ek2]
    have ok9 := ok8.write (a := A) (ob := .dK (putK acc kk t5.rt)) (u := .dK A (putK acc kk t5.rt) ds') (.head _) (.dK upd_same (by rw [e9]; exact k2.put_k kk rd)) (List.Sublist.refl _)
    exact ok9.perm (List.perm_middle (l₁ := gs5) (l₂ := R))
/-- {k: v for t in a} -/
theorem dc_post (nk : eff ek = []) (ne : eff e = []) {σ : L2.St} {H : Hp} {Q : VK} (h0 : tE G C W (.dc t a ek e) σ H Q) : tDc (tIC G C W a) (tG G t) tYes (tE G C noW ek) (tE G C noW e) (tgS t) σ H Q := by
  obtain ⟨gs, Rm, Hf, ok, rel, h⟩ := h0
  rw [ev, eff] at h
  refine ⟨gs, Rm, Hf, ok, rel, ?_⟩
  cases e0 : evi C a (gs.map er) with
  | no => rw [e0] at h; exact h
  | exc c p s => rw [e0] at h; exact h
  | ok xs s =>
    rw [e0] at h
    intro H1 Hf1 gs1 T J le1 ok1 es1 rel1 sm1 wk
    subst es1
    have h : PostV G W (if cOk t xs (gs1.map er) = true then ofO ((dcGo (fun x => (tset t x (wipeO (tgS t) (gs1.map er))).bind fun s => match oD (ev C ek s).val, oD (ev C e s).val with
      | some k, some v => some (some (k, v))
      | _, _ => none) [] xs).map .dct) (gs1.map er) else .no) (effS a) σ gs Rm Hf Q := h
    cases ec : cOk t xs (gs1.map er) with
    | false => rw [ec] at h; exact h.elim
    | true =>
      rw [ec, if_pos rfl] at h
      obtain ⟨lost, hlen⟩ := lost_of ok1 ec
      cases eo : dcGo (fun x => (tset t x (wipeO (tgS t) (gs1.map er))).bind fun s => match oD (ev C ek s).val, oD (ev C e s).val with
        | some k, some v => some (some (k, v))
        | _, _ => none) [] xs with
      | none => rw [eo] at h; exact h.elim
      | some ys =>
        rw [eo] at h
        refine dc_run ok1 lost hlen wk eo (fun d y x H2 Hf2 A acc ds ds' Nx hF le2 ok2 rd hl h1 hN => ?_) fun A H2 Hf2 acc le2 ok2 => ?_
        · obtain ⟨s2, e1, e2⟩ := Option.bind_eq_some_iff.mp hF
          refine item_g rel1 ok2 rd e1 fun σ2 gs2 hw ok3 es3 rel3 sg3 => ⟨hw, ?_⟩
          subst es3
          cases ea : oD (ev C ek (gs2.map er)).val with
          | none => rw [ea] at e2; cases e2
          | some k =>
            cases eb : oD (ev C e (gs2.map er)).val with
            | none => rw [ea, eb] at e2; cases e2
            | some v =>
              rw [ea, eb] at e2
              cases e2
              exact if_t (Q := Nx H2) (item_kv nk ne ok3 rel3 hl ea eb h1.1 h1.2 fun H3 Hf3 acc3 le3 ok4 => hN H3 Hf3 gs2 acc3 le3 sg3 ok4)
        · exact h H2 Hf2 (.dK A acc ys) gs1 (fun e => by cases e) (le1.trans le2) (ok2.sub (((List.Sublist.refl gs1).append (List.sublist_append_right T Rm)).cons_cons _)) rfl rfl rel1 sm1
theorem snd_dc {scope : Scope} {own : List (Str × Nat)} (B : Blk X scope own G C t ptg) (hi : PI X ptg pi (tIC G C W a)) (hk : ∀ (s : Shared) (H : Hp) (C' : Addr) (cl : List (Str × Addr)) (fp : List Addr), PE (X.blk s H scope (compEnvC scope cl C' X.env) fp) pk (tE G C noW ek))
    (he : ∀ (s : Shared) (H : Hp) (C' : Addr) (cl : List (Str × Addr)) (fp : List Addr), PE (X.blk s H scope (compEnvC scope cl C' X.env) fp) pv (tE G C noW e)) (nk : eff ek = []) (ne : eff e = [])
    (hs : ∀ x, foldedSetIterable pi X.env x = pure x) : PE X (.DictComp pk pv [⟨ptg, pi, [], 0⟩] scope pos) (tE G C W (.dc t a ek e)) :=
  (pe_dc B.hc B.hN hi B.ok B.hg (fun _ _ _ _ _ => pts_nil) hk he hs).imp fun σ H Q h => by
    rw [B.ow]; exact dc_post nk ne h
end
end Lw

set_option autoImplicit false
set_option linter.all false
set_option Elab.async false
set_option maxRecDepth 100000
set_option maxHeartbeats 1000000
/-! LSnd29: a, b, c = x, y, z. -/
namespace Lw
open PySem PySem.Spec PyProof.Rows L2
open Gt

section
variable {G : Gx} {C : Cf} {W : WX} {X : Cx} {sub : Nat → Nat → Bool} {pa pb pc : Expr} {a b c : E} {pos : Pos}
theorem snd_par3 {ls : List Lh} {i j k : Nat} {x y z : Str} {px py pz pt : Pos} {kt k2 pt2} (hc : X.calm = true) (hN : X.N.Nodup) (hi : X.N[i]? = some x) (hj : X.N[j]? = some y) (hk : X.N[k]? = some z) (hij : i ≠ j) (hik : i ≠ k) (hjk : j ≠ k) (hx : X.env.scope.names.lookup x = some .local) (hy : X.env.scope.names.lookup y = some .local) (hz : X.env.scope.names.lookup z = some .local)
    (ha : PA X [pa, pb, pc] (tWs G C W [a, b, c])) (hn : nmL ls = some [i, j, k]) (hw : swappedStores [.Tuple [.Name x px, .Name y py, .Name z pz] kt pt] (.Tuple [pa, pb, pc] k2 pt2) X.env = pure (some [x, y, z])) (hs : swapsWithSole [.Tuple [.Name x px, .Name y py, .Name z pz] kt pt] (.Tuple [pa, pb, pc] k2 pt2) pos.line X.env = pure false) :
    PS X (.Assign [.Tuple [.Name x px, .Name y py, .Name z pz] kt pt] (.Tuple [pa, pb, pc] k2 pt2) pos) (tS G C sub W (.par ls [a, b, c])) := by
  refine (ps_par3 hc hN hi hj hk hij hik hjk hx hy hz ha hw hs).imp fun D σ H h => ?_
  have h := tWs_len (par_post hn h)
  obtain ⟨gs, Rm, Hf, ok, rel, h⟩ := h
  refine ⟨gs, Rm, Hf, ok, rel, ?_⟩
  cases e : evw C [a, b, c] (gs.map er) with
  | no => rw [e] at h; exact h
  | exc c p s => rw [e] at h; exact h
  | ok os s =>
    rw [e] at h
    intro H' Hf' ts gs' hu le ok' eo es' rel'
    obtain ⟨hl, q⟩ := h H' Hf' ts gs' hu le ok' eo es' rel'
    match ts, hl with
    | [t1, t2, t3], _ => exact ⟨t1.rt, t2.rt, t3.rt, rfl, q⟩
end
end Lw

set_option autoImplicit false
set_option linter.all false
set_option Elab.async false
set_option maxRecDepth 100000
set_option maxHeartbeats 1000000
/-! LSnd30: names at once, through a tuple (cells among them; four and more). -/
namespace Lw
open PySem PySem.Spec PyProof.Rows L2
open Gt

section
variable {G : Gx} {C : Cf} {W : WX} {X : Cx} {sub : Nat → Nat → Bool} {pes : List Expr} {es : List E} {pos pt pt2 : Pos}
/-- names take values, from the left -/
def gNs (is : List Nat) : TGs := fun vs σ H Q => vs.length = is.length ∧ Q (setL is vs σ) H
theorem gns_nil : PGs X [] (gNs []) := pgs_nil.imp fun vs σ H Q ⟨h1, h2⟩ => by
  have e := List.eq_nil_of_length_eq_zero h1
  subst e
  exact ⟨rfl, h2⟩
theorem gns_cons {i : Nat} {is : List Nat} {x : Str} {px : Pos} {pr : List Expr} (hN : X.N.Nodup) (hi : X.N[i]? = some x) (hx : Loc X.env.scope x) (hf : X.fn x = true ∨ X.env.scope.names.lookup x = some .local) (h : PGs X pr (gNs is))
    (hs : (assignEach (.Name x px :: pr) X.env).map (·.2) = assign (.Name x px) X.env :: (assignEach pr X.env).map (·.2)) : PGs X (.Name x px :: pr) (gNs (i :: is)) :=
  (pgs_cons (pg_name hN hi hx hf) h hs).imp fun vs σ H Q ⟨h1, h2⟩ => by
    cases vs with
    | nil => cases h1
    | cons v vs => exact ⟨v, vs, rfl, by simpa using h1, h2⟩
theorem par_postN {ls : List Lh} {is : List Nat} {D : Ends} {σ : L2.St} {H : Hp} (hn : nmL ls = some is) (h0 : tS G C sub W (.par ls es) D σ H) : tWs G C W es σ H fun vs H1 => ∀ p, H1 p = none → D.nx (setL is vs σ) (upd H1 p (.tup vs)) := by
  obtain ⟨gs, Rm, Hf, ok, rel, h⟩ := h0
  rw [exec, asgs] at h
  refine ⟨gs, Rm, Hf, ok, rel, ?_⟩
  cases e : evw C es (gs.map er) with
  | no => rw [e] at h; exact h
  | exc c p s => rw [e] at h; exact fun d H' Hf' gs' le ok' e' rel' x => h d σ H' Hf' gs' le ok' e' rel' (SameS.refl _ _) x
  | ok os s =>
    rw [e] at h
    intro H' Hf' ts gs' hu le ok' eo es' rel' p hp
    subst eo es'
    exact names_put (G := G) (C := C) (W := W) hn hu (ok'.newN hp) rel' (PostS.back (m := []) h le (SameS.refl _ _) (fun _ h => nomatch h) fun q hq => hq)
theorem snd_parN {ls : List Lh} {is : List Nat} {pr : List Expr} {kt k2 : Nat} (hc : X.calm = true) (ha : PA X pes (tWs G C W es)) (hn : nmL ls = some is) (hl : es.length = is.length) (hz : es.length ≤ sizeLine) (hg : PGs X pr (gNs is)) (hna : (assignEach pr X.env).length = is.length) (hst : (assignEach pr X.env).findIdx? (·.1) = none)
    (hs : swapsWithSole [.Tuple pr kt pt] (.Tuple pes k2 pt2) pos.line X.env = pure false) (hw : swappedStores [.Tuple pr kt pt] (.Tuple pes k2 pt2) X.env = pure none) (h1 : (assignEach [.Tuple pr kt pt] X.env).map (·.2) = [assign (.Tuple pr kt pt) X.env]) :
    PS X (.Assign [.Tuple pr kt pt] (.Tuple pes k2 pt2) pos) (tS G C sub W (.par ls es)) := by
  refine (ps_asg (pe_tup ha) (pg_tup hc hg hna hst) hs hw h1).imp fun D σ H h => ?_
  have h := tWs_len (par_postN hn h)
  obtain ⟨gs, Rm, Hf, ok, rel, h⟩ := h
  refine ⟨gs, Rm, Hf, ok, rel, ?_⟩
  cases e : evw C es (gs.map er) with
  | no => rw [e] at h; exact h
  | exc c p s => rw [e] at h; exact h
  | ok os s =>
    rw [e] at h
    intro H' Hf' ts gs' hu le ok' eo es' rel'
    obtain ⟨hl2, q⟩ := h H' Hf' ts gs' hu le ok' eo es' rel'
    refine ⟨by rw [hl2]; exact hz, fun p hp => ⟨p, _, rfl, SqT.of upd_same, by rw [hl2]; exact hl, by rw [hl2]; exact hl, q p hp⟩⟩
end
end Lw

set_option autoImplicit false
set_option linter.all false
set_option Elab.async false
set_option maxRecDepth 100000
set_option maxHeartbeats 1000000
/-! LSnd31: p[k], a, .. = x, y, .. -/
namespace Lw
open PySem PySem.Spec PyProof.Rows L2
open Gt

section
variable {G : Gx} {C : Cf} {W : WX} {X : Cx} {sub : Nat → Nat → Bool} {pes : List Expr} {es : List E} {pos pt pt2 : Pos}
theorem bind_assoc {α β γ : Type} (x : R α) (f : α → St → R β) (g : β → St → R γ) : (x.bind f).bind g = x.bind fun a s => (f a s).bind g := by cases x <;> rfl
theorem it_put {p : Pl} {k : E} {ls : List Lh} {is : List Nat} (hn : nmL ls = some is) (sp : (eff k).all (fun q => dj p q) = true) {t1 : Gt} {ts gs Rm : List Gt} {σ : L2.St} {H Hf : Hp} {D : Ends} {l0 : List Nat} (n1 : t1 ≠ .un) (hu : ∀ t ∈ ts, t ≠ .un) (hlen : ts.length = is.length) (ok : Ok G H Hf (t1 :: (ts ++ (gs ++ Rm)))) (rel : Rel σ gs)
    (h : PostS G W (lhss C (.it p k :: ls) (t1.er :: ts.map er) (gs.map er)) l0 σ Rm Hf D) (hl0 : ∀ q ∈ asgL ls, q ∈ l0) : tB G C W (plE p) σ H fun o H1 => tE G C W k σ H1 fun i H2 => tSet G o i t1.rt H2 fun H3 => gNs is (ts.map rt) σ H3 D.nx := by
  have hpl : plOf (plE p) = some p := by cases p <;> rfl
  have hef : eff (plE p) = [] := by cases p <;> rfl
  have ok0 : Ok G H Hf (t1 :: (gs ++ (ts ++ Rm))) := ok.perm (by
    refine List.Perm.cons _ ?_
    rw [← List.append_assoc, ← List.append_assoc]
    exact (List.perm_append_comm).append_right Rm)
  obtain ⟨Hg, lg, okg, r1⟩ := ok0.fzs n1
  rw [lhss, lhs, bind_assoc] at h
  have e0 : bor (plE p) (gs.map er) .no = bor (plE p) (gs.map er) (ev C (plE p) (gs.map er)) := by cases p <;> rfl
  rw [e0] at h
  have kk : ∀ {Hz : Hp}, Le Hf Hz → PostK G W σ ([.sh t1.rt (fz t1.er)] ++ (ts ++ Rm)) Hz fun r => PostS G W r l0 σ Rm Hf D := fun lz => by
    have := (pk_s (G := G) (W := W) (σ := σ) (Rm := Rm) (Hf := Hf) (l := l0) (D := D)).more (T := [.sh t1.rt (fz t1.er)] ++ ts) lz
    rw [List.append_assoc] at this
    exact this
  refine ⟨gs, [.sh t1.rt (fz t1.er)] ++ (ts ++ Rm), Hg, okg, rel, PostB.mk (kk lg) h fun H2 Hf2 t2 gs2 T2 h5 n2 le2 ok2 he2 rel2 sm2 => ?_⟩
  rw [hef] at sm2
  have sm2 := sm2.nil
  subst sm2
  obtain ⟨k2, hp⟩ := he2
  cases ei : isC t2.er with
  | false => rw [ei] at h5; exact h5.elim
  | true =>
    rw [ei, if_pos rfl, bind_assoc] at h5
    have hg2 : getT p gs2 = t2 ∧ T2 = [] := by
      rcases hp with ⟨_, hp | ⟨v, o, hp⟩⟩ | ⟨rfl, q, hq, hg⟩
      · rw [hpl] at hp; cases hp
      · subst hp
        cases k2 with
        | sh r => cases r <;> cases ei
      · rw [hpl] at hq; cases hq; exact ⟨hg, rfl⟩
    obtain ⟨hg2, rfl⟩ := hg2
    refine ⟨gs2, [] ++ ([.sh t1.rt (fz t1.er)] ++ (ts ++ Rm)), Hf2, ok2, rel2, PostV.mk (kk (lg.trans le2)) h5 fun H3 Hf3 t3 gs3 h6 n3 le3 ok3 rel3 sm3 => ?_⟩
    obtain ⟨Hk, lk, okk, r3⟩ := ok3.fzs n3
    have r1' : RpO G Hk t1.rt (fz t1.er) := (r1.mono le2 |>.mono le3).mono lk
    have hg3 : getT p gs3 = t2 := by
      rw [sm3.2 p fun q hq => List.all_eq_true.mp sp q hq]
      exact hg2
    cases e1 : (fz t3.er).d? with
    | none => simp only [e1] at h6; exact h6.elim
    | some k' =>
      cases e2 : (fz t1.er).d? with
      | none => simp only [e1, e2] at h6; exact h6.elim
      | some d' =>
        simp only [e1, e2] at h6
        cases e3 : setO p k' d' (gs3.map er) with
        | none =>
          have h6 : PostS G W (R.bind (match setO p k' d' (gs3.map er) with | some s => R.ok Fl.nx s | none => .no) fun _ s => lhss C ls (ts.map er) s) l0 σ Rm Hf D := h6
          rw [e3] at h6; exact h6.elim
        | some s' =>
          have h6 : PostS G W (R.bind (match setO p k' d' (gs3.map er) with | some s => R.ok Fl.nx s | none => .no) fun _ s => lhss C ls (ts.map er) s) l0 σ Rm Hf D := h6
          rw [e3] at h6
          have h6 : PostS G W (lhss C ls (ts.map er) s') l0 σ Rm Hf D := h6
          have ok4 : Ok G H3 Hk (gs3 ++ (([.sh t3.rt (fz t3.er)] ++ [.sh t1.rt (fz t1.er)]) ++ (ts ++ Rm))) := by
            rw [List.append_assoc]; exact okk
          have le0 : Le Hf Hk := ((lg.trans le2).trans le3).trans lk
          refine set_post (W := W) (l := []) (D := { nx := fun σ' H' => gNs is (ts.map rt) σ' H' D.nx, rt := D.rt, bk := D.bk, ct := D.ct }) ok4 rel3 hg3 n2 (rpO_d r3 e1) (rpO_d r1' e2) e3 (Le.refl _) ?_
          intro σ' H' Hf' gs' le ok' es' rel' sm'
          subst es'
          refine ⟨by rw [List.length_map]; exact hlen, names_put (G := G) (C := C) (W := W) hn hu ?_ rel' (PostS.back (m := []) h6 (le0.trans le) sm' (fun _ h => nomatch h) hl0)⟩
          refine ok'.perm ?_
          rw [← List.append_assoc, ← List.append_assoc]
          exact (List.perm_append_comm).append_right Rm
theorem snd_parI (gx : GX G X) (hu : X.A.units + 150 < cLine) {p : Pl} {k : E} {po pk : Expr} {pos' : Pos} {ls : List Lh} {is : List Nat} {pr : List Expr} {kt k2 : Nat} (hc : X.calm = true) (ha : PA X pes (tWs G C W es)) (ho : PE X po (tB G C W (plE p))) (hk : PE X pk (tE G C W k)) (sp : (eff k).all (fun q => dj p q) = true)
    (has : ∀ v, assign (.Subscript po pk pos') X.env v = (do let ov ← holding [v] (eval po X.env); let iv ← holding [v, ov] (eval pk X.env); standAt pos'; holding [v, ov, iv] (setItem ov iv v); release [v, ov, iv] []))
    (hn : nmL ls = some is) (hl : es.length = is.length + 1) (hz : es.length ≤ sizeLine) (hg : PGs X pr (gNs is)) (hs2 : (assignEach (.Subscript po pk pos' :: pr) X.env).map (·.2) = assign (.Subscript po pk pos') X.env :: (assignEach pr X.env).map (·.2))
    (hna : (assignEach (.Subscript po pk pos' :: pr) X.env).length = is.length + 1) (hst : (assignEach (.Subscript po pk pos' :: pr) X.env).findIdx? (·.1) = none)
    (hs : swapsWithSole [.Tuple (.Subscript po pk pos' :: pr) kt pt] (.Tuple pes k2 pt2) pos.line X.env = pure false) (hw : swappedStores [.Tuple (.Subscript po pk pos' :: pr) kt pt] (.Tuple pes k2 pt2) X.env = pure none) (h1 : (assignEach [.Tuple (.Subscript po pk pos' :: pr) kt pt] X.env).map (·.2) = [assign (.Tuple (.Subscript po pk pos' :: pr) kt pt) X.env]) :
    PS X (.Assign [.Tuple (.Subscript po pk pos' :: pr) kt pt] (.Tuple pes k2 pt2) pos) (tS G C sub W (.par (.it p k :: ls) es)) := by
  refine (ps_asg (pe_tup ha) (pg_tup hc (pgs_cons (pg_sub ho hk (set_ok gx hu) has) hg hs2) hna hst) hs hw h1).imp fun D σ H h => ?_
  obtain ⟨gs, Rm, Hf, ok, rel, h⟩ := h
  rw [exec, asgs] at h
  have hlen : ∀ (es : List E) (s s' : St) (os : List O), evw C es s = .ok os s' → os.length = es.length := by
    intro es
    induction es with
    | nil => intro s s' os e; rw [evw] at e; cases e; rfl
    | cons a es ih =>
      intro s s' os e
      rw [evw] at e
      cases e1 : ev C a s with
      | no => rw [e1] at e; cases e
      | exc => rw [e1] at e; cases e
      | ok o s1 =>
        rw [e1] at e
        have e : (evw C es s1).bind (fun os s => R.ok (o :: os) s) = .ok os s' := e
        cases e2 : evw C es s1 with
        | no => rw [e2] at e; cases e
        | exc => rw [e2] at e; cases e
        | ok os2 s2 => rw [e2] at e; cases e; rw [List.length_cons, List.length_cons, ih s1 _ os2 e2]
  refine ⟨gs, Rm, Hf, ok, rel, ?_⟩
  cases e : evw C es (gs.map er) with
  | no => rw [e] at h; exact h
  | exc c p s => rw [e] at h; exact fun d H' Hf' gs' le ok' e' rel' x => h d σ H' Hf' gs' le ok' e' rel' (SameS.refl _ _) x
  | ok os s =>
    rw [e] at h
    intro H' Hf' ts gs' hu2 le ok' eo es' rel'
    have hl2 := hlen es _ _ os e
    rw [← eo, List.length_map] at hl2
    subst eo es'
    refine ⟨by rw [List.length_map, hl2]; exact hz, fun p' hp => ⟨p', _, rfl, SqT.of upd_same, by rw [List.length_map, hl2]; exact hl, ?_⟩⟩
    cases ts with
    | nil => rw [← hl2] at hl; cases hl
    | cons t1 ts =>
      refine ⟨t1.rt, ts.map rt, rfl, ?_⟩
      have h : PostS G W (lhss C (.it p k :: ls) ((t1 :: ts).map er) (gs'.map er)) (asgL (.it p k :: ls)) σ Rm Hf D := h
      exact it_put (l0 := asgL (.it p k :: ls)) hn sp (hu2 _ (.head _)) (fun t ht => hu2 t (.tail _ ht)) (by rw [List.length_cons] at hl2; omega) (ok'.newN hp) rel' (PostS.back (m := []) h le (SameS.refl _ _) (fun _ h => nomatch h) fun q hq => hq) (fun q hq => hq)
end
end Lw

set_option autoImplicit false
set_option linter.all false
set_option Elab.async false
set_option maxRecDepth 100000
set_option maxHeartbeats 1000000
/-! LSnd32: range with the step -1. -/
namespace Lw
open PySem PySem.Spec PyProof.Rows L2
open Gt

section
variable {G : Gx} {C : Cf} {W : WX} {X : Cx} {a b c : E} {pa pb pc ptg : Expr} {p pos : Pos}
theorem walks_down {Hf : Hp} (lo : Int) (n : Nat) : Walks G Hf (Itc lo (-1) n) (rangeD lo (-1) n) := by
  refine walks_int _ _ (fun i => lo + (i : Nat) * (-1)) (fun i H hl => by rw [rangeD_len] at hl; exact hl) (fun i H hl => by rw [rangeD_len] at hl; exact hl) (fun i H x H' h => h) fun i hl => ?_
  rw [rangeD_len] at hl
  rw [rangeD_get (-1) n lo i hl]
theorem snd_range3 (hg : Gl X "range") (hm : X.mg "range" = none) (ha : PA X [pa, pb, pc] (tEs G C W [a, b, c])) (hs : starEach [pa, pb, pc] X.env = (false, eval pa X.env) :: starEach [pb, pc] X.env) (hpl : (backTo pos (starEach [pb, pc] X.env)).any (·.1) = false) : PI X ptg (.Call (.Name "range" p) [pa, pb, pc] [] pos) (tI G C W (.itr .range3 [a, b, c])) := by
  refine (pi_range3 hg hm ha hs hpl).imp fun σ H Z h => args_i h fun H2 Hf2 vs ds xs ts r e ok w => ?_
  cases r with
  | nil => cases e
  | cons r1 r =>
    cases r with
    | nil => cases r1 <;> cases e
    | cons r2 r =>
      cases r with
      | nil => cases r1 <;> cases r2 <;> cases e
      | cons r3 r =>
        cases r with
        | cons r4 r => cases r1 <;> cases r2 <;> cases r3 <;> first | cases e | (rename_i k; cases k <;> first | cases e | (rename_i k; cases k <;> cases e))
        | nil =>
          cases r1 <;> cases r2 <;> first | cases e | skip
          case int.int i j =>
            cases r3 <;> first | cases e | skip
            case int k =>
              by_cases hk : k = -1
              · subst hk
                have e : (if (small i && small j && szOk (i - j).toNat) = true then some (rangeD i (-1) (i - j).toNat) else none) = some xs := e
                obtain ⟨c, e⟩ := ite_some e
                cases e
                rw [Bool.and_eq_true, Bool.and_eq_true] at c
                obtain ⟨b1, b2⟩ := small_b c.1.1
                obtain ⟨b3, b4⟩ := small_b c.1.2
                exact ⟨i, j, -1, _, rfl, RgC.neg b1 b2 b3 b4, w _ (walks_down i _)⟩
              · exfalso
                cases k with
                | ofNat n => cases e
                | negSucc n =>
                  cases n with
                  | zero => exact hk rfl
                  | succ n => cases e
end
end Lw

set_option autoImplicit false
set_option linter.all false
set_option Elab.async false
set_option maxRecDepth 100000
set_option maxHeartbeats 1000000
/-! LSnd33: d.pop(k, x); list(d.values()); a, b = a tuple that holds an instance. -/
namespace Lw
open PySem PySem.Spec PyProof.Rows L2
open Gt

section
variable {G : Gx} {C : Cf} {W : WX} {X : Cx} {sub : Nat → Nat → Bool} {H Hf : Hp}
/-! ### pop -/
theorem Rpk.find_k (k : Key) : ∀ {kvs : List (Key × V)} {ds : List (D × D)}, Rpk G Hf (kvs.map fun p => (keyD p.1, p.2)) ds → (valV kvs k = none ∧ dget ds (keyD k) = none) ∨ ∃ v d, valV kvs k = some v ∧ dget ds (keyD k) = some d ∧ Rp G Hf v d
  | [], _, r => by cases r; exact .inl ⟨rfl, rfl⟩
  | (k1, v1) :: kvs, _, r => by
    rw [List.map_cons] at r
    cases r with
    | @cons _ _ _ d1 ds r1 r2 =>
      have ih := Rpk.find_k k r2
      by_cases h : k1 = k
      · refine .inr ⟨v1, d1, valV_pos h, ?_, r1⟩
        unfold dget
        rw [List.find?_cons]
        simp only [eqv_key]
        rw [decide_eq_true h]; rfl
      · rw [valV_neg (p := (k1, v1)) h]
        have e : dget ((keyD k1, d1) :: ds) (keyD k) = dget ds (keyD k) := by
          unfold dget
          rw [List.find?_cons]
          simp only [eqv_key]
          rw [decide_eq_false h]
        rw [e]
        exact ih
theorem Rpk.drop_k (k : Key) : ∀ {kvs : List (Key × V)} {ds : List (D × D)}, Rpk G Hf (kvs.map fun p => (keyD p.1, p.2)) ds → Rpk G Hf ((dropK kvs k).map fun p => (keyD p.1, p.2)) (dout ds (keyD k))
  | [], _, r => by cases r; exact .nil
  | (k1, v1) :: kvs, _, r => by
    rw [List.map_cons] at r
    cases r with
    | @cons _ _ _ d1 ds r1 r2 =>
      have ih := Rpk.drop_k k r2
      unfold dropK dout at *
      rw [List.filter_cons, List.filter_cons]
      simp only [eqv_key]
      by_cases h : k1 = k
      · rw [if_neg (by simp [h]), if_neg (by simp [h])]; exact ih
      · rw [if_pos (by simp [h]), if_pos (by simp [h])]; exact .cons r1 ih
/-- what d.pop(k, x) is to do -/
def rPopD (G : Gx) : V → List V → Hp → VK → Prop := fun x vs H Q => ∃ (t : Gt) (ds : List D) (o1 o2 : O) (Hf : Hp), x = t.rt ∧ Le Hf H ∧ OkT G H Hf t ∧ Rps G Hf vs ds ∧ muD .dpopD t.er ds = some (o1, o2) ∧
  (∀ (a : Addr) (ob : HO) (u : Gt) (v : V), a ∈ t.ads → OkT G (upd H a ob) Hf u → u ≠ .un → u.ads = t.ads → u.rt = t.rt → u.er = o2 → RpO G Hf v o1 → Q v (upd H a ob)) ∧ (o2 = t.er → ∀ v, RpO G Hf v o1 → Q v H)
theorem mk_popD : MuK G X .dpopD (rPopD G) := fun t vs ds o1 o2 H Hf Q l k ty r e h1 h2 => ⟨t, ds, o1, o2, Hf, rfl, l, k, r, e, h1, h2⟩
theorem popD_ty (gx : GX G X) (t : Gt) (H Hf : Hp) (l : Le Hf H) (k : OkT G H Hf t) (h : muTy .dpopD t.er = true) : TyX X "dict" t.rt H := by
  cases e : t.er with
  | dct ds => exact dict_ty gx l (k.top l (d := .dict ds) (by rw [e]; rfl))
  | _ => rw [e] at h; cases h
theorem popD_none (gx : GX G X) {pins : List (Addr × Obj)} {s : Shared} {σ : L2.St} {a : Addr} {k : Key} {u r : Value} {A : Around} {E : Value → Shared → Prop} {Q : Value → Shared → Prop} (I : Inv X pins σ H s) (hd : (a == sysModules) = false) (dd : s.heap.DictOf (mixKind X.prog X.w) a []) (ry : RelV (kV k) u) (h : ∀ s', Inv X pins σ H s' → Q r s') :
    wpAny (model X.prog X.w) A (call (.builtin "dict.pop") [.ref a, u, r]) Q E s := by
  have hp : (keyPart u).isSome = true := by
    cases k with
    | inl i => obtain ⟨t, q⟩ := (show ∃ t, u = Value.int i t from ry); subst q; rfl
    | inr x => obtain ⟨t, q⟩ := (show ∃ t, u = Value.str x t from ry); subst q; rfl
  exact call_meetsIn PySem.F.slot_dict_pop dd.typeIs PySem.F.entry_dict_pop (PySem.F.args_dict_pop_3 _ _ _) (meets_dict_pop_default (mixKind X.prog X.w) a (kV_is ry) hd hp r) ⟨[], dd, rfl, h _ (I.tok _)⟩
theorem mt_popD (gx : GX G X) : MtR X "dict.pop" (rPopD G) := by
  intro pins s σ H x xs v us Q I rx rv ⟨t, ds, o1, o2, Hf, ex, l, kt, r, e, h1, h2⟩
  subst ex
  cases r with
  | nil => cases e1 : t.er <;> (rw [e1] at e; cases e)
  | @cons y ys k ks r1 r =>
    cases r with
    | nil => cases e1 : t.er <;> (rw [e1] at e; cases e)
    | @cons z zs d ks r2 r =>
      cases r with
      | cons => cases e1 : t.er <;> (rw [e1] at e; cases e)
      | nil =>
        obtain ⟨u, w, rfl, ru, rw'⟩ := vals2 rv
        cases kt with
        | @dK a kvs ds hH rk =>
          cases rx
          have e : (if (kOk ds k && !tupK k) = true then (match dget ds k with | some v => some (O.dat v, O.dct (dout ds k)) | none => some (O.dat d, O.dct ds)) else none) = some (o1, o2) := e
          obtain ⟨c, e⟩ := ite_some e
          rw [Bool.and_eq_true, Bool.not_eq_true'] at c
          obtain ⟨κ, rfl, rfl⟩ := scal_key (r1.top l) (kOk_top c.1).1 c.2
          rcases rk.find_k κ with ⟨e1, e2⟩ | ⟨v1, d1, e1, e2, r3⟩
          · rw [e2] at e
            cases e
            exact d_popD I hH ru e1 fun s' I' => ⟨z, H, I', rw', h2 rfl z (.dat r2)⟩
          · rw [e2] at e
            cases e
            exact d_pop I hH ru e1 (.inr ⟨w, rfl⟩) fun w' s' I' r' => ⟨v1, _, I', r', h1 a _ (.dK a (dropK kvs κ) (dout ds (keyD κ))) v1 (.head _) (.dK upd_same (rk.drop_k κ)) (fun e => by cases e) rfl rfl rfl (.dat r3)⟩
        | @dT a xs ds hH rt rk =>
          cases rx
          have e : (if (kOk ds k && !tupK k) = true then (match dget ds k with | some v => some (O.dat v, O.dct (dout ds k)) | none => some (O.dat d, O.dct ds)) else none) = some (o1, o2) := e
          obtain ⟨c, e9⟩ := ite_some e
          clear e
          rw [Bool.and_eq_true, Bool.not_eq_true'] at c
          obtain ⟨κ, rfl, rfl⟩ := scal_key (r1.top l) (kOk_top c.1).1 c.2
          rcases Rpk.head_t rt rk with ⟨rfl, rfl⟩ | ⟨p, q, e1, e2⟩
          · obtain ⟨zz, hd, nd, us, pr, dd⟩ := dT_at gx I l hH rt
            cases pr
            have e8 : some (O.dat d, O.dct []) = some (o1, o2) := e9
            cases e8
            exact popD_none gx I hd (empty_k dd) ru fun s' I' => ⟨z, H, I', rw', h2 rfl z (.dat r2)⟩
          · have := (kOk_top c.1).2.2 p q e1
            rw [c.2, e2] at this
            cases this
        | sh r => cases r <;> cases e
        | lst => cases e
        | un => cases e
        | ins => cases e

/-! ### list(d.values()) -/
theorem vals_ix : ∀ {vs : List V} {us : List Value}, vs.length = us.length → (∀ (i : Nat) (v : V) (u : Value), vs[i]? = some v → us[i]? = some u → RelV v u) → Vals vs us
  | [], [], _, _ => .nil
  | v :: vs, u :: us, h, k => .cons (k 0 v u rfl rfl) (vals_ix (by simpa using h) fun i a b e1 e2 => k (i + 1) a b e1 e2)
  | [], _ :: _, h, _ => nomatch h
  | _ :: _, [], h, _ => nomatch h
theorem KV.get {kvs : List (Key × V)} {vs : List (Key × Value)} (r : KV kvs vs) {i : Nat} {p : Key × V} (h : kvs[i]? = some p) : ∃ u, vs[i]? = some (p.1, u) ∧ RelV p.2 u := by
  induction r generalizing i with
  | nil => cases h
  | @cons a b l1 l2 q qs ih =>
    cases i with
    | zero =>
      cases h
      obtain ⟨q1, q2⟩ := q
      exact ⟨b.2, by rw [q1]; rfl, q2⟩
    | succ i => exact ih h
theorem XU.get {xs : List (NestedKey × Addr × V)} {us : List (NestedKey × Addr × Value)} (r : XU xs us) {i : Nat} {p : NestedKey × Addr × V} (h : xs[i]? = some p) : ∃ u, us[i]? = some u ∧ RelV p.2.2 u.2.2 := by
  induction r generalizing i with
  | nil => cases h
  | @cons a b l1 l2 q qs ih =>
    cases i with
    | zero =>
      cases h
      exact ⟨b, rfl, q.2.2⟩
    | succ i => exact ih h
theorem Rpk.vals : ∀ {ks : List (D × V)} {ds : List (D × D)}, Rpk G Hf ks ds → Rps G Hf (ks.map (·.2)) (ds.map (·.2))
  | _, _, .nil => .nil
  | _, _, .cons a b => .cons a (Rpk.vals b)
/-- a dict as its entries -/
def RawV (h : Heap) (a : Addr) (vs : List V) : Prop := (a == sysModules) = false ∧ vs.length ≤ sizeLine ∧ ∃ (es : Array DictEntry) (ep : Nat), h.DictRaw a es ep ∧ es.size = vs.length ∧ ∀ (i : Nat) (hi : i < es.size) (v : V), vs[i]? = some v → RelV v es[i].val
theorem RpT.raw (gx : GX G X) {pins : List (Addr × Obj)} {s : Shared} {σ : L2.St} (I : Inv X pins σ H s) (l : Le Hf H) {x : V} {ds : List (D × D)} (r : RpT G H Hf x (.dict ds)) : ∃ a vs, x = .ref a ∧ RawV s.heap a vs ∧ Rps G Hf vs (ds.map (·.2)) := by
  have key : ∀ (a : Addr) (kvs : List (Key × V)) (vs : List (Key × Value)), kvs.length ≤ sizeLine → (a == sysModules) = false → KV kvs vs → s.heap.DictOf (mixKind X.prog X.w) a vs → RawV s.heap a (kvs.map (·.2)) := by
    intro a kvs vs z hd rel dd
    obtain ⟨es, ep, h1, h2, h3⟩ := dd.raw
    refine ⟨hd, by rw [List.length_map]; exact z, es, ep, h1, by rw [h2, List.length_map, rel.length], fun i hi v hv => ?_⟩
    rw [List.getElem?_map] at hv
    cases e : kvs[i]? with
    | none => rw [e] at hv; cases hv
    | some p =>
      rw [e] at hv
      cases hv
      obtain ⟨u, e1, e2⟩ := KV.get rel e
      rw [(h3 i hi p.1 u e1).2]
      exact e2
  cases r with
  | @dK a kvs ds hH rr =>
    obtain ⟨z, hd, vs, rel, dd⟩ := dk_of I.hok hH
    refine ⟨a, _, rfl, key a kvs vs z hd rel dd, ?_⟩
    have := rr.vals
    rw [List.map_map] at this
    exact this
  | @dW a kvs ds w rr =>
    obtain ⟨z, hd, vs, rel, dd⟩ := w
    have dd := dd s.heap (gx.k ▸ I.kIn)
    rw [← gx.p, ← gx.w] at dd
    refine ⟨a, _, rfl, key a kvs vs z hd rel dd, ?_⟩
    have := rr.vals
    rw [List.map_map] at this
    exact this
  | @dT a xs ds hH rt rr =>
    obtain ⟨z, hd, nd, us, pr, dd⟩ := dT_at gx I l hH rt
    obtain ⟨es, ep, h1, h2, h3⟩ := dd.raw
    refine ⟨a, xs.map (·.2.2), rfl, ⟨hd, by rw [List.length_map]; exact z, es, ep, h1, by rw [h2, List.length_map, Paired.length pr], fun i hi v hv => ?_⟩, ?_⟩
    · rw [List.getElem?_map] at hv
      cases e : xs[i]? with
      | none => rw [e] at hv; cases hv
      | some p =>
        rw [e] at hv
        cases hv
        obtain ⟨u, e1, e2⟩ := XU.get pr e
        obtain ⟨y, e3, _, e4, _⟩ := h3 i hi
        rw [e1] at e3
        cases e3
        rw [e4]
        exact e2
    · have := rr.vals
      rw [List.map_map] at this
      exact this
theorem RpT.up {p : Addr} {ob : HO} {x : V} {d : D} (hp : H p = none) (r : RpT G H Hf x d) : RpT G (upd H p ob) Hf x d := by
  have k : Le H (upd H p ob) := fun a o e => by
    rw [upd_ne (fun z => by subst z; rw [hp] at e; cases e)]; exact e
  cases r with
  | non => exact .non
  | bl b => exact .bl b
  | int i => exact .int i
  | str x => exact .str x
  | lst a b => exact .lst (k.sqL a) b
  | tup a b => exact .tup a b
  | dK a b => exact .dK (k _ _ a) b
  | dW a b => exact .dW a b
  | dT a b c => exact .dT (k _ _ a) b c
/-- e.values() -/
def tVals (G : Gx) (t : TE) : TE := fun σ H Q => t σ H fun x H1 => ∃ (ds : List (D × D)) (Hf : Hp), Le Hf H1 ∧ RpT G H1 Hf x (.dict ds) ∧ ∀ p a, x = .ref a → H1 p = none → Q (.ref p) (upd H1 p (viewO "dict_values" p a))
theorem pe_vals (gx : GX G X) {e : Expr} {t : TE} {apos cpos : Pos} (he : PE X e t) (hbase : attributeBase e "values" X.env (eval e X.env) = eval e X.env) (hline : (apos.endLine == cpos.line) = true) : PE X (.Call (.Attribute e "values" apos) [] [] cpos) (tVals G t) := by
  refine ⟨fun pins s σ H Q I h => ?_⟩
  refine wpAny_Call_method (T := "dict") (id := "dict.values") hbase rfl hline F.plainAttrs_dict F.slot_dict_values F.type_dict_values (thn (he.run pins s σ H _ I h) fun u s1 ⟨x, H1, I1, rx, ds, Hf, l, rt, q⟩ => ?_)
  obtain ⟨a, vs, rfl, ⟨hs, z, es, ep, raw, _, _⟩, _⟩ := rt.raw gx I1 l
  obtain rfl : u = Value.ref a := rx
  refine ⟨raw.typeIs, (fun b eb => by cases eb; obtain ⟨ob, h1, h2, _⟩ := raw; exact ⟨ob, h1, h2.2.1⟩), ?_⟩
  show wpAny _ _ (callWith cpos (.builtin "dict.values") [.ref a] [] []) _ X.xe s1
  refine method_meetsIn F.slot_dict_values F.entry_dict_values rfl (PySem.evalArgs_none ⟨rfl, raw.typeIs, F.args_dict_values_1 _, _, meets_dict_values_raw a hs, ⟨es, ep, raw⟩, ?_⟩)
  exact ⟨.ref s1.heap.objs.size, _, I1.laid (t' := s1.toks) (fun b o q => Heap.get?_push_of_some _ q) (Nat.le_refl _) (viewO_ok (Heap.get?_push_size _ rfl)), rfl, q _ a rfl (I1.hok.fresh (Nat.le_refl _))⟩
def rLV (G : Gx) : List V → Hp → VK → Prop := fun xs H Q => ∃ (p a : Addr) (ds : List (D × D)) (Hf : Hp) (ts : List Gt), xs = [.ref p] ∧ H p = some (viewO "dict_values" p a) ∧ Ok G H Hf ts ∧ RpT G H Hf (.ref a) (.dict ds) ∧ PostO G Hf ts (some (.lst (ds.map (·.2)))) Q
theorem call_list_vals (gx : GX G X) (hc : X.calm = true) : CallR X (.type "list") (rLV G) := by
  intro pins s σ H xs us Q I r ⟨p, a, ds, Hf, ts, ex, hp, ok, rt, po⟩
  subst ex
  obtain ⟨u, rfl, ru⟩ := vals1 r
  obtain rfl : u = Value.ref p := ru
  have hv : s.heap.get? p = some (DSub.viewOb "dict_values" a) := (show ObjOk X.prog X.w H s.heap p (viewO "dict_values" p a) from I.hok p _ hp).1
  obtain ⟨a', vs, ea, ⟨hs, z, es, ep, raw, hsz, hval⟩, rps⟩ := rt.raw gx I ok.le
  cases ea
  refine PySem.W.kdl_call (KdlSrc.rawValues (r := p) (d := a) (es := es) (ep := ep)) (I.ok.hd hc) ⟨⟨_, hv, rfl, rfl⟩, raw⟩ (by omega) fun h' tk acc' c' hk hS hacc => ?_
  refine ⟨.ref _, _, I.laid (t' := tk) hk (Nat.le_refl _) (show ObjOk X.prog X.w _ h' _ (.lst vs) from ⟨z, acc'.toList, c', vals_ix (by have := hacc.1; show vs.length = acc'.toList.length; rw [Array.length_toList (xs := acc')]; omega) fun i v u e1 e2 => ?_, hS⟩), rfl, po.lst ok (Le.refl _) (I.hok.fresh (Nat.le_refl _)) rps⟩
  rw [Array.getElem?_toList] at e2
  obtain ⟨hi, e⟩ := hacc.2 i u e2
  rw [e]
  exact hval i hi v e1
theorem vals_post {a : E} {σ : L2.St} {Q : VK} (h0 : tE G C W (.bs .list (.itr .values [a])) σ H Q) : tCB (rLV G) (fun σ H K => tVals G (tB G C W a) σ H fun v H1 => K [v] H1) σ H Q := by
  obtain ⟨gs, Rm, Hf, ok, rel, h⟩ := h0
  rw [ev, eff, effS, effs, effs, List.append_nil] at h
  refine one_b ok rel h fun H2 Hf2 t gs2 h n le ok2 k1 rel2 sm => ?_
  have h := h.toO le rel2 sm
  cases e1 : t.er.d? with
  | none => rw [e1] at h; exact h.elim
  | some d =>
    rw [e1] at h
    cases d with
    | dict ds =>
      have rt := k1.top ok2.le e1
      refine ⟨ds, Hf2, ok2.le, rt, fun p a ea hp => ?_⟩
      exact ⟨p, a, ds, Hf2, gs2 ++ Rm, rfl, upd_same, ok2.newN hp, by rw [← ea]; exact rt.up hp, h⟩
    | _ => exact h.elim
theorem snd_listvals {pa : Expr} {a : E} {p pos cpos apos : Pos} (gx : GX G X) (hc : X.calm = true) (hg : Gl X "list") (hm : X.mg "list" = none) (ha : PE X pa (tB G C W a)) (hbase : attributeBase pa "values" X.env (eval pa X.env) = eval pa X.env) (hline : (apos.endLine == cpos.line) = true)
    (he : starEach [.Call (.Attribute pa "values" apos) [] [] cpos] X.env = (false, eval (.Call (.Attribute pa "values" apos) [] [] cpos) X.env) :: starEach [] X.env) (hpl : (backTo pos (starEach [] X.env)).any (·.1) = false) :
    PE X (.Call (.Name "list" p) [.Call (.Attribute pa "values" apos) [] [] cpos] [] pos) (tE G C W (.bs .list (.itr .values [a]))) :=
  (pe_callTy (call_list_vals gx hc) hg hm rfl (pa_cons (pe_vals gx ha hbase hline) pa_nil he) (by decide) (by decide) he hpl).imp fun σ H Q h => vals_post h

/-! ### a, b = a tuple that holds an instance -/
theorem setL_rel : ∀ {is : List Nat} {us : List Gt} {gs Rm : List Gt} {σ : L2.St} {os : List O}, us.length = is.length → us.map er = os → (∀ t ∈ us, t ≠ .un) → Ok G H Hf (us ++ (gs ++ Rm)) → Rel σ gs → ∃ gs', Ok G H Hf (gs' ++ Rm) ∧ gs'.map er = setOs is os (gs.map er) ∧ Rel (setL is (us.map rt) σ) gs' ∧ SameS is σ (setL is (us.map rt) σ)
  | [], [], gs, Rm, σ, _, _, rfl, _, ok, rel => ⟨gs, ok, rfl, rel, SameS.refl _ _⟩
  | i :: is, u :: us, gs, Rm, σ, _, hl, rfl, hu, ok, rel => by
    have ok3 : Ok G H Hf (u :: (gs ++ (us ++ Rm))) := ok.perm (by
      refine List.Perm.cons _ ?_
      show (gs ++ (us ++ Rm)).Perm (us ++ (gs ++ Rm))
      rw [← List.append_assoc, ← List.append_assoc]
      exact (List.perm_append_comm).append_right Rm)
    have ok4 : Ok G H Hf (us ++ (gs.set i u ++ Rm)) := (ok3.putS i).perm (by
      rw [← List.append_assoc, ← List.append_assoc]
      exact (List.perm_append_comm).append_right Rm)
    obtain ⟨gs', h1, h2, h3, h4⟩ := setL_rel (is := is) (us := us) (gs := gs.set i u) (Rm := Rm) (σ := σ.set i (some u.rt)) (by simpa using hl) rfl (fun t ht => hu t (.tail _ ht)) ok4 (rel.set i rfl)
    refine ⟨gs', h1, ?_, h3, ?_⟩
    · rw [h2, map_set_er]; rfl
    · exact ((SameS.set σ i (some u.rt)).trans h4).weak fun q hq => hq
  | [], _ :: _, _, _, _, _, h, _, _, _, _ => nomatch h
  | _ :: _, [], _, _, _, _, h, _, _, _, _ => nomatch h
theorem paired_ix {α β : Type} {F : α → β → Prop} : ∀ {xs : List α} {ys : List β}, xs.length = ys.length → (∀ (i : Nat) (y : β) (x : α), ys[i]? = some y → xs[i]? = some x → F x y) → Paired F xs ys
  | [], [], _, _ => .nil
  | x :: xs, y :: ys, h, k => .cons (k 0 y x rfl rfl) (paired_ix (by simpa using h) fun i a b e1 e2 => k (i + 1) a b e1 e2)
  | [], _ :: _, h, _ => nomatch h
  | _ :: _, [], h, _ => nomatch h
theorem snd_unpO {pa : Expr} {a : E} {pos pt : Pos} {is : List Nat} {pr : List Expr} {kt : Nat} (hc : X.calm = true) (gx : GX G X) (ha : PE X pa (tE G C W a)) (hg : PGs X pr (gNs is)) (hna : (assignEach pr X.env).length = is.length) (hst : (assignEach pr X.env).findIdx? (·.1) = none)
    (hs : swapsWithSole [.Tuple pr kt pt] pa pos.line X.env = pure false) (hw : swappedStores [.Tuple pr kt pt] pa X.env = pure none) (h1 : (assignEach [.Tuple pr kt pt] X.env).map (·.2) = [assign (.Tuple pr kt pt) X.env]) :
    PS X (.Assign [.Tuple pr kt pt] pa pos) (tS G C sub W (.unpO is a)) := by
  refine (ps_asg ha (pg_tup hc hg hna hst) hs hw h1).imp fun D σ H h => ?_
  obtain ⟨gs, Rm, Hf, ok, rel, h⟩ := h
  rw [exec, asgs] at h
  refine ⟨gs, Rm, Hf, ok, rel, ?_⟩
  cases e : ev C a (gs.map er) with
  | no => rw [e] at h; exact h
  | exc c p s => rw [e] at h; exact fun d H' Hf' gs' le ok' e' rel' x => h d σ H' Hf' gs' le ok' e' rel' (SameS.refl _ _) x
  | ok o s =>
    rw [e] at h
    intro H' Hf' t gs' nt le ok' et es' rel' sm
    subst et es'
    cases t with
    | sh v o =>
      cases ok'.ok _ (.head _) with
      | sh r =>
        cases r with
        | @tpo a vs os hq hl hr =>
          have h : PostS G W (if os.length = is.length then .ok .nx (setOs is os (gs'.map er)) else .no) is σ Rm Hf D := h
          by_cases hln : os.length = is.length
          · rw [if_pos hln] at h
            have pr : Paired (RpO G Hf') vs os := paired_ix hl hr
            obtain ⟨us, k1, k2, k3, k4, k5⟩ := shs_ok ok'.drop pr
            obtain ⟨gs2, m1, m2, m3, m4⟩ := setL_rel (G := G) (is := is) (us := us) (gs := gs') (Rm := Rm) (σ := σ) (os := os) (by omega) k3 k4 k1 rel'
            rw [k2] at m3 m4
            refine ⟨a, vs, rfl, gx.k ▸ ok'.le.sqT hq, by omega, by omega, ?_⟩
            exact h _ _ Hf' gs2 le m1 m2 m3 m4
          · rw [if_neg hln] at h; exact h.elim
        | _ => exact h.elim
    | _ => exact h.elim
end
end Lw

set_option autoImplicit false
set_option linter.all false
set_option Elab.async false
set_option maxRecDepth 100000
set_option maxHeartbeats 1000000
/-! LSnd35: tuple(range(..)), list(range(..)). -/
namespace Lw
open PySem PySem.Spec PyProof.Rows L2
open Gt

section
variable {G : Gx} {C : Cf} {W : WX} {X : Cx} {pa pb : Expr} {a b : E} {p p2 pos pos2 : Pos}
theorem prgA1 {ta : TA} (hg : Gl X "range") (hm : X.mg "range" = none) (ha : PA X [pa] ta) (hs : starEach [pa] X.env = (false, eval pa X.env) :: starEach [] X.env) : PRg X (.Call (.Name "range" p) [pa] [] pos) (fun σ H Q => ta σ H fun vs H1 => ∃ n, vs = [.int n] ∧ Q 0 n H1) := by
  intro pins s σ H Q I h
  refine Call_ (ld_blt I hg hm boot_range (PyProof.Rows.callWith_type1 (thn (ha.run pos pins s σ H _ I h) fun us s1 ⟨vs, H1, I1, r1, q1⟩ => ?_) hs rfl))
  obtain ⟨n, rfl, q⟩ := q1
  obtain ⟨u, rfl, ⟨t, rfl⟩⟩ := vals1 r1
  exact call_range_1 ⟨_, 0, n, _, _, _, H1, rfl, IsRange.new _ _ _ _ _ _ _, I1.kept fun c o e => Heap.get?_push_of_some _ e, q⟩
theorem prgA2 {ta : TA} (hg : Gl X "range") (hm : X.mg "range" = none) (ha : PA X [pa, pb] ta) (hs : starEach [pa, pb] X.env = (false, eval pa X.env) :: starEach [pb] X.env) (hpl : (backTo pos (starEach [pb] X.env)).any (·.1) = false) : PRg X (.Call (.Name "range" p) [pa, pb] [] pos) (fun σ H Q => ta σ H fun vs H1 => ∃ i j, vs = [.int i, .int j] ∧ Q i j H1) := by
  intro pins s σ H Q I h
  refine Call_ (ld_blt I hg hm boot_range (PyProof.Rows.callWith_type1 (thn (ha.run pos pins s σ H _ I h) fun us s1 ⟨vs, H1, I1, r1, q1⟩ => ?_) hs hpl))
  obtain ⟨i, j, rfl, q⟩ := q1
  obtain ⟨u, v, rfl, ⟨t, rfl⟩, ⟨t', rfl⟩⟩ := vals2 r1
  exact call_range_2 ⟨_, i, j, _, _, _, H1, rfl, IsRange.new _ _ _ _ _ _ _, I1.kept fun c o e => Heap.get?_push_of_some _ e, q⟩
/-- what a built-in function gives of what is walked -/
theorem post_bsI (f : Bs) (k : Itk) {es : List E} (hk : k ≠ .values) {σ : L2.St} {H : Hp} {Q : VK} {K : List V → Hp → Prop} (h0 : tE G C W (.bs f (.itr k es)) σ H Q)
    (hK : ∀ (H1 Hf : Hp) (ys : List V) (ds xs : List D) (ts : List Gt), Rps G Hf ys ds → itrD k ds = some xs → Ok G H1 Hf ts → PostO G Hf ts (bsD f xs) Q → K ys H1) : tEs G C W es σ H K := by
  obtain ⟨gs, Rm, Hf, ok, rel, h⟩ := h0
  rw [ev, eff, effS] at h
  · refine args_e ok rel h fun H2 Hf2 vs os gs2 hl h le ok2 pr rel2 sm => ?_
    cases e1 : dsOf os with
    | none => simp only [e1] at h; exact h.elim
    | some ds =>
      simp only [e1, Option.bind] at h
      cases e2 : itrD k ds with
      | none => rw [e2] at h; exact h.elim
      | some xs =>
        rw [e2] at h
        exact hK H2 Hf2 vs ds xs (gs2 ++ Rm) (rps_of pr e1) e2 ok2 (h.toO le rel2 sm)
  · intro a e1 e2; exact absurd e1 hk
theorem two_of {Hf : Hp} {ys : List V} {ds xs : List D} (r : Rps G Hf ys ds) (e : itrD .range2 ds = some xs) : ∃ i j : Int, ys = [.int i, .int j] ∧ (small i && small j && szOk (j - i).toNat) = true ∧ xs = rangeD i 1 (j - i).toNat := by
  cases r with
  | nil => cases e
  | cons r1 r =>
    cases r with
    | nil => cases r1 <;> cases e
    | cons r2 r =>
      cases r with
      | cons r3 r => cases r1 <;> cases r2 <;> cases e
      | nil =>
        cases r1 <;> cases r2 <;> first | cases e | skip
        case int.int i j =>
          have e : (if (small i && small j && szOk (j - i).toNat) = true then some (rangeD i 1 (j - i).toNat) else none) = some xs := e
          obtain ⟨c, e⟩ := ite_some e
          cases e
          exact ⟨i, j, rfl, c, rfl⟩
theorem one_of {Hf : Hp} {ys : List V} {ds xs : List D} (r : Rps G Hf ys ds) (e : itrD .range1 ds = some xs) : ∃ j : Int, ys = [.int j] ∧ (small 0 && small j && szOk (j - 0).toNat) = true ∧ xs = rangeD 0 1 (j - 0).toNat := by
  cases r with
  | nil => cases e
  | cons r1 r =>
    cases r with
    | cons r2 r => cases r1 <;> cases r2 <;> cases e
    | nil =>
      cases r1 <;> first | cases e | skip
      case int j =>
        have e : (if (small j && szOk j.toNat) = true then some (rangeD 0 1 j.toNat) else none) = some xs := e
        obtain ⟨c, e⟩ := ite_some e
        cases e
        have e0 : j - 0 = j := Int.sub_zero j
        rw [Bool.and_eq_true] at c
        exact ⟨j, rfl, by rw [e0, c.1, c.2]; rfl, by rw [e0]⟩
theorem rgV_D {Hf : Hp} (i : Int) (n : Nat) (j : Int) (hn : n = (j - i).toNat) : Rps G Hf (rgV i j) (rangeD i 1 n) := by
  subst hn
  have e : rangeD i 1 (j - i).toNat = (List.range (j - i).toNat).map fun (k : Nat) => PyData.int (i + (k : Nat)) := by
    apply List.ext_getElem?
    intro k
    by_cases h : k < (j - i).toNat
    · rw [rangeD_get 1 _ i k h, List.getElem?_map, List.getElem?_range h, Int.mul_one]; rfl
    · rw [List.getElem?_eq_none (by rw [rangeD_len]; omega), List.getElem?_eq_none (by rw [List.length_map, List.length_range]; omega)]
  rw [e]
  unfold rgV
  generalize List.range (j - i).toNat = l
  induction l with
  | nil => exact .nil
  | cons k l ih => exact .cons (.int _) ih
theorem small_rg {i j : Int} (h : (small i && small j && szOk (j - i).toNat) = true) : RgOk i j := by
  rw [Bool.and_eq_true, Bool.and_eq_true] at h
  obtain ⟨b1, b2⟩ := small_b h.1.1
  obtain ⟨b3, b4⟩ := small_b h.1.2
  have b5 := of_decide_eq_true h.2
  rw [sizeLine_eq] at b5
  exact ⟨b1, b2, b3, b4, by omega⟩
section
variable (hc : X.calm = true) (hg2 : Gl X "range") (hm2 : X.mg "range" = none) (hs : starEach [pa, pb] X.env = (false, eval pa X.env) :: starEach [pb] X.env) (hpl : (backTo pos (starEach [pb] X.env)).any (·.1) = false)
  (na : starEach [.Call (.Name "range" p) [pa, pb] [] pos] X.env = (false, eval (.Call (.Name "range" p) [pa, pb] [] pos) X.env) :: starEach [] X.env)
include hc hg2 hm2 hs hpl na
theorem snd_tupRg2 (hg : Gl X "tuple") (hm : X.mg "tuple" = none) (ha : PA X [pa, pb] (tEs G C W [a, b])) : PE X (.Call (.Name "tuple" p2) [.Call (.Name "range" p) [pa, pb] [] pos] [] pos2) (tE G C W (.bs .tuple (.itr .range2 [a, b]))) :=
  (pe_tupRg hc hg hm (prgA2 hg2 hm2 ha hs hpl) na).imp fun σ H Q h => post_bsI .tuple .range2 (by decide) h fun H1 Hf ys ds xs ts r e ok p => by
    obtain ⟨i, j, rfl, c, rfl⟩ := two_of r e
    exact ⟨i, j, rfl, small_rg c, fun q hq => PostO.tup (ds := rangeD i 1 (j - i).toNat) p ok (Le.refl _) hq (rgV_D i _ j rfl)⟩
theorem snd_lstRg2 (hg : Gl X "list") (hm : X.mg "list" = none) (ha : PA X [pa, pb] (tEs G C W [a, b])) : PE X (.Call (.Name "list" p2) [.Call (.Name "range" p) [pa, pb] [] pos] [] pos2) (tE G C W (.bs .list (.itr .range2 [a, b]))) :=
  (pe_listRg hc hg hm (prgA2 hg2 hm2 ha hs hpl) na).imp fun σ H Q h => post_bsI .list .range2 (by decide) h fun H1 Hf ys ds xs ts r e ok p => by
    obtain ⟨i, j, rfl, c, rfl⟩ := two_of r e
    exact ⟨i, j, rfl, small_rg c, fun q hq => PostO.lst (ds := rangeD i 1 (j - i).toNat) p ok (Le.refl _) hq (rgV_D i _ j rfl)⟩
end
section
variable (hc : X.calm = true) (hg2 : Gl X "range") (hm2 : X.mg "range" = none) (hs : starEach [pa] X.env = (false, eval pa X.env) :: starEach [] X.env)
  (na : starEach [.Call (.Name "range" p) [pa] [] pos] X.env = (false, eval (.Call (.Name "range" p) [pa] [] pos) X.env) :: starEach [] X.env)
include hc hg2 hm2 hs na
theorem snd_tupRg1 (hg : Gl X "tuple") (hm : X.mg "tuple" = none) (ha : PA X [pa] (tEs G C W [a])) : PE X (.Call (.Name "tuple" p2) [.Call (.Name "range" p) [pa] [] pos] [] pos2) (tE G C W (.bs .tuple (.itr .range1 [a]))) :=
  (pe_tupRg hc hg hm (prgA1 hg2 hm2 ha hs) na).imp fun σ H Q h => post_bsI .tuple .range1 (by decide) h fun H1 Hf ys ds xs ts r e ok p => by
    obtain ⟨j, rfl, c, rfl⟩ := one_of r e
    exact ⟨j, rfl, small_rg c, fun q hq => PostO.tup (ds := rangeD 0 1 (j - 0).toNat) p ok (Le.refl _) hq (rgV_D 0 _ j rfl)⟩
theorem snd_lstRg1 (hg : Gl X "list") (hm : X.mg "list" = none) (ha : PA X [pa] (tEs G C W [a])) : PE X (.Call (.Name "list" p2) [.Call (.Name "range" p) [pa] [] pos] [] pos2) (tE G C W (.bs .list (.itr .range1 [a]))) :=
  (pe_listRg hc hg hm (prgA1 hg2 hm2 ha hs) na).imp fun σ H Q h => post_bsI .list .range1 (by decide) h fun H1 Hf ys ds xs ts r e ok p => by
    obtain ⟨j, rfl, c, rfl⟩ := one_of r e
    exact ⟨j, rfl, small_rg c, fun q hq => PostO.lst (ds := rangeD 0 1 (j - 0).toNat) p ok (Le.refl _) hq (rgV_D 0 _ j rfl)⟩
end
end
end Lw

set_option autoImplicit false
set_option linter.all false
set_option Elab.async false
set_option maxRecDepth 100000
set_option maxHeartbeats 1000000
/-! LGen: one context for all that stands in a def; each rule under it. -/
namespace Lw
open PySem PySem.Spec PyProof.Rows L2
open Gt

/-- a law's text: the names of its top, its constants, its defs (address, parameters, the first is kept) -/
structure Lk where
  tbl : List (Str × Option Value)
  gv : List (Str × D)
  fns : List (Addr × Nat × Bool)
  cls : List (Str × Nat)
  fld : List Str
  mth : List (Str × Nat)
  nws : List (Str × Nat × Nat × Nat)

structure Cz (cm : Bool) (G : Gx) (L : Lk) (sub : Nat → Nat → Bool) (C : Cf) (W : WX) (X : Cx) (N : List Str) (sc : Scope) : Prop where
  gx : GX G X
  hu : X.A.units + 150 < cLine
  hc : cm = true → X.calm = true
  tk : Takes X W
  en : X.env.scope = sc
  nm : X.N = N
  nd : N.Nodup
  db : ∀ (i : Nat) (x : Str), N[i]? = some x → (x == ("__debug__" : Str)) = false ∧ (x == ("__classdict__" : Str)) = false
  kd : ∀ (i : Nat) (x : Str) (k : NameKind), sc.names[i]? = some (x, k) → sc.names.lookup x = some k
  mg : ∀ (i : Nat) (x : Str) (u : Option Value), L.tbl[i]? = some (x, u) → X.mg x = u ∧ (x == ("__debug__" : Str)) = false ∧ x ≠ "__name__"
  fk : cm = true → ∀ (f : Nat) (a : Addr) (n : Nat) (b : Bool), L.fns[f]? = some (a, n, b) → Fk X a (spF G b n (C.call f))
  gl : ∀ (g : Nat) (x : Str) (d : D), L.gv[g]? = some (x, d) → C.glb g = some d ∧ (x == ("__debug__" : Str)) = false ∧ ∃ v u, X.mg x = some u ∧ RelV v u ∧ ∀ Hf, Rp G Hf v d
  cl : ∀ (i : Nat) (x : Str) (c : Nat), L.cls[i]? = some (x, c) → X.mg x = some (.ref (G.ca c)) ∧ (x == ("__debug__" : Str)) = false ∧ x ≠ "__name__"
  ex : ∀ c k : Nat, sub c c = true → sub k k = true → PySem.W.exmOne X.K (.ref (G.ca c)) (.ref (G.ca k)) = some (sub c k)
  rs : ∀ c : Nat, sub c c = true → PySem.W.excIn X.K (G.ca c) veB "ValueError.__new__" = true ∧ PySem.W.keepIn X.K (.ref (G.ca c)) = true ∧ Raises X (.ref (G.ca c))
  fn_ : ∀ (i : Nat) (f : Str), L.fld[i]? = some f → G.fnm i = f
  fo : ∀ c y : Nat, C.fo c y = true → FOk G c y
  mt : ∀ (m : Nat) (mn : Str) (n : Nat), L.mth[m]? = some (mn, n) → (∀ i, i < G.nf → G.fnm i ≠ mn) ∧ ∀ c f, C.meth c m = some f → ∃ fa, Meth X.K (G.ca c) mn fa ∧ L.fns[f]? = some (fa, n + 1, true)
  nw : ∀ (i : Nat) (x : Str) (c f n : Nat), L.nws[i]? = some (x, c, f, n) → X.mg x = some (.ref (G.ca c)) ∧ (x == ("__debug__" : Str)) = false ∧ C.init c = some f ∧ COk G c ∧ ∃ fa, Mk X.K (G.ca c) fa ∧ L.fns[f]? = some (fa, n + 1, true)

/-- a def's body: more -/
structure Bd (X : Cx) : Prop where
  hp : PassesOwn (model X.prog X.w) X.A X.env X.xe
  fn : ∀ x, X.fn x = true
  st : X.stack = X.env :: X.outer
  fr : X.env.frame = some X.env.locals
/-- a block's names -/
def rel (sc scope : Scope) : Scope := { scope with names := scope.names.map fun (n, k) => if (k == .free && sc.kind == .function && sc.names.lookup n == some .cell) then (n, .cell) else (n, k) }
/-- a look at a scope -/
def kdC (l : List (Str × NameKind)) : Bool := l.all fun p => decide (l.lookup p.1 = some p.2)
theorem kd_of {l : List (Str × NameKind)} (h : kdC l = true) : ∀ (i : Nat) (x : Str) (k : NameKind), l[i]? = some (x, k) → l.lookup x = some k := fun i x k e =>
  of_decide_eq_true (List.all_eq_true.mp h (x, k) (List.mem_of_getElem? e))
def dbC (N : List Str) : Bool := N.all fun x => !(x == ("__debug__" : Str)) && !(x == ("__classdict__" : Str))
theorem db_of {N : List Str} (h : dbC N = true) : ∀ (i : Nat) (x : Str), N[i]? = some x → (x == ("__debug__" : Str)) = false ∧ (x == ("__classdict__" : Str)) = false := fun i x e => by
  have := List.all_eq_true.mp h x (List.mem_of_getElem? e)
  rw [Bool.and_eq_true, Bool.not_eq_true', Bool.not_eq_true'] at this
  exact this
/-- it can be read, be stored here -/
def visK : NameKind → Bool
  | .local => true
  | .cell => true
  | .free => true
  | _ => false
def locK : NameKind → Bool
  | .local => true
  | .cell => true
  | _ => false

section
variable {cm : Bool} {G : Gx} {L : Lk} {C : Cf} {W : WX} {X : Cx} {N : List Str} {sc : Scope} {sub : Nat → Nat → Bool}
theorem Cz.look (z : Cz cm G L sub C W X N sc) {j : Nat} {x : Str} {k : NameKind} (h : sc.names[j]? = some (x, k)) : X.env.scope.names.lookup x = some k := by
  rw [z.en]; exact z.kd j x k h
theorem Cz.at_ (z : Cz cm G L sub C W X N sc) {i : Nat} {x : Str} (h : N[i]? = some x) : X.N[i]? = some x := by rw [z.nm]; exact h
theorem Cz.vis (z : Cz cm G L sub C W X N sc) {j : Nat} {x : Str} {k : NameKind} (h : sc.names[j]? = some (x, k)) (hk : visK k = true) : Vis X.env.scope x := by
  have := z.look h
  cases k with
  | «local» => exact .inl this
  | cell => exact .inr (.inl this)
  | free => exact .inr (.inr this)
  | _ => cases hk
theorem Cz.loc (z : Cz cm G L sub C W X N sc) {j : Nat} {x : Str} {k : NameKind} (h : sc.names[j]? = some (x, k)) (hk : locK k = true) : Loc X.env.scope x := by
  have := z.look h
  cases k with
  | «local» => exact .inl this
  | cell => exact .inr this
  | _ => cases hk
theorem Cz.gl_ (z : Cz cm G L sub C W X N sc) {j : Nat} {x : Str} (h : sc.names[j]? = some (x, .globalImplicit)) : Gl X x := z.look h
theorem Cz.ndX (z : Cz cm G L sub C W X N sc) : X.N.Nodup := by rw [z.nm]; exact z.nd

/-- inside a comprehension -/
theorem Cz.blk (z : Cz cm G L sub C W X N sc) {scope : Scope} (s : Shared) (H : Hp) (C' : Addr) (cl : List (Str × Addr)) (fp : List Addr) (hk : kdC (rel sc scope).names = true) :
    Cz cm G L sub C noW (X.blk s H scope (compEnvC scope cl C' X.env) fp) N (rel sc scope) where
  gx := ⟨z.gx.p, z.gx.w, z.gx.k⟩
  hu := z.hu
  hc := z.hc
  tk := fun u s' ⟨_, _, _, _, _, _, _, _, _, _, _, _, _, _, _, _, w⟩ => w.elim
  en := by rw [← z.en]; rfl
  nm := z.nm
  nd := z.nd
  db := z.db
  kd := kd_of hk
  mg := z.mg
  fk := fun h0 f a n b h => let F := z.fk h0 f a n b h; ⟨F.ok, F.kp⟩
  gl := z.gl
  cl := z.cl
  ex := z.ex
  rs := z.rs
  fn_ := z.fn_
  fo := z.fo
  mt := z.mt
  nw := z.nw

variable {pos p p' px py pt pos' : Pos} {pa pb pc : Expr} {pes : List Expr} {a b c e : E} {es : List E} {i j k f g n : Nat} {x y : Str} {kk : NameKind}
/-! ### expressions -/
theorem z_var (z : Cz cm G L sub C W X N sc) (i j : Nat) (h1 : N[i]? = some x := by rfl) (h2 : sc.names[j]? = some (x, kk) := by rfl) (h3 : visK kk = true := by rfl) : PE X (.Name x pos) (tE G C W (.var i)) :=
  snd_var (z.at_ h1) (z.vis h2 h3) (z.db i x h1).1 (z.db i x h1).2
theorem z_varb (z : Cz cm G L sub C W X N sc) (i j : Nat) (h1 : N[i]? = some x := by rfl) (h2 : sc.names[j]? = some (x, kk) := by rfl) (h3 : visK kk = true := by rfl) : PE X (.Name x pos) (tB G C W (.var i)) :=
  snd_var_b (z.at_ h1) (z.vis h2 h3) (z.db i x h1).1 (z.db i x h1).2
theorem z_b (hp : PE X pa (tE G C W a)) (n0 : plOf a = none := by rfl) : PE X pa (tB G C W a) := snd_b hp n0
/-- a constant of the top -/
theorem z_glb {d : D} (z : Cz cm G L sub C W X N sc) (g j : Nat) (h2 : sc.names[j]? = some (x, .globalImplicit) := by rfl) (h4 : L.gv[g]? = some (x, d) := by rfl) : PE X (.Name x pos) (tE G C W (.glb g)) :=
  let ⟨h5, h6, _, _, hm, r, rp⟩ := z.gl g x d h4
  snd_glb (z.gl_ h2) hm r h6 h5 rp
theorem z_bop (z : Cz cm G L sub C W X N sc) (o : Bop) (ha : PE X pa (tB G C W a)) (hb : PE X pb (tB G C W b)) (sp : sep a (eff b) = true := by rfl) : PE X (.BinOp pa o.py pb pos) (tE G C W (.bop o a b)) := snd_bop z.gx o ha hb sp
theorem z_cmp (z : Cz cm G L sub C W X N sc) (o : Cop) (ha : PE X pa (tB G C W a)) (hb : PE X pb (tB G C W b)) (sp : sep a (eff b) = true := by rfl) (hm : behindInMarks o.py pb = false := by rfl) : PE X (.Compare pa [o.py] [pb] pos) (tE G C W (.cmp o a b)) := snd_cmp z.gx z.hu o ha hb sp hm
theorem z_cmpT (z : Cz cm G L sub C W X N sc) (o : Cop) (ha : PE X pa (tB G C W a)) (hb : PE X pb (tB G C W b)) (sp : sep a (eff b) = true := by rfl) (hm : behindInMarks o.py pb = false := by rfl) : PT X (.Compare pa [o.py] [pb] pos) (tT G C W (.cmp o a b)) := snd_cmpT z.gx z.hu o ha hb sp hm
theorem z_chn (z : Cz cm G L sub C W X N sc) (o q : Cop) (ha : PE X pa (tB G C W a)) (hb : PE X pb (tB G C W b)) (hc : PE X pc (tB G C W c)) (sp1 : sep a (eff b ++ eff c) = true := by rfl) (sp2 : sep b (eff c) = true := by rfl) (hm : lastMarks [o.py, q.py] [pb, pc] = false := by rfl) :
    PE X (.Compare pa [o.py, q.py] [pb, pc] pos) (tE G C W (.chn o q a b c)) := snd_chn z.gx z.hu o q ha hb hc sp1 sp2 hm
theorem z_chnT (z : Cz cm G L sub C W X N sc) (o q : Cop) (ha : PE X pa (tB G C W a)) (hb : PE X pb (tB G C W b)) (hc : PE X pc (tB G C W c)) (sp1 : sep a (eff b ++ eff c) = true := by rfl) (sp2 : sep b (eff c) = true := by rfl) (hm : lastMarks [o.py, q.py] [pb, pc] = false := by rfl) :
    PT X (.Compare pa [o.py, q.py] [pb, pc] pos) (tT G C W (.chn o q a b c)) := snd_chnT z.gx z.hu o q ha hb hc sp1 sp2 hm
theorem z_T (h : PE X pa (tE G C W a)) (he : ∀ whole, isTrue pa X.env whole = (do let v ← whole; standAt pa.pos; holding [v] (truthy v)) := by intro _; rfl) : PT X pa (tT G C W a) := snd_T h he
theorem z_idx (z : Cz cm G L sub C W X N sc) (ha : PE X pa (tB G C W a)) (hb : PE X pb (tE G C W b)) (sp : sep a (eff b) = true := by rfl) (hs : PlainIx pb := by exact fun _ _ => rfl) : PE X (.Subscript pa pb pos) (tE G C W (.idx a b)) := snd_idx z.gx z.hu ha hb sp hs
theorem z_slc (z : Cz cm G L sub C W X N sc) {plo phi : Option Expr} {lo hi : E} {p2 : Pos} (ha : PE X pa (tB G C W a)) (hl : PO X plo (tO G C W lo)) (hh : PO X phi (tO G C W hi)) (sp : sep a (eff lo ++ eff hi) = true := by rfl) : PE X (.Subscript pa (.Slice plo phi none p2) pos) (tE G C W (.slc a lo hi)) := snd_slc z.gx ha hl hh sp
theorem z_rev (z : Cz cm G L sub C W X N sc) {k : Nat} {p1 p2 p3 : Pos} (ha : PE X pa (tB G C W a)) : PE X (.Subscript pa (.Slice none none (some (.UnaryOp .USub (.Constant (.int 1) k p1) p2)) p3) pos) (tE G C W (.rev a)) := snd_rev z.gx ha
/-! ### arguments -/
theorem z_an : PA X [] (tEs G C W []) := snd_pa_nil
theorem z_ac (ha : PE X pa (tE G C W a)) (hr : PA X pes (tEs G C W es)) (hs : starEach (pa :: pes) X.env = (false, eval pa X.env) :: starEach pes X.env := by rfl) : PA X (pa :: pes) (tEs G C W (a :: es)) := snd_pa_cons ha hr hs
theorem z_wn : PA X [] (tWs G C W []) := snd_ws_nil
theorem z_wc (ha : PE X pa (tE G C W a)) (hr : PA X pes (tWs G C W es)) (hs : starEach (pa :: pes) X.env = (false, eval pa X.env) :: starEach pes X.env := by rfl) : PA X (pa :: pes) (tWs G C W (a :: es)) := snd_ws_cons ha hr hs
theorem z_tup {x1 : Nat} (ha : PA X pes (tEs G C W es)) (hz : es.length ≤ sizeLine := by rw [sizeLine_eq]; decide) : PE X (.Tuple pes x1 pos) (tE G C W (.tup es)) := snd_tup ha hz
theorem z_lst (ha : PA X pes (tEs G C W es)) (hz : es.length ≤ sizeLine := by rw [sizeLine_eq]; decide) : PE X (.List pes pos) (tE G C W (.lst es)) := snd_lst ha hz
/-! ### calls -/
theorem z_call (z : Cz true G L sub C W X N sc) (f j t : Nat) {fa : Addr} {fx : Bool} (ha : PA X (pa :: pes) (tEs G C W es)) (h1 : L.fns[f]? = some (fa, n, fx) := by rfl) (h2 : sc.names[j]? = some (x, .globalImplicit) := by rfl) (h3 : L.tbl[t]? = some (x, some (.ref fa)) := by rfl) (hn : es.length = n := by rfl)
    (he : starEach (pa :: pes) X.env = (false, eval pa X.env) :: starEach pes X.env := by rfl) (hpl : (backTo pos (starEach pes X.env)).any (·.1) = false := by rfl) : PE X (.Call (.Name x p) (pa :: pes) [] pos) (tE G C W (.call f es)) :=
  snd_call (z.fk rfl f fa n fx h1) z.tk (z.gl_ h2) (z.mg t x _ h3).1 ha hn (z.mg t x _ h3).2.1 he hpl
theorem z_call0 (z : Cz true G L sub C W X N sc) (f j t : Nat) {fa : Addr} {fx : Bool} (h1 : L.fns[f]? = some (fa, 0, fx) := by rfl) (h2 : sc.names[j]? = some (x, .globalImplicit) := by rfl) (h3 : L.tbl[t]? = some (x, some (.ref fa)) := by rfl) : PE X (.Call (.Name x p) [] [] pos) (tE G C W (.call f [])) :=
  snd_call0 (z.fk rfl f fa 0 fx h1) z.tk (z.gl_ h2) (z.mg t x _ h3).1 (z.mg t x _ h3).2.1
section
variable {id : String} {T : String} {y : Str} {p1 : Pos}
theorem z_bi1 (z : Cz cm G L sub C W X N sc) (q : Bi) (j t : Nat) (hc : CallR X (.builtin id) (rU1 G fun d => biD q [d])) (ha : PE X pa (tB G C W a)) (h2 : sc.names[j]? = some (x, .globalImplicit) := by rfl) (h3 : L.tbl[t]? = some (x, none) := by rfl) (hv : bootBuiltins x = some (.builtin id) := by rfl)
    (he : starEach [pa] X.env = (false, eval pa X.env) :: starEach [] X.env := by rfl) (hpl : (backTo pos (starEach [] X.env)).any (·.1) = false := by rfl) : PE X (.Call (.Name x p) [pa] [] pos) (tE G C W (.bi q [a])) :=
  snd_bi1 q hc (z.gl_ h2) (z.mg t x _ h3).1 hv ha (z.mg t x _ h3).2.2 (z.mg t x _ h3).2.1 he hpl
theorem z_biT1 (z : Cz cm G L sub C W X N sc) (q : Bi) (j t : Nat) (hc : CallR X (.type T) (rU1 G fun d => biD q [d])) (ha : PE X pa (tB G C W a)) (h2 : sc.names[j]? = some (x, .globalImplicit) := by rfl) (h3 : L.tbl[t]? = some (x, none) := by rfl) (hv : bootBuiltins x = some (.type T) := by rfl)
    (he : starEach [pa] X.env = (false, eval pa X.env) :: starEach [] X.env := by rfl) (hpl : (backTo pos (starEach [] X.env)).any (·.1) = false := by rfl) : PE X (.Call (.Name x p) [pa] [] pos) (tE G C W (.bi q [a])) :=
  snd_biT1 q hc (z.gl_ h2) (z.mg t x _ h3).1 hv ha (z.mg t x _ h3).2.2 (z.mg t x _ h3).2.1 he hpl
theorem z_bi2 (z : Cz cm G L sub C W X N sc) (q : Bi) (j t : Nat) (hc : CallR X (.builtin id) (rUs G (biD q))) (ha : PA X (pa :: pes) (tEs G C W (b :: c :: es))) (h2 : sc.names[j]? = some (x, .globalImplicit) := by rfl) (h3 : L.tbl[t]? = some (x, none) := by rfl) (hv : bootBuiltins x = some (.builtin id) := by rfl)
    (he : starEach (pa :: pes) X.env = (false, eval pa X.env) :: starEach pes X.env := by rfl) (hpl : (backTo pos (starEach pes X.env)).any (·.1) = false := by rfl) : PE X (.Call (.Name x p) (pa :: pes) [] pos) (tE G C W (.bi q (b :: c :: es))) :=
  snd_bi2 q hc (z.gl_ h2) (z.mg t x _ h3).1 hv ha (z.mg t x _ h3).2.2 (z.mg t x _ h3).2.1 he hpl
theorem z_biF (z : Cz cm G L sub C W X N sc) (q : Bi) (j t : Nat) (hc : CallR X (.builtin id) (rUs G (biD q))) (ha : PA X (pa :: pes) (tEs G C W (b :: c :: es))) (h2 : sc.names[j]? = some (x, .globalImplicit) := by rfl) (h3 : L.tbl[t]? = some (x, some (.builtin id)) := by rfl)
    (he : starEach (pa :: pes) X.env = (false, eval pa X.env) :: starEach pes X.env := by rfl) (hpl : (backTo pos (starEach pes X.env)).any (·.1) = false := by rfl) : PE X (.Call (.Name x p) (pa :: pes) [] pos) (tE G C W (.bi q (b :: c :: es))) :=
  snd_biF q hc (z.gl_ h2) (z.mg t x _ h3).1 ha (z.mg t x _ h3).2.1 he hpl
theorem z_isi (z : Cz cm G L sub C W X N sc) (q : Ty) (j t j2 t2 : Nat) (ha : PE X pa (tB G C W a)) (h2 : sc.names[j]? = some (x, .globalImplicit) := by rfl) (h3 : L.tbl[t]? = some (x, none) := by rfl) (hv : bootBuiltins x = some (.builtin "isinstance") := by rfl)
    (h4 : sc.names[j2]? = some (y, .globalImplicit) := by rfl) (h5 : L.tbl[t2]? = some (y, none) := by rfl) (hvy : bootBuiltins y = some (.type q.py) := by rfl)
    (he : starEach [pa, .Name y p1] X.env = (false, eval pa X.env) :: starEach [.Name y p1] X.env := by rfl) (he2 : starEach [.Name y p1] X.env = (false, eval (.Name y p1) X.env) :: starEach [] X.env := by rfl) (hpl : (backTo pos (starEach [.Name y p1] X.env)).any (·.1) = false := by rfl) : PE X (.Call (.Name x p) [pa, .Name y p1] [] pos) (tE G C W (.isi a q)) :=
  snd_isi z.gx q (z.gl_ h2) (z.mg t x _ h3).1 hv ha (z.mg t x _ h3).2.2 (z.mg t x _ h3).2.1 (z.gl_ h4) (z.mg t2 y _ h5).1 hvy (z.mg t2 y _ h5).2.2 (z.mg t2 y _ h5).2.1 he he2 hpl
abbrev RBs (G : Gx) (b : Bs) : List V → Hp → VK → Prop := fun xs H Q => ∃ (x : V) (d : D) (Hf : Hp) (ts : List Gt), xs = [x] ∧ Ok G H Hf ts ∧ RpT G H Hf x d ∧ PostO G Hf ts ((lsB b d).bind (bsD b)) Q
theorem z_bs (z : Cz cm G L sub C W X N sc) (q : Bs) (j t : Nat) (hc : CallR X (.builtin id) (RBs G q)) (ha : PE X pa (tB G C W a)) (h2 : sc.names[j]? = some (x, .globalImplicit) := by rfl) (h3 : L.tbl[t]? = some (x, none) := by rfl) (hv : bootBuiltins x = some (.builtin id) := by rfl)
    (he : starEach [pa] X.env = (false, eval pa X.env) :: starEach [] X.env := by rfl) (hpl : (backTo pos (starEach [] X.env)).any (·.1) = false := by rfl) : PE X (.Call (.Name x p) [pa] [] pos) (tE G C W (.bs q (.e a))) :=
  snd_bs q hc (z.gl_ h2) (z.mg t x _ h3).1 hv ha (z.mg t x _ h3).2.2 (z.mg t x _ h3).2.1 he hpl
theorem z_bsT (z : Cz cm G L sub C W X N sc) (q : Bs) (j t : Nat) (hc : CallR X (.type T) (RBs G q)) (ha : PE X pa (tB G C W a)) (h2 : sc.names[j]? = some (x, .globalImplicit) := by rfl) (h3 : L.tbl[t]? = some (x, none) := by rfl) (hv : bootBuiltins x = some (.type T) := by rfl)
    (he : starEach [pa] X.env = (false, eval pa X.env) :: starEach [] X.env := by rfl) (hpl : (backTo pos (starEach [] X.env)).any (·.1) = false := by rfl) : PE X (.Call (.Name x p) [pa] [] pos) (tE G C W (.bs q (.e a))) :=
  snd_bsT q hc (z.gl_ h2) (z.mg t x _ h3).1 hv ha (z.mg t x _ h3).2.2 (z.mg t x _ h3).2.1 he hpl
end
/-! ### comprehensions -/
section
variable {scope : Scope} {t : Tg} {s : Src} {ptg pi : Expr}
theorem z_lc (z : Cz true G L sub C W X N sc) (own : List (Str × Nat)) (hi : PI X ptg pi (tIC G C W s)) (hg : ∀ X', Cz true G L sub C noW X' N (rel sc scope) → (∀ x, scope.names.lookup x = some .cell → X'.fn x = true) → PG X' ptg (tG G t)) (he : ∀ X', Cz true G L sub C noW X' N (rel sc scope) → PE X' pa (tE G C noW e))
    (hk : kdC (rel sc scope).names = true := by decide) (hb : blkC N sc scope own = true := by decide) (ow : own.map (·.2) = tgS t := by rfl) (ne : eff e = [] := by rfl) (hs : ∀ x, foldedSetIterable pi X.env x = pure x := by exact fun _ => rfl) : PE X (.ListComp pa [⟨ptg, pi, [], 0⟩] scope pos) (tE G C W (.lc t s e)) :=
  snd_lc ⟨(z.hc rfl), z.ndX, by rw [z.nm, z.en]; exact blkOk_by hb, ow, fun s H C' cl fp => hg _ (z.blk s H C' cl fp hk) fun x h => by show (scope.names.lookup x == some NameKind.cell) = true; rw [h]; rfl⟩ hi (fun s H C' cl fp => he _ (z.blk s H C' cl fp hk)) ne hs
theorem z_lci (z : Cz true G L sub C W X N sc) (own : List (Str × Nat)) (hi : PI X ptg pi (tIC G C W s)) (hg : ∀ X', Cz true G L sub C noW X' N (rel sc scope) → (∀ x, scope.names.lookup x = some .cell → X'.fn x = true) → PG X' ptg (tG G t)) (ht : ∀ X', Cz true G L sub C noW X' N (rel sc scope) → PT X' pc (tT G C noW c)) (he : ∀ X', Cz true G L sub C noW X' N (rel sc scope) → PE X' pa (tE G C noW e))
    (hk : kdC (rel sc scope).names = true := by decide) (hb : blkC N sc scope own = true := by decide) (ow : own.map (·.2) = tgS t := by rfl) (nc : eff c = [] := by rfl) (ne : eff e = [] := by rfl) (hs : ∀ x, foldedSetIterable pi X.env x = pure x := by exact fun _ => rfl) : PE X (.ListComp pa [⟨ptg, pi, [pc], 0⟩] scope pos) (tE G C W (.lci t s c e)) :=
  snd_lci ⟨(z.hc rfl), z.ndX, by rw [z.nm, z.en]; exact blkOk_by hb, ow, fun s H C' cl fp => hg _ (z.blk s H C' cl fp hk) fun x h => by show (scope.names.lookup x == some NameKind.cell) = true; rw [h]; rfl⟩ hi (fun s H C' cl fp => ht _ (z.blk s H C' cl fp hk)) (fun s H C' cl fp => he _ (z.blk s H C' cl fp hk)) nc ne hs
end
section
variable {scope : Scope} {t : Tg} {s : Src} {ptg pi pk : Expr} {ek : E}
theorem z_dc (z : Cz true G L sub C W X N sc) (own : List (Str × Nat)) (hi : PI X ptg pi (tIC G C W s)) (hg : ∀ X', Cz true G L sub C noW X' N (rel sc scope) → (∀ x, scope.names.lookup x = some .cell → X'.fn x = true) → PG X' ptg (tG G t)) (hkk : ∀ X', Cz true G L sub C noW X' N (rel sc scope) → PE X' pk (tE G C noW ek)) (he : ∀ X', Cz true G L sub C noW X' N (rel sc scope) → PE X' pa (tE G C noW e))
    (hk : kdC (rel sc scope).names = true := by decide) (hb : blkC N sc scope own = true := by decide) (ow : own.map (·.2) = tgS t := by rfl) (nk : eff ek = [] := by rfl) (ne : eff e = [] := by rfl) (hs : ∀ x, foldedSetIterable pi X.env x = pure x := by exact fun _ => rfl) : PE X (.DictComp pk pa [⟨ptg, pi, [], 0⟩] scope pos) (tE G C W (.dc t s ek e)) :=
  snd_dc ⟨z.hc rfl, z.ndX, by rw [z.nm, z.en]; exact blkOk_by hb, ow, fun s H C' cl fp => hg _ (z.blk s H C' cl fp hk) fun x h => by show (scope.names.lookup x == some NameKind.cell) = true; rw [h]; rfl⟩ hi (fun s H C' cl fp => hkk _ (z.blk s H C' cl fp hk)) (fun s H C' cl fp => he _ (z.blk s H C' cl fp hk)) nk ne hs
end
/-! ### targets -/
theorem z_gn (z : Cz cm G L sub C W X N sc) (i j : Nat) (h1 : N[i]? = some x := by rfl) (h2 : sc.names[j]? = some (x, .local) := by rfl) : PG X (.Name x pos) (tG G (.v i)) :=
  snd_gname z.ndX (z.at_ h1) (z.loc h2 rfl) (.inr (z.look h2))
theorem z_gnC (z : Cz cm G L sub C W X N sc) {scope : Scope} (q : ∀ x, scope.names.lookup x = some .cell → X.fn x = true) (i j : Nat) (h1 : N[i]? = some x := by rfl) (h2 : sc.names[j]? = some (x, .cell) := by rfl) (h3 : scope.names.lookup x = some .cell := by decide) : PG X (.Name x pos) (tG G (.v i)) :=
  snd_gname z.ndX (z.at_ h1) (z.loc h2 rfl) (.inl (q x h3))
theorem z_gb (z : Cz cm G L sub C W X N sc) (w : Bd X) (i j : Nat) (h1 : N[i]? = some x := by rfl) (h2 : sc.names[j]? = some (x, kk) := by rfl) (h3 : locK kk = true := by rfl) : PG X (.Name x pos) (tG G (.v i)) :=
  snd_gname z.ndX (z.at_ h1) (z.loc h2 h3) (.inl (w.fn x))
theorem z_g0 : PGs X [] (tGs G []) := snd_gnil
theorem z_gc {pr : List Expr} {t : Tg} {ts : List Tg} (h1 : PG X pa (tG G t)) (h2 : PGs X pr (tGs G ts)) (hs : (assignEach (pa :: pr) X.env).map (·.2) = assign pa X.env :: (assignEach pr X.env).map (·.2) := by rfl) : PGs X (pa :: pr) (tGs G (t :: ts)) := snd_gcons h1 h2 hs
theorem z_gt (z : Cz true G L sub C W X N sc) {pr : List Expr} {ts : List Tg} {k : Nat} (h : PGs X pr (tGs G ts)) (hn : (assignEach pr X.env).length = ts.length := by rfl) (hst : (assignEach pr X.env).findIdx? (·.1) = none := by rfl) : PG X (.Tuple pr k pos) (tG G (.t ts)) := snd_gtup z.gx (z.hc rfl) h hn hst
/-! ### what is walked -/
theorem z_ie (z : Cz cm G L sub C W X N sc) {ptg : Expr} (ha : PE X pa (tE G C W a)) : PI X ptg pa (tI G C W (.e a)) := snd_src_e z.gx ha
theorem z_ce (z : Cz cm G L sub C W X N sc) {ptg : Expr} (ha : PE X pa (tB G C W a)) : PI X ptg pa (tIC G C W (.e a)) := snd_srcC_e z.gx ha
theorem z_ci {q : Itk} {ptg : Expr} (h : PI X ptg pa (tI G C W (.itr q es))) : PI X ptg pa (tIC G C W (.itr q es)) := snd_srcC_itr h
theorem z_r1 (z : Cz cm G L sub C W X N sc) (j t : Nat) {ptg : Expr} (ha : PE X pa (tE G C W a)) (h2 : sc.names[j]? = some (("range" : Str), .globalImplicit) := by rfl) (h3 : L.tbl[t]? = some (("range" : Str), none) := by rfl) (hs : starEach [pa] X.env = [(false, eval pa X.env)] := by rfl) : PI X ptg (.Call (.Name "range" p) [pa] [] pos) (tI G C W (.itr .range1 [a])) :=
  snd_range1 (z.gl_ h2) (z.mg t _ _ h3).1 (z_ac ha z_an hs) hs
theorem z_r2 (z : Cz cm G L sub C W X N sc) (j t : Nat) {ptg : Expr} (ha : PE X pa (tE G C W a)) (hb : PE X pb (tE G C W b)) (h2 : sc.names[j]? = some (("range" : Str), .globalImplicit) := by rfl) (h3 : L.tbl[t]? = some (("range" : Str), none) := by rfl) (hs : starEach [pa, pb] X.env = [(false, eval pa X.env), (false, eval pb X.env)] := by rfl) (hs2 : starEach [pb] X.env = [(false, eval pb X.env)] := by rfl) : PI X ptg (.Call (.Name "range" p) [pa, pb] [] pos) (tI G C W (.itr .range2 [a, b])) :=
  snd_range2 (z.gl_ h2) (z.mg t _ _ h3).1 (z_ac ha (z_ac hb z_an hs2) (by rw [hs, hs2])) hs hs2
theorem z_r3 (z : Cz cm G L sub C W X N sc) (j t : Nat) {ptg : Expr} (ha : PE X pa (tE G C W a)) (hb : PE X pb (tE G C W b)) (hc : PE X pc (tE G C W c)) (h2 : sc.names[j]? = some (("range" : Str), .globalImplicit) := by rfl) (h3 : L.tbl[t]? = some (("range" : Str), none) := by rfl) (hs : starEach [pa, pb, pc] X.env = (false, eval pa X.env) :: starEach [pb, pc] X.env := by rfl) (hs2 : starEach [pb, pc] X.env = (false, eval pb X.env) :: starEach [pc] X.env := by rfl) (hs3 : starEach [pc] X.env = (false, eval pc X.env) :: starEach [] X.env := by rfl) (hpl : (backTo pos (starEach [pb, pc] X.env)).any (·.1) = false := by rfl) : PI X ptg (.Call (.Name "range" p) [pa, pb, pc] [] pos) (tI G C W (.itr .range3 [a, b, c])) :=
  snd_range3 (z.gl_ h2) (z.mg t _ _ h3).1 (z_ac ha (z_ac hb (z_ac hc z_an hs3) hs2) hs) hs hpl
/-! ### statements -/
/-! ### the order of the stores -/
def starB : Expr → Bool
  | .Starred .. => true
  | _ => false
theorem sw2 {env : Env} {x y : Str} {px py pt pt2 : Pos} {kt k2 : Nat} {pa pb : Expr} (hb : env.blockKind = .function) (hx : env.kindOf x = some .local) (hy : env.kindOf y = some .local) (hxy : (y == x) = false) (hl : px.line = py.line)
    (h1 : starB pa = false) (h1' : starB pb = false) (h2 : [pa, pb].all (foldedForSure 8) = false) (h3 : [pa, pb].all (constantsAlone 8) = false) :
    swappedStores [.Tuple [.Name x px, .Name y py] kt pt] (.Tuple [pa, pb] k2 pt2) env = pure (some [x, y]) := by
  unfold swappedStores
  simp only [hb, hx, hy, h2, h3, List.length_cons, List.length_nil, List.filterMap_cons, List.filterMap_nil, List.head?_cons, Option.map_some, Option.getD_some]
  simp [List.eraseDups_cons, hxy, Expr.pos, hl]
  rintro (h | h)
  · exact absurd (h.symm.trans h1) (by simp)
  · exact absurd (h.symm.trans h1') (by simp)
/-- constants alone: stored one after the other -/
theorem sw0 {env : Env} {ts vs : List Expr} {kt k2 : Nat} {pt pt2 : Pos} (h : vs.all (foldedForSure 8) = true) : swappedStores [.Tuple ts kt pt] (.Tuple vs k2 pt2) env = pure none := by
  unfold swappedStores
  simp only [h]
  simp
theorem z_asg (z : Cz cm G L sub C W X N sc) (w : Bd X) (i j : Nat) (ha : PE X pa (tE G C W a)) (h1 : N[i]? = some x := by rfl) (h2 : sc.names[j]? = some (x, kk) := by rfl) (h3 : locK kk = true := by rfl) (hs : swapsWith pa (some (.Name x p')) pos.line X.env = pure false := by rfl) : PS X (.Assign [.Name x p'] pa pos) (tS G C sub W (.asg i a)) :=
  snd_asg z.ndX (z.at_ h1) (z.loc h2 h3) ha hs (.inl (w.fn x))
theorem z_own (z : Cz cm G L sub C W X N sc) (w : Bd X) (i j : Nat) (ha : PE X pa (tE G C W a)) (h1 : N[i]? = some x := by rfl) (h2 : sc.names[j]? = some (x, kk) := by rfl) (h3 : locK kk = true := by rfl) (hs : swapsWith pa (some (.Name x p')) pos.line X.env = pure false := by rfl) : PS X (.Assign [.Name x p'] pa pos) (tS G C sub W (.own i a)) :=
  snd_own z.ndX (z.at_ h1) (z.loc h2 h3) ha hs (.inl (w.fn x))
theorem Cz.bk (z : Cz cm G L sub C W X N sc) (h : sc.kind = .function) : X.env.blockKind = .function := by
  unfold Env.blockKind
  rw [z.en, h]; rfl
theorem swT {env : Env} {elt : Expr} {gens : List Comprehension} {scope : Scope} {ps pt : Pos} {x : Str} {line : Nat} (hb : env.blockKind = .function) (hx : env.kindOf x = some .local) (hl : (pt.line == ps.line) = true) (hnn : (scope.names.any fun (n, k) => n == x && (k == .local || k == .cell)) = false) :
    swapsWith (.ListComp elt gens scope ps) (some (.Name x pt)) line env = pure true := by
  show pure (env.blockKind == .function && env.kindOf x == some .local && pt.line == ps.line && !(scope.names.any fun (n, k) => n == x && (k == .local || k == .cell))) = _
  rw [hb, hx, hl, hnn]; rfl
theorem swF {env : Env} {elt : Expr} {gens : List Comprehension} {scope : Scope} {ps pt : Pos} {x : Str} {line : Nat} (hx : env.kindOf x = some .cell) : swapsWith (.ListComp elt gens scope ps) (some (.Name x pt)) line env = pure false := by
  show pure (env.blockKind == .function && env.kindOf x == some .local && pt.line == ps.line && !(scope.names.any fun (n, k) => n == x && (k == .local || k == .cell))) = _
  rw [hx, show (some NameKind.cell == some NameKind.local) = false from rfl, Bool.and_false, Bool.false_and, Bool.false_and]
section
variable {scope : Scope} {t : Tg} {s : Src} {ptg pi : Expr} {ps : Pos}
theorem z_lcA (z : Cz true G L sub C W X N sc) (i j : Nat) (own : List (Str × Nat)) (hi : PI X ptg pi (tIC G C W s)) (hg : ∀ X', Cz true G L sub C noW X' N (rel sc scope) → (∀ x, scope.names.lookup x = some .cell → X'.fn x = true) → PG X' ptg (tG G t)) (he : ∀ X', Cz true G L sub C noW X' N (rel sc scope) → PE X' pa (tE G C noW e))
    (h1 : N[i]? = some x := by rfl) (h2 : sc.names[j]? = some (x, .local) := by rfl) (hkn : sc.kind = .function := by rfl) (hl : (p'.line == ps.line) = true := by rfl) (hnn : (scope.names.any fun (n, k) => n == x && (k == .local || k == .cell)) = false := by decide)
    (hk : kdC (rel sc scope).names = true := by decide) (hb : blkC N sc scope own = true := by decide) (ow : own.map (·.2) = tgS t := by rfl) (ne : eff e = [] := by rfl) (hs : ∀ x, foldedSetIterable pi X.env x = pure x := by exact fun _ => rfl) :
    PS X (.Assign [.Name x p'] (.ListComp pa [⟨ptg, pi, [], 0⟩] scope ps) pos) (tS G C sub W (.asg i (.lc t s e))) :=
  (snd_setLc (y := x) (Blk.mk (z.hc rfl) z.ndX (by rw [z.nm, z.en]; exact blkOk_by hb) ow (fun s H C' cl fp => hg _ (z.blk s H C' cl fp hk) fun x h => by show (scope.names.lookup x == some NameKind.cell) = true; rw [h]; rfl)) (z.at_ h1) (z.look h2) (swT (z.bk hkn) (z.look h2) hl hnn) hi (fun s H C' cl fp => he _ (z.blk s H C' cl fp hk)) ne hs).imp fun D σ H h => asg_post h
theorem z_lciA (z : Cz true G L sub C W X N sc) (i j : Nat) (own : List (Str × Nat)) (hi : PI X ptg pi (tIC G C W s)) (hg : ∀ X', Cz true G L sub C noW X' N (rel sc scope) → (∀ x, scope.names.lookup x = some .cell → X'.fn x = true) → PG X' ptg (tG G t)) (ht : ∀ X', Cz true G L sub C noW X' N (rel sc scope) → PT X' pc (tT G C noW c)) (he : ∀ X', Cz true G L sub C noW X' N (rel sc scope) → PE X' pa (tE G C noW e))
    (h1 : N[i]? = some x := by rfl) (h2 : sc.names[j]? = some (x, .local) := by rfl) (hkn : sc.kind = .function := by rfl) (hl : (p'.line == ps.line) = true := by rfl) (hnn : (scope.names.any fun (n, k) => n == x && (k == .local || k == .cell)) = false := by decide)
    (hk : kdC (rel sc scope).names = true := by decide) (hb : blkC N sc scope own = true := by decide) (ow : own.map (·.2) = tgS t := by rfl) (nc : eff c = [] := by rfl) (ne : eff e = [] := by rfl) (hs : ∀ x, foldedSetIterable pi X.env x = pure x := by exact fun _ => rfl) :
    PS X (.Assign [.Name x p'] (.ListComp pa [⟨ptg, pi, [pc], 0⟩] scope ps) pos) (tS G C sub W (.asg i (.lci t s c e))) :=
  (snd_setLci (y := x) (Blk.mk (z.hc rfl) z.ndX (by rw [z.nm, z.en]; exact blkOk_by hb) ow (fun s H C' cl fp => hg _ (z.blk s H C' cl fp hk) fun x h => by show (scope.names.lookup x == some NameKind.cell) = true; rw [h]; rfl)) (z.at_ h1) (z.look h2) (swT (z.bk hkn) (z.look h2) hl hnn) hi (fun s H C' cl fp => ht _ (z.blk s H C' cl fp hk)) (fun s H C' cl fp => he _ (z.blk s H C' cl fp hk)) nc ne hs).imp fun D σ H h => asg_post h
theorem z_lcO (z : Cz true G L sub C W X N sc) (i j : Nat) (own : List (Str × Nat)) (hi : PI X ptg pi (tIC G C W s)) (hg : ∀ X', Cz true G L sub C noW X' N (rel sc scope) → (∀ x, scope.names.lookup x = some .cell → X'.fn x = true) → PG X' ptg (tG G t)) (he : ∀ X', Cz true G L sub C noW X' N (rel sc scope) → PE X' pa (tE G C noW e))
    (h1 : N[i]? = some x := by rfl) (h2 : sc.names[j]? = some (x, .local) := by rfl) (hkn : sc.kind = .function := by rfl) (hl : (p'.line == ps.line) = true := by rfl) (hnn : (scope.names.any fun (n, k) => n == x && (k == .local || k == .cell)) = false := by decide)
    (hk : kdC (rel sc scope).names = true := by decide) (hb : blkC N sc scope own = true := by decide) (ow : own.map (·.2) = tgS t := by rfl) (ne : eff e = [] := by rfl) (hs : ∀ x, foldedSetIterable pi X.env x = pure x := by exact fun _ => rfl) :
    PS X (.Assign [.Name x p'] (.ListComp pa [⟨ptg, pi, [], 0⟩] scope ps) pos) (tS G C sub W (.own i (.lc t s e))) :=
  (snd_setLc (y := x) (Blk.mk (z.hc rfl) z.ndX (by rw [z.nm, z.en]; exact blkOk_by hb) ow (fun s H C' cl fp => hg _ (z.blk s H C' cl fp hk) fun x h => by show (scope.names.lookup x == some NameKind.cell) = true; rw [h]; rfl)) (z.at_ h1) (z.look h2) (swT (z.bk hkn) (z.look h2) hl hnn) hi (fun s H C' cl fp => he _ (z.blk s H C' cl fp hk)) ne hs).imp fun D σ H h => own_post h
theorem z_lciO (z : Cz true G L sub C W X N sc) (i j : Nat) (own : List (Str × Nat)) (hi : PI X ptg pi (tIC G C W s)) (hg : ∀ X', Cz true G L sub C noW X' N (rel sc scope) → (∀ x, scope.names.lookup x = some .cell → X'.fn x = true) → PG X' ptg (tG G t)) (ht : ∀ X', Cz true G L sub C noW X' N (rel sc scope) → PT X' pc (tT G C noW c)) (he : ∀ X', Cz true G L sub C noW X' N (rel sc scope) → PE X' pa (tE G C noW e))
    (h1 : N[i]? = some x := by rfl) (h2 : sc.names[j]? = some (x, .local) := by rfl) (hkn : sc.kind = .function := by rfl) (hl : (p'.line == ps.line) = true := by rfl) (hnn : (scope.names.any fun (n, k) => n == x && (k == .local || k == .cell)) = false := by decide)
    (hk : kdC (rel sc scope).names = true := by decide) (hb : blkC N sc scope own = true := by decide) (ow : own.map (·.2) = tgS t := by rfl) (nc : eff c = [] := by rfl) (ne : eff e = [] := by rfl) (hs : ∀ x, foldedSetIterable pi X.env x = pure x := by exact fun _ => rfl) :
    PS X (.Assign [.Name x p'] (.ListComp pa [⟨ptg, pi, [pc], 0⟩] scope ps) pos) (tS G C sub W (.own i (.lci t s c e))) :=
  (snd_setLci (y := x) (Blk.mk (z.hc rfl) z.ndX (by rw [z.nm, z.en]; exact blkOk_by hb) ow (fun s H C' cl fp => hg _ (z.blk s H C' cl fp hk) fun x h => by show (scope.names.lookup x == some NameKind.cell) = true; rw [h]; rfl)) (z.at_ h1) (z.look h2) (swT (z.bk hkn) (z.look h2) hl hnn) hi (fun s H C' cl fp => ht _ (z.blk s H C' cl fp hk)) (fun s H C' cl fp => he _ (z.blk s H C' cl fp hk)) nc ne hs).imp fun D σ H h => own_post h
theorem z_asgC (z : Cz cm G L sub C W X N sc) (w : Bd X) (i j : Nat) {gens : List Comprehension} (ha : PE X (.ListComp pa gens scope ps) (tE G C W a)) (h1 : N[i]? = some x := by rfl) (h2 : sc.names[j]? = some (x, .cell) := by rfl) : PS X (.Assign [.Name x p'] (.ListComp pa gens scope ps) pos) (tS G C sub W (.asg i a)) :=
  snd_asg z.ndX (z.at_ h1) (z.loc h2 rfl) ha (swF (z.look h2)) (.inl (w.fn x))
theorem z_ownC (z : Cz cm G L sub C W X N sc) (w : Bd X) (i j : Nat) {gens : List Comprehension} (ha : PE X (.ListComp pa gens scope ps) (tE G C W a)) (h1 : N[i]? = some x := by rfl) (h2 : sc.names[j]? = some (x, .cell) := by rfl) : PS X (.Assign [.Name x p'] (.ListComp pa gens scope ps) pos) (tS G C sub W (.own i a)) :=
  snd_own z.ndX (z.at_ h1) (z.loc h2 rfl) ha (swF (z.look h2)) (.inl (w.fn x))
end
theorem z_aug (z : Cz cm G L sub C W X N sc) (w : Bd X) (i j : Nat) (o : Bop) (ha : PE X pa (tE G C W a)) (h1 : N[i]? = some x := by rfl) (h2 : sc.names[j]? = some (x, kk) := by rfl) (h3 : locK kk = true := by rfl) (sp : (eff a).all (fun q => dj (.v i) q) = true := by rfl) : PS X (.AugAssign (.Name x p') o.py pa pos) (tS G C sub W (.augV i o a)) :=
  snd_augV o z.ndX (z.at_ h1) (z.loc h2 h3) ha sp (.inl (w.fn x))
theorem z_rai (z : Cz true G L sub C W X N sc) (c i j : Nat) {m : Str} {jj : Nat} {p2 : Pos} (h2 : sc.names[j]? = some (x, .globalImplicit) := by rfl) (h3 : L.cls[i]? = some (x, c) := by rfl) (h4 : sub c c = true := by rfl) : PS X (.Raise (some (.Call (.Name x p) [.Constant (.str m) jj p2] [] pos)) none pos') (tS G C sub W (.rai c [.str m])) :=
  snd_rai (z.hc rfl) z.tk (z.rs c h4).1 (z.cl i x c h3).1 (z.rs c h4).2.1 (z.rs c h4).2.2 (z.gl_ h2) (z.cl i x c h3).2.1
theorem Cz.tr (z : Cz true G L sub C W X N sc) {W' : WX} {pn : List (Addr × Obj)} {xe : Value → Shared → Prop} (tk : Takes (X.tr pn xe) W') : Cz true G L sub C W' (X.tr pn xe) N sc where
  gx := ⟨z.gx.p, z.gx.w, z.gx.k⟩
  hu := z.hu
  hc := z.hc
  tk := tk
  en := z.en
  nm := z.nm
  nd := z.nd
  db := z.db
  kd := z.kd
  mg := z.mg
  fk := fun h0 f a n b h => let F := z.fk h0 f a n b h; ⟨F.ok, F.kp⟩
  gl := z.gl
  cl := z.cl
  ex := z.ex
  rs := z.rs
  fn_ := z.fn_
  fo := z.fo
  mt := z.mt
  nw := z.nw
theorem Cz.suite (z : Cz true G L sub C W X N sc) (a : Addr) (pn : List (Addr × Obj)) : Cz false G L sub C noW (X.suite a pn) N sc where
  gx := ⟨z.gx.p, z.gx.w, z.gx.k⟩
  hu := z.hu
  hc := fun h => by cases h
  tk := fun u s' ⟨_, _, _, _, _, _, _, _, _, _, _, _, _, _, _, _, w⟩ => w.elim
  en := z.en
  nm := z.nm
  nd := z.nd
  db := z.db
  kd := z.kd
  mg := z.mg
  fk := fun h => by cases h
  gl := z.gl
  cl := z.cl
  ex := z.ex
  rs := z.rs
  fn_ := z.fn_
  fo := z.fo
  mt := z.mt
  nw := z.nw
theorem z_h0 : HdsOk X [] (hdL G C sub []) := .nil
theorem z_h1 (z : Cz true G L sub C W X N sc) (k i j : Nat) {b0 : Stmt} {suite : List Stmt} {b : List S} {hds : List ExceptHandler} {hs : List Hd} (hsu : ∀ X', Cz false G L sub C noW X' N sc → PSs X' (b0 :: suite) (tSs G C sub noW b)) (r : HdsOk X hds (hdL G C sub hs))
    (h2 : sc.names[j]? = some (x, .globalImplicit) := by rfl) (h3 : L.cls[i]? = some (x, k) := by rfl) : HdsOk X (.ExceptHandler (some (.Name x p)) none (b0 :: suite) pos' :: hds) (hdL G C sub (([k], none, b) :: hs)) :=
  .cons ⟨z.gl_ h2, (z.cl i x k h3).2.1, .inl (z.cl i x k h3).1⟩ (fun a _ _ _ _ _ _ => hsu _ (z.suite a _)) r
theorem z_tri (z : Cz true G L sub C W X N sc) (w : Bd X) {body : List Stmt} {h0 : ExceptHandler} {hds : List ExceptHandler} {b : List S} {hs : List Hd} (hb : ∀ (X' : Cx) (W' : WX), Cz true G L sub C W' X' N sc → Bd X' → PSs X' body (tSs G C sub W' b))
    (hh : HdsOk X (h0 :: hds) (hdL G C sub hs)) (hp : plainH sub hs = true := by rfl) : PS X (.Try body (h0 :: hds) [] [] pos) (tS G C sub W (.tri b hs)) :=
  snd_tri w.st w.fr z.tk z.ex hp (fun W' pn xe tk hx => hb _ W' (z.tr tk) ⟨hx, w.fn, w.st, w.fr⟩) hh
theorem z_whl (w : Bd X) {sb : List Stmt} {b : List S} (hc : PT X pc (tT G C W c)) (hb : PSs X sb (tSs G C sub W b)) : PS X (.While pc sb [] pos) (tS G C sub W (.whl c b)) := snd_whl w.hp hc hb
theorem z_ex (ha : PE X pa (tE G C W a)) (hs : swapsWith pa none pos.line X.env = pure false := by rfl) : PS X (.Expr pa pos) (tS G C sub W (.ex a)) := snd_ex ha hs
theorem z_retM (z : Cz cm G L sub C W X N sc) (i j : Nat) (h1 : N[i]? = some x := by rfl) (h2 : sc.names[j]? = some (x, kk) := by rfl) (h3 : visK kk = true := by rfl) : PS X (.Return (some (.Name x px)) pos) (tS G C sub W (.retM i)) :=
  snd_retM (z.at_ h1) (z.vis h2 h3) (z.db i x h1).1 (z.db i x h1).2
theorem z_unp {ptg : Expr} {t : Tg} (ha : PE X pa (tE G C W a)) (hg : PG X ptg (tG G t)) (hs : swapsWithSole [ptg] pa pos.line X.env = pure false := by rfl) (hw : swappedStores [ptg] pa X.env = pure none := by rfl) (h1 : (assignEach [ptg] X.env).map (·.2) = [assign ptg X.env] := by rfl) : PS X (.Assign [ptg] pa pos) (tS G C sub W (.unp t a)) := snd_unp ha hg hs hw h1
theorem z_par2 (z : Cz true G L sub C W X N sc) {ls : List Lh} (i j ii jj : Nat) {kt k2 : Nat} {pt2 : Pos} (ha : PA X [pa, pb] (tWs G C W [a, b])) (h1 : N[i]? = some x := by rfl) (h2 : N[j]? = some y := by rfl) (h3 : sc.names[ii]? = some (x, .local) := by rfl) (h4 : sc.names[jj]? = some (y, .local) := by rfl) (hn : nmL ls = some [i, j] := by rfl) (hij : i ≠ j := by decide)
    (hkn : sc.kind = .function := by rfl) (hxy : (y == x) = false := by decide) (hl : px.line = py.line := by rfl) (q1 : starB pa = false := by rfl) (q2 : starB pb = false := by rfl) (q3 : [pa, pb].all (foldedForSure 8) = false := by rfl) (q4 : [pa, pb].all (constantsAlone 8) = false := by rfl)
    (hs : swapsWithSole [.Tuple [.Name x px, .Name y py] kt pt] (.Tuple [pa, pb] k2 pt2) pos.line X.env = pure false := by rfl) :
    PS X (.Assign [.Tuple [.Name x px, .Name y py] kt pt] (.Tuple [pa, pb] k2 pt2) pos) (tS G C sub W (.par ls [a, b])) :=
  snd_par2 (z.hc rfl) z.ndX (z.at_ h1) (z.at_ h2) hij (z.look h3) (z.look h4) ha hn (sw2 (z.bk hkn) (z.look h3) (z.look h4) hxy hl q1 q2 q3 q4) hs
theorem sw3 {env : Env} {x y w : Str} {px py pw pt pt2 : Pos} {kt k2 : Nat} {pa pb pc : Expr} (hb : env.blockKind = .function) (hx : env.kindOf x = some .local) (hy : env.kindOf y = some .local) (hw : env.kindOf w = some .local) (hxy : (y == x) = false) (hxw : (w == x) = false) (hyw : (w == y) = false) (hl : px.line = py.line) (hl2 : px.line = pw.line)
    (h1 : starB pa = false) (h1' : starB pb = false) (h1'' : starB pc = false) (h2 : [pa, pb, pc].all (foldedForSure 8) = false) (h3 : [pa, pb, pc].all (constantsAlone 8) = false) :
    swappedStores [.Tuple [.Name x px, .Name y py, .Name w pw] kt pt] (.Tuple [pa, pb, pc] k2 pt2) env = pure (some [x, y, w]) := by
  unfold swappedStores
  simp only [hb, hx, hy, hw, h2, h3, List.length_cons, List.length_nil, List.filterMap_cons, List.filterMap_nil, List.head?_cons, Option.map_some, Option.getD_some]
  simp [List.eraseDups_cons, hxy, hxw, hyw, Expr.pos, ← hl, ← hl2]
  rintro (h | h | h)
  · exact absurd (h.symm.trans h1) (by simp)
  · exact absurd (h.symm.trans h1') (by simp)
  · exact absurd (h.symm.trans h1'') (by simp)
theorem z_par3 (z : Cz true G L sub C W X N sc) {ls : List Lh} {w : Str} {pw : Pos} (i j k ii jj kk : Nat) {kt k2 : Nat} {pt2 : Pos} (ha : PA X [pa, pb, pc] (tWs G C W [a, b, c])) (h1 : N[i]? = some x := by rfl) (h2 : N[j]? = some y := by rfl) (h5 : N[k]? = some w := by rfl) (h3 : sc.names[ii]? = some (x, .local) := by rfl) (h4 : sc.names[jj]? = some (y, .local) := by rfl) (h6 : sc.names[kk]? = some (w, .local) := by rfl) (hn : nmL ls = some [i, j, k] := by rfl)
    (hij : i ≠ j := by decide) (hik : i ≠ k := by decide) (hjk : j ≠ k := by decide) (hkn : sc.kind = .function := by rfl) (hxy : (y == x) = false := by decide) (hxw : (w == x) = false := by decide) (hyw : (w == y) = false := by decide) (hl : px.line = py.line := by rfl) (hl2 : px.line = pw.line := by rfl) (q1 : starB pa = false := by rfl) (q2 : starB pb = false := by rfl) (q5 : starB pc = false := by rfl) (q3 : [pa, pb, pc].all (foldedForSure 8) = false := by rfl) (q4 : [pa, pb, pc].all (constantsAlone 8) = false := by rfl)
    (hs : swapsWithSole [.Tuple [.Name x px, .Name y py, .Name w pw] kt pt] (.Tuple [pa, pb, pc] k2 pt2) pos.line X.env = pure false := by rfl) :
    PS X (.Assign [.Tuple [.Name x px, .Name y py, .Name w pw] kt pt] (.Tuple [pa, pb, pc] k2 pt2) pos) (tS G C sub W (.par ls [a, b, c])) :=
  snd_par3 (z.hc rfl) z.ndX (z.at_ h1) (z.at_ h2) (z.at_ h5) hij hik hjk (z.look h3) (z.look h4) (z.look h6) ha hn (sw3 (z.bk hkn) (z.look h3) (z.look h4) (z.look h6) hxy hxw hyw hl hl2 q1 q2 q5 q3 q4) hs
theorem sw2c {env : Env} {x y : Str} {px py pt pt2 : Pos} {kt k2 : Nat} {pa pb : Expr} (h : env.kindOf x = some .cell ∨ env.kindOf y = some .cell) : swappedStores [.Tuple [.Name x px, .Name y py] kt pt] (.Tuple [pa, pb] k2 pt2) env = pure none := by
  unfold swappedStores
  rcases h with h | h
  · by_cases q : env.kindOf y = some .local <;> by_cases q2 : py.line = px.line <;> simp [h, q, q2, Expr.pos]
  · by_cases q : env.kindOf x = some .local <;> simp [h, q, Expr.pos]
theorem z_n0 : PGs X [] (gNs []) := gns_nil
theorem z_nc (z : Cz cm G L sub C W X N sc) (w : Bd X) (i j : Nat) {is : List Nat} {pr : List Expr} (h : PGs X pr (gNs is)) (h1 : N[i]? = some x := by rfl) (h2 : sc.names[j]? = some (x, kk) := by rfl) (h3 : locK kk = true := by rfl) (hs : (assignEach (.Name x px :: pr) X.env).map (·.2) = assign (.Name x px) X.env :: (assignEach pr X.env).map (·.2) := by rfl) : PGs X (.Name x px :: pr) (gNs (i :: is)) :=
  gns_cons z.ndX (z.at_ h1) (z.loc h2 h3) (.inl (w.fn x)) h hs
theorem z_parN (z : Cz true G L sub C W X N sc) {ls : List Lh} {is : List Nat} {pr : List Expr} {kt k2 : Nat} {pt2 : Pos} (ha : PA X pes (tWs G C W es)) (hg : PGs X pr (gNs is)) (hw : swappedStores [.Tuple pr kt pt] (.Tuple pes k2 pt2) X.env = pure none := by rfl) (hn : nmL ls = some is := by rfl) (hl : es.length = is.length := by rfl) (hz : es.length ≤ sizeLine := by rw [sizeLine_eq]; decide) (hna : (assignEach pr X.env).length = is.length := by rfl) (hst : (assignEach pr X.env).findIdx? (·.1) = none := by rfl)
    (hs : swapsWithSole [.Tuple pr kt pt] (.Tuple pes k2 pt2) pos.line X.env = pure false := by rfl) (h1 : (assignEach [.Tuple pr kt pt] X.env).map (·.2) = [assign (.Tuple pr kt pt) X.env] := by rfl) : PS X (.Assign [.Tuple pr kt pt] (.Tuple pes k2 pt2) pos) (tS G C sub W (.par ls es)) :=
  snd_parN (z.hc rfl) ha hn hl hz hg hna hst hs hw h1
theorem z_unpK {ts vs : List Expr} {kt k2 : Nat} {pt2 : Pos} {t : Tg} (ha : PE X (.Tuple vs k2 pt2) (tE G C W a)) (hg : PG X (.Tuple ts kt pt) (tG G t)) (hf : vs.all (foldedForSure 8) = true := by rfl) (hs : swapsWithSole [.Tuple ts kt pt] (.Tuple vs k2 pt2) pos.line X.env = pure false := by rfl) (h1 : (assignEach [.Tuple ts kt pt] X.env).map (·.2) = [assign (.Tuple ts kt pt) X.env] := by rfl) : PS X (.Assign [.Tuple ts kt pt] (.Tuple vs k2 pt2) pos) (tS G C sub W (.unp t a)) := snd_unp ha hg hs (sw0 hf) h1
theorem swI {env : Env} {po pk : Expr} {pp pt pt2 : Pos} {kt k2 : Nat} {pr pes : List Expr} : swappedStores [.Tuple (.Subscript po pk pp :: pr) kt pt] (.Tuple pes k2 pt2) env = pure none := by
  unfold swappedStores
  dsimp only
  split
  · rfl
  · split
    · rfl
    · rw [if_pos]
      rw [Bool.or_eq_true]
      left
      rw [List.filterMap_cons_none rfl, bne_iff_ne, List.length_cons]
      have key : ∀ (f : Expr → Option Str), (pr.filterMap f).length ≠ pr.length + 1 := fun f h => by have := List.length_filterMap_le f pr; omega
      exact key _
theorem z_parI (z : Cz true G L sub C W X N sc) {q : Pl} {ek : E} {po pk : Expr} {ls : List Lh} {is : List Nat} {pr : List Expr} {kt k2 : Nat} {pt2 : Pos} (ha : PA X pes (tWs G C W es)) (ho : PE X po (tB G C W (plE q))) (hk : PE X pk (tE G C W ek)) (hg : PGs X pr (gNs is)) (sp : (eff ek).all (fun r => dj q r) = true := by rfl)
    (has : ∀ v, assign (.Subscript po pk pos') X.env v = (do let ov ← holding [v] (eval po X.env); let iv ← holding [v, ov] (eval pk X.env); standAt pos'; holding [v, ov, iv] (setItem ov iv v); release [v, ov, iv] []) := by exact fun _ => rfl)
    (hn : nmL ls = some is := by rfl) (hl : es.length = is.length + 1 := by rfl) (hz : es.length ≤ sizeLine := by rw [sizeLine_eq]; decide)
    (hs2 : (assignEach (.Subscript po pk pos' :: pr) X.env).map (·.2) = assign (.Subscript po pk pos') X.env :: (assignEach pr X.env).map (·.2) := by rfl) (hna : (assignEach (.Subscript po pk pos' :: pr) X.env).length = is.length + 1 := by rfl) (hst : (assignEach (.Subscript po pk pos' :: pr) X.env).findIdx? (·.1) = none := by rfl)
    (hs : swapsWithSole [.Tuple (.Subscript po pk pos' :: pr) kt pt] (.Tuple pes k2 pt2) pos.line X.env = pure false := by rfl) (hw : swappedStores [.Tuple (.Subscript po pk pos' :: pr) kt pt] (.Tuple pes k2 pt2) X.env = pure none := by first | exact swI | rfl) (h1 : (assignEach [.Tuple (.Subscript po pk pos' :: pr) kt pt] X.env).map (·.2) = [assign (.Tuple (.Subscript po pk pos' :: pr) kt pt) X.env] := by rfl) :
    PS X (.Assign [.Tuple (.Subscript po pk pos' :: pr) kt pt] (.Tuple pes k2 pt2) pos) (tS G C sub W (.par (.it q ek :: ls) es)) :=
  snd_parI z.gx z.hu (z.hc rfl) ha ho hk sp has hn hl hz hg hs2 hna hst hs hw h1
theorem z_unpO (z : Cz true G L sub C W X N sc) {is : List Nat} {pr : List Expr} {kt : Nat} (ha : PE X pa (tE G C W a)) (hg : PGs X pr (gNs is)) (hna : (assignEach pr X.env).length = is.length := by rfl) (hst : (assignEach pr X.env).findIdx? (·.1) = none := by rfl)
    (hs : swapsWithSole [.Tuple pr kt pt] pa pos.line X.env = pure false := by rfl) (hw : swappedStores [.Tuple pr kt pt] pa X.env = pure none := by rfl) (h1 : (assignEach [.Tuple pr kt pt] X.env).map (·.2) = [assign (.Tuple pr kt pt) X.env] := by rfl) :
    PS X (.Assign [.Tuple pr kt pt] pa pos) (tS G C sub W (.unpO is a)) := snd_unpO (z.hc rfl) z.gx ha hg hna hst hs hw h1
theorem z_setI (z : Cz cm G L sub C W X N sc) {q : Pl} {ek : E} {po pk : Expr} (ha : PE X pa (tE G C W a)) (ho : PE X po (tB G C W (plE q))) (hk : PE X pk (tE G C W ek)) (sp : (eff ek).all (fun r => dj q r) = true := by rfl)
    (has : ∀ v, assign (.Subscript po pk pos') X.env v = (do let ov ← holding [v] (eval po X.env); let iv ← holding [v, ov] (eval pk X.env); standAt pos'; holding [v, ov, iv] (setItem ov iv v); release [v, ov, iv] []) := by exact fun _ => rfl)
    (hs : swapsWithSole [.Subscript po pk pos'] pa pos.line X.env = pure false := by rfl) (hw : swappedStores [.Subscript po pk pos'] pa X.env = pure none := by rfl) (h1 : (assignEach [.Subscript po pk pos'] X.env).map (·.2) = [assign (.Subscript po pk pos') X.env] := by rfl) :
    PS X (.Assign [.Subscript po pk pos'] pa pos) (tS G C sub W (.setI q ek a)) := snd_setI z.gx z.hu ha ho hk sp has hs hw h1
theorem z_for (z : Cz true G L sub C W X N sc) {t : Tg} {s : Src} {ptg pi : Expr} {pb : List Stmt} {b : List S} (w : Bd X) (hi : PI X ptg pi (tI G C W s)) (hg : PG X ptg (tG G t)) (hb : PSs X pb (tSs G C sub W b)) (hs : ∀ x, foldedSetIterable pi X.env x = pure x := by exact fun _ => rfl) : PS X (.For ptg pi pb [] pos) (tS G C sub W (.forr t s b)) := snd_for w.hp (z.hc rfl) hi hg hb hs
theorem z_enum (z : Cz cm G L sub C W X N sc) (j t : Nat) {elts : List Expr} {kk : Nat} {tpos : Pos} (ha : PE X pa (tE G C W a)) (h2 : sc.names[j]? = some (("enumerate" : Str), .globalImplicit) := by rfl) (h3 : L.tbl[t]? = some (("enumerate" : Str), none) := by rfl) (hs : starEach [pa] X.env = [(false, eval pa X.env)] := by rfl) : PI X (.Tuple elts kk tpos) (.Call (.Name "enumerate" p) [pa] [] pos) (tI G C W (.itr .enum [a])) :=
  snd_enum z.gx (z.gl_ h2) (z.mg t _ _ h3).1 (z_ac ha z_an hs) hs
theorem z_zip (z : Cz cm G L sub C W X N sc) (j t : Nat) {elts : List Expr} {kk : Nat} {tpos : Pos} (ha : PE X pa (tE G C W a)) (hb : PE X pb (tE G C W b)) (h2 : sc.names[j]? = some (("zip" : Str), .globalImplicit) := by rfl) (h3 : L.tbl[t]? = some (("zip" : Str), none) := by rfl) (hs : starEach [pa, pb] X.env = (false, eval pa X.env) :: starEach [pb] X.env := by rfl) (hs2 : starEach [pb] X.env = (false, eval pb X.env) :: starEach [] X.env := by rfl) (hpl : (backTo pos (starEach [pb] X.env)).any (·.1) = false := by rfl) : PI X (.Tuple elts kk tpos) (.Call (.Name "zip" p) [pa, pb] [] pos) (tI G C W (.itr .zip [a, b])) :=
  snd_zip z.gx (z.gl_ h2) (z.mg t _ _ h3).1 (z_ac ha (z_ac hb z_an hs2) hs) hs hpl
/-! ### a dict display -/
theorem z_pp0 : PPs X pos [] [] ((([] : List (E × E))).map fun p => (tE G C W p.1, tE G C W p.2)) := pps_nil
theorem z_ppc {keys : List (Option Expr)} {values : List Expr} {ps : List (E × E)} (hk : PE X pa (tE G C W a)) (hv : PE X pb (tE G C W b)) (h : PPs X pos keys values (ps.map fun p => (tE G C W p.1, tE G C W p.2))) :
    PPs X pos (some pa :: keys) (pb :: values) (((a, b) :: ps).map fun p => (tE G C W p.1, tE G C W p.2)) := pps_cons hk hv h
theorem z_dct (z : Cz cm G L sub C W X N sc) {keys : List (Option Expr)} {values : List Expr} (ps : List (E × E)) (h : PPs X pos keys values (ps.map fun p => (tE G C W p.1, tE G C W p.2))) {es : List E} (hes : es = flat ps := by rfl) (hall : keys.all (·.isSome) = true := by rfl) (hl : keys.length = values.length := by rfl) (h0 : keys ≠ [] := by exact List.cons_ne_nil _ _) (h15 : ps.length ≤ 15 := by decide) (hn : keys.length = ps.length := by rfl) : PE X (.Dict keys values pos) (tE G C W (.dct es)) := by
  subst hes; exact snd_dct z.gx z.hu h hall hl h0 h15 hn
/-! ### fields, methods, instances -/
section
variable {f nm mn : Str} {xf m ci nn : Nat} {apos : Pos}
theorem z_fld (z : Cz cm G L sub C W X N sc) (xf : Nat) (ha : PE X pa (tB G C W a)) (hf : L.fld[xf]? = some f := by rfl) (hb : attributeBase pa f X.env (eval pa X.env) = eval pa X.env := by rfl) : PE X (.Attribute pa f pos) (tE G C W (.fld a xf)) := by
  have e := z.fn_ xf f hf
  subst e
  exact snd_fld z.gx ha hb
theorem z_fldb (z : Cz cm G L sub C W X N sc) (xf : Nat) (ha : PE X pa (tB G C W (.var i))) (hf : L.fld[xf]? = some f := by rfl) (hb : attributeBase pa f X.env (eval pa X.env) = eval pa X.env := by rfl) : PE X (.Attribute pa f pos) (tB G C W (.fld (.var i) xf)) := by
  have e := z.fn_ xf f hf
  subst e
  exact snd_fld_b z.gx ha hb
theorem z_setF (z : Cz cm G L sub C W X N sc) (i j xf : Nat) (ha : PE X pa (tE G C W a)) (h1 : N[i]? = some nm := by rfl) (h2 : sc.names[j]? = some (nm, kk) := by rfl) (h3 : visK kk = true := by rfl) (hf : L.fld[xf]? = some f := by rfl) (hs : swapsWith pa (some (.Attribute (.Name nm p) f p')) pos.line X.env = pure false := by rfl) :
    PS X (.Assign [.Attribute (.Name nm p) f p'] pa pos) (tS G C sub W (.setF i xf a)) := snd_setF z.gx (z.at_ h1) (z.vis h2 h3) (z.db i nm h1).1 (z.db i nm h1).2 (z.fn_ xf f hf) z.fo ha hs
theorem z_ownF (z : Cz cm G L sub C W X N sc) (i j xf : Nat) (ha : PE X pa (tE G C W a)) (h1 : N[i]? = some nm := by rfl) (h2 : sc.names[j]? = some (nm, kk) := by rfl) (h3 : visK kk = true := by rfl) (hf : L.fld[xf]? = some f := by rfl) (hs : swapsWith pa (some (.Attribute (.Name nm p) f p')) pos.line X.env = pure false := by rfl) :
    PS X (.Assign [.Attribute (.Name nm p) f p'] pa pos) (tS G C sub W (.ownF i xf a)) := snd_ownF z.gx (z.at_ h1) (z.vis h2 h3) (z.db i nm h1).1 (z.db i nm h1).2 (z.fn_ xf f hf) z.fo ha hs
theorem z_augF (z : Cz cm G L sub C W X N sc) (o : Bop) (i j xf : Nat) (ha : PE X pa (tE G C W a)) (h1 : N[i]? = some nm := by rfl) (h2 : sc.names[j]? = some (nm, kk) := by rfl) (h3 : visK kk = true := by rfl) (hf : L.fld[xf]? = some f := by rfl) (sp : (eff a).all (fun q => dj (.v i) q) = true := by rfl) :
    PS X (.AugAssign (.Attribute (.Name nm p) f p') o.py pa pos) (tS G C sub W (.augF i xf o a)) := snd_augF z.gx o (z.at_ h1) (z.vis h2 h3) (z.db i nm h1).1 (z.db i nm h1).2 (z.fn_ xf f hf) z.fo ha sp
variable {pl : Sem Bool} {pe : Expr}
theorem z_meth (z : Cz true G L sub C W X N sc) (m : Nat) (ha : PE X pa (tB G C W a)) (hb : PA X (pe :: pes) (tEs G C W es)) (hm : L.mth[m]? = some (mn, n) := by rfl) (hn : es.length = n := by rfl) (sp : sep a (effs es) = true := by rfl)
    (hst : starEach (pe :: pes) X.env = (false, eval pe X.env) :: starEach pes X.env := by rfl) (hpl : (backTo pos (starEach pes X.env)).any (·.1) = false := by rfl)
    (ht : eval (.Call (.Attribute pa mn apos) (pe :: pes) [] pos) X.env = (do
      let ov ← eval pa X.env
      standAt apos.atName
      let (f, first) ← holding [ov] (getMethod ov mn pl)
      callWith pos f first (backTo pos (starEach (pe :: pes) X.env)) (backToKw pos (keywordEach [] X.env))) := by rfl) : PE X (.Call (.Attribute pa mn apos) (pe :: pes) [] pos) (tE G C W (.meth m a es)) :=
  snd_meth z.gx (fun c f h => let ⟨fa, h1, h2⟩ := (z.mt m mn n hm).2 c f h; ⟨fa, true, h1, z.fk rfl f fa (n + 1) true h2⟩) (z.mt m mn n hm).1 z.tk ha hb hn sp hst hpl ht
theorem z_meth0 (z : Cz true G L sub C W X N sc) (m : Nat) (ha : PE X pa (tB G C W a)) (hm : L.mth[m]? = some (mn, 0) := by rfl)
    (ht : eval (.Call (.Attribute pa mn apos) [] [] pos) X.env = (do
      let ov ← eval pa X.env
      standAt apos.atName
      let (f, first) ← holding [ov] (getMethod ov mn pl)
      callWith pos f first (backTo pos (starEach [] X.env)) (backToKw pos (keywordEach [] X.env))) := by rfl) : PE X (.Call (.Attribute pa mn apos) [] [] pos) (tE G C W (.meth m a [])) :=
  snd_meth0 z.gx (fun c f h => let ⟨fa, h1, h2⟩ := (z.mt m mn 0 hm).2 c f h; ⟨fa, true, h1, z.fk rfl f fa 1 true h2⟩) (z.mt m mn 0 hm).1 z.tk ha ht
theorem z_mex (z : Cz true G L sub C W X N sc) (m : Nat) (ha : PE X pa (tB G C W (.var i))) (hb : PA X (pe :: pes) (tEs G C W es)) (hm : L.mth[m]? = some (mn, n) := by rfl) (hn : es.length = n := by rfl) (sp : (effs es).all (fun q => dj (.v i) q) = true := by rfl)
    (hst : starEach (pe :: pes) X.env = (false, eval pe X.env) :: starEach pes X.env := by rfl) (hpl : (backTo pos (starEach pes X.env)).any (·.1) = false := by rfl)
    (ht : eval (.Call (.Attribute pa mn apos) (pe :: pes) [] pos) X.env = (do
      let ov ← eval pa X.env
      standAt apos.atName
      let (f, first) ← holding [ov] (getMethod ov mn pl)
      callWith pos f first (backTo pos (starEach (pe :: pes) X.env)) (backToKw pos (keywordEach [] X.env))) := by rfl) : PE X (.Call (.Attribute pa mn apos) (pe :: pes) [] pos) (tE G C W (.mex m (.v i) es)) :=
  snd_mex z.gx (fun c f h => let ⟨fa, h1, h2⟩ := (z.mt m mn n hm).2 c f h; ⟨fa, h1, z.fk rfl f fa (n + 1) true h2⟩) (z.mt m mn n hm).1 z.tk ha hb hn sp hst hpl ht
theorem z_mex0 (z : Cz true G L sub C W X N sc) (m : Nat) (ha : PE X pa (tB G C W (.var i))) (hm : L.mth[m]? = some (mn, 0) := by rfl)
    (ht : eval (.Call (.Attribute pa mn apos) [] [] pos) X.env = (do
      let ov ← eval pa X.env
      standAt apos.atName
      let (f, first) ← holding [ov] (getMethod ov mn pl)
      callWith pos f first (backTo pos (starEach [] X.env)) (backToKw pos (keywordEach [] X.env))) := by rfl) : PE X (.Call (.Attribute pa mn apos) [] [] pos) (tE G C W (.mex m (.v i) [])) :=
  snd_mex0 z.gx (fun c f h => let ⟨fa, h1, h2⟩ := (z.mt m mn 0 hm).2 c f h; ⟨fa, h1, z.fk rfl f fa 1 true h2⟩) (z.mt m mn 0 hm).1 z.tk ha ht
theorem z_new (z : Cz true G L sub C W X N sc) (t j : Nat) {c f : Nat} (ha : PA X (pa :: pes) (tEs G C W es)) (h1 : L.nws[t]? = some (x, c, f, n) := by rfl) (h2 : sc.names[j]? = some (x, .globalImplicit) := by rfl) (hn : es.length = n := by rfl)
    (he : starEach (pa :: pes) X.env = (false, eval pa X.env) :: starEach pes X.env := by rfl) (hpl : (backTo pos (starEach pes X.env)).any (·.1) = false := by rfl) : PE X (.Call (.Name x p) (pa :: pes) [] pos) (tE G C W (.new c es)) :=
  let ⟨q1, q2, q3, q4, fa, q5, q6⟩ := z.nw t x c f n h1
  snd_new q5 (z.fk rfl f fa (n + 1) true q6) q4 q3 z.tk (z.gl_ h2) q1 ha hn q2 he hpl
theorem z_new0 (z : Cz true G L sub C W X N sc) (t j : Nat) {c f : Nat} (h1 : L.nws[t]? = some (x, c, f, 0) := by rfl) (h2 : sc.names[j]? = some (x, .globalImplicit) := by rfl) : PE X (.Call (.Name x p) [] [] pos) (tE G C W (.new c [])) :=
  let ⟨q1, q2, q3, q4, fa, q5, q6⟩ := z.nw t x c f 0 h1
  snd_new0 q5 (z.fk rfl f fa 1 true q6) q4 q3 z.tk (z.gl_ h2) q1 q2
end
/-! ### methods of data -/
section
variable {pe : Expr} {apos : Pos}
theorem z_get1 (z : Cz cm G L sub C W X N sc) (ha : PE X pa (tB G C W a)) (hb : PE X pe (tE G C W e)) (sp : sep a (effs [e]) = true := by rfl) (h1 : attributeBase pa "get" X.env (eval pa X.env) = eval pa X.env := by rfl)
    (h2 : ((backTo pos (starEach [pe] X.env)).all (fun x => !x.1) && (backToKw pos (keywordEach [] X.env)).all (fun x => x.1.isSome) && decide ([pe].length + ([] : List Keyword).length + (if ([] : List Keyword).isEmpty then 0 else 1) < 30)) = true := by rfl)
    (h3 : (apos.endLine == pos.line) = true := by rfl) (h4 : starEach [pe] X.env = (false, eval pe X.env) :: starEach [] X.env := by rfl) (h5 : (backTo pos (starEach [] X.env)).any (·.1) = false := by rfl) : PE X (.Call (.Attribute pa "get" apos) [pe] [] pos) (tE G C W (.mt .get1 a [e])) :=
  (pe_bx F.plainAttrs_dict F.slot_dict_get F.type_dict_get (mt_get1 z.gx z.hu) ha (z_ac hb z_an h4) h1 h2 h3 h4 h5).imp fun σ H Q h => mt_post (fun x d H Hf l r ty => by cases d <;> first | (cases ty; done) | exact dict_ty z.gx l r) sp h
theorem z_get2 (z : Cz cm G L sub C W X N sc) {pe2 : Expr} {e2 : E} (ha : PE X pa (tB G C W a)) (hb : PE X pe (tE G C W e)) (hb2 : PE X pe2 (tE G C W e2)) (sp : sep a (effs [e, e2]) = true := by rfl) (h1 : attributeBase pa "get" X.env (eval pa X.env) = eval pa X.env := by rfl)
    (h2 : ((backTo pos (starEach [pe, pe2] X.env)).all (fun x => !x.1) && (backToKw pos (keywordEach [] X.env)).all (fun x => x.1.isSome) && decide ([pe, pe2].length + ([] : List Keyword).length + (if ([] : List Keyword).isEmpty then 0 else 1) < 30)) = true := by rfl)
    (h3 : (apos.endLine == pos.line) = true := by rfl) (h4 : starEach [pe, pe2] X.env = (false, eval pe X.env) :: starEach [pe2] X.env := by rfl) (h6 : starEach [pe2] X.env = (false, eval pe2 X.env) :: starEach [] X.env := by rfl) (h5 : (backTo pos (starEach [pe2] X.env)).any (·.1) = false := by rfl) : PE X (.Call (.Attribute pa "get" apos) [pe, pe2] [] pos) (tE G C W (.mt .get2 a [e, e2])) :=
  (pe_bx F.plainAttrs_dict F.slot_dict_get F.type_dict_get (mt_get2 z.gx z.hu) ha (z_ac hb (z_ac hb2 z_an h6) h4) h1 h2 h3 h4 h5).imp fun σ H Q h => mt_post (fun x d H Hf l r ty => by cases d <;> first | (cases ty; done) | exact dict_ty z.gx l r) sp h
theorem z_index (z : Cz cm G L sub C W X N sc) (ha : PE X pa (tB G C W a)) (hb : PE X pe (tE G C W e)) (sp : sep a (effs [e]) = true := by rfl) (h1 : attributeBase pa "index" X.env (eval pa X.env) = eval pa X.env := by rfl)
    (h2 : ((backTo pos (starEach [pe] X.env)).all (fun x => !x.1) && (backToKw pos (keywordEach [] X.env)).all (fun x => x.1.isSome) && decide ([pe].length + ([] : List Keyword).length + (if ([] : List Keyword).isEmpty then 0 else 1) < 30)) = true := by rfl)
    (h3 : (apos.endLine == pos.line) = true := by rfl) (h4 : starEach [pe] X.env = (false, eval pe X.env) :: starEach [] X.env := by rfl) (h5 : (backTo pos (starEach [] X.env)).any (·.1) = false := by rfl) : PE X (.Call (.Attribute pa "index" apos) [pe] [] pos) (tE G C W (.mt .index a [e])) :=
  (pe_bx F.plainAttrs_list F.slot_list_index F.type_list_index (mt_index z.gx z.hu) ha (z_ac hb z_an h4) h1 h2 h3 h4 h5).imp fun σ H Q h => mt_post (fun x d H Hf l r ty => by cases d <;> first | (cases ty; done) | exact list_ty z.gx r) sp h
end
/-! ### append, extend, pop -/
theorem z_append (z : Cz cm G L sub C W X N sc) {q : Pl} {po : Expr} {apos : Pos} (ho : PE X po (tB G C W (plE q))) (ha : PE X pa (tE G C W a)) (sp : (effs [a]).all (fun r => dj q r) = true := by rfl)
    (hbase : attributeBase po "append" X.env (eval po X.env) = eval po X.env := by rfl)
    (hfew : ((backTo pos (starEach [pa] X.env)).all (fun x => !x.1) && (backToKw pos (keywordEach [] X.env)).all (fun x => x.1.isSome) && decide ([pa].length + ([] : List Keyword).length + (if ([] : List Keyword).isEmpty then 0 else 1) < 30)) = true := by rfl)
    (hline : (apos.endLine == pos.line) = true := by rfl) (hs : starEach [pa] X.env = (false, eval pa X.env) :: starEach [] X.env := by rfl) (hplain : (backTo pos (starEach [] X.env)).any (·.1) = false := by rfl) :
    PE X (.Call (.Attribute po "append" apos) [pa] [] pos) (tE G C W (.mu .append q [a])) :=
  (pe_bm F.plainAttrs_list F.slot_list_append F.type_list_append mt_append ho (z_ac ha z_an hs) hbase hfew hline hs hplain).imp fun σ H Q h => mu_post mk_append (lst_ty ⟨by decide, by decide⟩) sp h
theorem z_extend (z : Cz cm G L sub C W X N sc) {q : Pl} {po : Expr} {apos : Pos} (ho : PE X po (tB G C W (plE q))) (ha : PE X pa (tE G C W a)) (sp : (effs [a]).all (fun r => dj q r) = true := by rfl)
    (hbase : attributeBase po "extend" X.env (eval po X.env) = eval po X.env := by rfl)
    (hfew : ((backTo pos (starEach [pa] X.env)).all (fun x => !x.1) && (backToKw pos (keywordEach [] X.env)).all (fun x => x.1.isSome) && decide ([pa].length + ([] : List Keyword).length + (if ([] : List Keyword).isEmpty then 0 else 1) < 30)) = true := by rfl)
    (hline : (apos.endLine == pos.line) = true := by rfl) (hs : starEach [pa] X.env = (false, eval pa X.env) :: starEach [] X.env := by rfl) (hplain : (backTo pos (starEach [] X.env)).any (·.1) = false := by rfl) :
    PE X (.Call (.Attribute po "extend" apos) [pa] [] pos) (tE G C W (.mu .extend q [a])) :=
  (pe_bm F.plainAttrs_list F.slot_list_extend F.type_list_extend mt_extW ho (z_ac ha z_an hs) hbase hfew hline hs hplain).imp fun σ H Q h => mu_post (mk_extend z.gx) (lst_ty ⟨by decide, by decide⟩) sp h
theorem tB0 {ty : String} {r : V → List V → Hp → VK → Prop} {to : TE} (mono : ∀ σ H Q Q', (∀ v H, Q v H → Q' v H) → to σ H Q → to σ H Q') {σ : L2.St} {H : Hp} {Q : VK} (h : tBM X.K ty r to (tEs G C W []) σ H Q) : tBM0 X.K ty r to σ H Q :=
  mono _ _ _ _ (fun v H1 ⟨h1, h2⟩ => ⟨h1, nil_tEs h2⟩) h
theorem z_pop (z : Cz cm G L sub C W X N sc) {q : Pl} {po : Expr} {apos : Pos} (ho : PE X po (tB G C W (plE q)))
    (hbase : attributeBase po "pop" X.env (eval po X.env) = eval po X.env := by rfl) (hline : (apos.endLine == pos.line) = true := by rfl) :
    PE X (.Call (.Attribute po "pop" apos) [] [] pos) (tE G C W (.mu .pop q [])) :=
  (pe_bm0 F.plainAttrs_list F.slot_list_pop F.type_list_pop mt_pop ho hbase hline).imp fun σ H Q h => tB0 (tB_mono _) (mu_post mk_pop (lst_ty ⟨by decide, by decide⟩) rfl h)
theorem z_popD (z : Cz cm G L sub C W X N sc) {q : Pl} {po : Expr} {apos : Pos} (ho : PE X po (tB G C W (plE q))) (ha : PE X pa (tE G C W a)) (hb : PE X pb (tE G C W b)) (sp : (effs [a, b]).all (fun r => dj q r) = true := by rfl)
    (h1 : attributeBase po "pop" X.env (eval po X.env) = eval po X.env := by rfl)
    (h2 : ((backTo pos (starEach [pa, pb] X.env)).all (fun x => !x.1) && (backToKw pos (keywordEach [] X.env)).all (fun x => x.1.isSome) && decide ([pa, pb].length + ([] : List Keyword).length + (if ([] : List Keyword).isEmpty then 0 else 1) < 30)) = true := by rfl)
    (h3 : (apos.endLine == pos.line) = true := by rfl) (h4 : starEach [pa, pb] X.env = (false, eval pa X.env) :: starEach [pb] X.env := by rfl) (h6 : starEach [pb] X.env = (false, eval pb X.env) :: starEach [] X.env := by rfl) (h5 : (backTo pos (starEach [pb] X.env)).any (·.1) = false := by rfl) :
    PE X (.Call (.Attribute po "pop" apos) [pa, pb] [] pos) (tE G C W (.mu .dpopD q [a, b])) :=
  (pe_bx F.plainAttrs_dict F.slot_dict_pop F.type_dict_pop (mt_popD z.gx) ho (z_ac ha (z_ac hb z_an h6) h4) h1 h2 h3 h4 h5).imp fun σ H Q h => mu_postG (X := X) mk_popD (popD_ty z.gx) sp h
theorem z_lv (z : Cz true G L sub C W X N sc) (j t : Nat) {cpos apos : Pos} (ha : PE X pa (tB G C W a)) (h2 : sc.names[j]? = some (("list" : Str), .globalImplicit) := by rfl) (h3 : L.tbl[t]? = some (("list" : Str), none) := by rfl) (hbase : attributeBase pa "values" X.env (eval pa X.env) = eval pa X.env := by rfl) (hline : (apos.endLine == cpos.line) = true := by rfl)
    (he : starEach [.Call (.Attribute pa "values" apos) [] [] cpos] X.env = (false, eval (.Call (.Attribute pa "values" apos) [] [] cpos) X.env) :: starEach [] X.env := by rfl) (hpl : (backTo pos (starEach [] X.env)).any (·.1) = false := by rfl) :
    PE X (.Call (.Name "list" p) [.Call (.Attribute pa "values" apos) [] [] cpos] [] pos) (tE G C W (.bs .list (.itr .values [a]))) :=
  snd_listvals z.gx (z.hc rfl) (z.gl_ h2) (z.mg t _ _ h3).1 ha hbase hline he hpl
theorem z_tupRg2 (z : Cz true G L sub C W X N sc) (j t j2 t2 : Nat) {p0 pos0 : Pos} (ha : PE X pa (tE G C W a)) (hb : PE X pb (tE G C W b)) (h2 : sc.names[j]? = some (("tuple" : Str), .globalImplicit) := by rfl) (h3 : L.tbl[t]? = some (("tuple" : Str), none) := by rfl) (h4 : sc.names[j2]? = some (("range" : Str), .globalImplicit) := by rfl) (h5 : L.tbl[t2]? = some (("range" : Str), none) := by rfl)
    (hs : starEach [pa, pb] X.env = (false, eval pa X.env) :: starEach [pb] X.env := by rfl) (hs2 : starEach [pb] X.env = [(false, eval pb X.env)] := by rfl) (hpl : (backTo pos0 (starEach [pb] X.env)).any (·.1) = false := by rfl) (na : starEach [.Call (.Name "range" p0) [pa, pb] [] pos0] X.env = (false, eval (.Call (.Name "range" p0) [pa, pb] [] pos0) X.env) :: starEach [] X.env := by rfl) : PE X (.Call (.Name "tuple" p) [.Call (.Name "range" p0) [pa, pb] [] pos0] [] pos) (tE G C W (.bs .tuple (.itr .range2 [a, b]))) :=
  snd_tupRg2 (z.hc rfl) (z.gl_ h4) (z.mg t2 _ _ h5).1 hs hpl na (z.gl_ h2) (z.mg t _ _ h3).1 (z_ac ha (z_ac hb z_an hs2) hs)
theorem z_lstRg2 (z : Cz true G L sub C W X N sc) (j t j2 t2 : Nat) {p0 pos0 : Pos} (ha : PE X pa (tE G C W a)) (hb : PE X pb (tE G C W b)) (h2 : sc.names[j]? = some (("list" : Str), .globalImplicit) := by rfl) (h3 : L.tbl[t]? = some (("list" : Str), none) := by rfl) (h4 : sc.names[j2]? = some (("range" : Str), .globalImplicit) := by rfl) (h5 : L.tbl[t2]? = some (("range" : Str), none) := by rfl)
    (hs : starEach [pa, pb] X.env = (false, eval pa X.env) :: starEach [pb] X.env := by rfl) (hs2 : starEach [pb] X.env = [(false, eval pb X.env)] := by rfl) (hpl : (backTo pos0 (starEach [pb] X.env)).any (·.1) = false := by rfl) (na : starEach [.Call (.Name "range" p0) [pa, pb] [] pos0] X.env = (false, eval (.Call (.Name "range" p0) [pa, pb] [] pos0) X.env) :: starEach [] X.env := by rfl) : PE X (.Call (.Name "list" p) [.Call (.Name "range" p0) [pa, pb] [] pos0] [] pos) (tE G C W (.bs .list (.itr .range2 [a, b]))) :=
  snd_lstRg2 (z.hc rfl) (z.gl_ h4) (z.mg t2 _ _ h5).1 hs hpl na (z.gl_ h2) (z.mg t _ _ h3).1 (z_ac ha (z_ac hb z_an hs2) hs)
theorem z_tupRg1 (z : Cz true G L sub C W X N sc) (j t j2 t2 : Nat) {p0 pos0 : Pos} (ha : PE X pa (tE G C W a)) (h2 : sc.names[j]? = some (("tuple" : Str), .globalImplicit) := by rfl) (h3 : L.tbl[t]? = some (("tuple" : Str), none) := by rfl) (h4 : sc.names[j2]? = some (("range" : Str), .globalImplicit) := by rfl) (h5 : L.tbl[t2]? = some (("range" : Str), none) := by rfl)
    (hs : starEach [pa] X.env = (false, eval pa X.env) :: starEach [] X.env := by rfl) (na : starEach [.Call (.Name "range" p0) [pa] [] pos0] X.env = (false, eval (.Call (.Name "range" p0) [pa] [] pos0) X.env) :: starEach [] X.env := by rfl) : PE X (.Call (.Name "tuple" p) [.Call (.Name "range" p0) [pa] [] pos0] [] pos) (tE G C W (.bs .tuple (.itr .range1 [a]))) :=
  snd_tupRg1 (z.hc rfl) (z.gl_ h4) (z.mg t2 _ _ h5).1 hs na (z.gl_ h2) (z.mg t _ _ h3).1 (z_ac ha z_an hs)
theorem z_lstRg1 (z : Cz true G L sub C W X N sc) (j t j2 t2 : Nat) {p0 pos0 : Pos} (ha : PE X pa (tE G C W a)) (h2 : sc.names[j]? = some (("list" : Str), .globalImplicit) := by rfl) (h3 : L.tbl[t]? = some (("list" : Str), none) := by rfl) (h4 : sc.names[j2]? = some (("range" : Str), .globalImplicit) := by rfl) (h5 : L.tbl[t2]? = some (("range" : Str), none) := by rfl)
    (hs : starEach [pa] X.env = (false, eval pa X.env) :: starEach [] X.env := by rfl) (na : starEach [.Call (.Name "range" p0) [pa] [] pos0] X.env = (false, eval (.Call (.Name "range" p0) [pa] [] pos0) X.env) :: starEach [] X.env := by rfl) : PE X (.Call (.Name "list" p) [.Call (.Name "range" p0) [pa] [] pos0] [] pos) (tE G C W (.bs .list (.itr .range1 [a]))) :=
  snd_lstRg1 (z.hc rfl) (z.gl_ h4) (z.mg t2 _ _ h5).1 hs na (z.gl_ h2) (z.mg t _ _ h3).1 (z_ac ha z_an hs)
end
end Lw

set_option autoImplicit false
set_option linter.all false
set_option Elab.async false
set_option maxRecDepth 100000
set_option maxHeartbeats 1000000
/-! LMain: all defs of a text keep what their compact bodies say, at any fuel. -/
namespace Lw
open PySem PySem.Spec PyProof.Rows L2
open Gt

/-- a def: its statement, its names, its parameters, its compact form, is its first one an instance that is changed -/
structure Rw where
  st : Stmt
  N : List Str
  ps : List Str
  fn : Fn
  fx : Bool

/-- what is looked at once -/
def Rw.good (r : Rw) : Bool := C8.scC r.N r.ps (C8.fnScope r.st) && kdC (C8.fnScope r.st).names && dbC r.N && decide (r.N.length = r.fn.ns) && decide (r.ps.length = r.fn.np) && (!r.fx || !(asgss r.fn.body).contains 0)

/-- the facts about one def -/
structure RwOk (G : Gx) (L : Lk) (sub : Nat → Nat → Bool) (r : Rw) (a : Addr) : Prop where
  good : r.good = true
  fun_ : ∃ x qual fd, C8.Fun G.K x qual r.st a fd ∧ Binds G.K fd r.ps []
  kp : PySem.W.keepIn G.K (.ref a) = true
  body : ∀ (C : Cf) (W : WX) (X : Cx), Cz true G L sub C W X r.N (C8.fnScope r.st) → Bd X → PSs X (C8.fnBody r.st) (tSs G C sub W r.fn.body)

section
variable {G : Gx} {L : Lk} {P : Pg} {base : Heap} {mg : Str → Option Value}
theorem start_len {N : List Str} {vs : List V} : (L2.start N vs).length = vs.length + (N.length - vs.length) := by
  unfold L2.start; rw [List.length_append, List.length_map, List.length_replicate]
theorem rel_start {N : List Str} {ts : List Gt} {n : Nat} (hn : ts.length + n = N.length) : Rel (L2.start N (ts.map rt)) (ts ++ List.replicate n .un) := by
  refine ⟨?_, fun i t h ne => ?_⟩
  · rw [start_len, List.length_append, List.length_replicate, List.length_map]; omega
  · by_cases hi : i < ts.length
    · rw [List.getElem?_append_left hi] at h
      unfold L2.start
      rw [List.getElem?_append_left (by simpa using hi), List.getElem?_map, List.getElem?_map, h]; rfl
    · rw [List.getElem?_append_right (by omega), List.getElem?_replicate] at h
      split at h
      · cases h; exact absurd rfl ne
      · cases h
theorem Ok.more {H Hf : Hp} {ts : List Gt} (ok : Ok G H Hf ts) : Ok G H Hf (.un :: ts) :=
  (ok.sh (.dat .non)).less .un (List.Sublist.refl _)
theorem Ok.uns {H Hf : Hp} {ts Rm : List Gt} (ok : Ok G H Hf (ts ++ Rm)) (n : Nat) : Ok G H Hf ((ts ++ List.replicate n .un) ++ Rm) := by
  induction n with
  | zero => rw [List.replicate_zero, List.append_nil]; exact ok
  | succ n ih =>
    have h : Ok G H Hf (.un :: ((ts ++ List.replicate n .un) ++ Rm)) := ih.more
    refine h.perm ?_
    rw [List.replicate_succ]
    have e : (ts ++ Gt.un :: List.replicate n Gt.un) ++ Rm = ts ++ Gt.un :: (List.replicate n Gt.un ++ Rm) := by simp
    rw [e, List.append_assoc]
    exact List.perm_middle
/-- the call's end, from the body's -/
theorem post_end {sub : Nat → Nat → Bool} {C : Cf} {b : List S} {np : Nat} {fx : Bool} {ts Rm : List Gt} {Hf : Hp} {Q : VK} {E : XK} {σ : L2.St} {s0 : St} (hfx : (!fx || !(asgss b).contains 0) = true) (hl : ts.length = np) (h0 : ∀ t0, ts[0]? = some t0 → σ[0]? = some (some t0.rt))
    (hl2 : np ≤ σ.length) (h : PostC G fx (finish np (execs C sub b s0)) ts Rm Hf Q E) : PostS G (fun cls d _ H => E cls d H) (execs C sub b s0) (asgss b) σ Rm Hf { nx := fun _ H' => Q .non H', rt := Q } := by
  have tk : ∀ {gs : List Gt} {H Hf : Hp} {t : Gt}, Ok G H Hf (t :: (gs ++ Rm)) → Ok G H Hf (t :: (gs.take np ++ Rm)) := fun ok => ok.sub (((List.take_sublist _ _).append (List.Sublist.refl _)).cons_cons _)
  have tk0 : ∀ {gs : List Gt} {H Hf : Hp}, Ok G H Hf (gs ++ Rm) → Ok G H Hf (gs.take np ++ Rm) := fun ok => ok.sub ((List.take_sublist _ _).append (List.Sublist.refl _))
  have fst : ∀ {σ' : L2.St} {gs' : List Gt}, Rel σ' gs' → SameS (asgss b) σ σ' → (fx = true → ∀ u, (gs'.take np)[0]? = some u → u ≠ .un → ∃ t0, ts[0]? = some t0 ∧ t0.rt = u.rt) := fun {σ' gs'} rel sm f u hu nu => by
    subst f
    have hc : 0 ∉ asgss b := by
      intro q
      have : (asgss b).contains 0 = true := List.contains_iff_mem.mpr q
      rw [this] at hfx; cases hfx
    have e1 := sm 0 hc
    have hnp : 0 < np := by
      rcases Nat.eq_zero_or_pos np with z | z
      · subst z; simp at hu
      · exact z
    have hu' : gs'[0]? = some u := by
      rw [List.getElem?_take_of_lt hnp] at hu; exact hu
    have e2 := rel.2 0 u hu' nu
    cases ht : ts[0]? with
    | none =>
      have := List.getElem?_eq_none_iff.mp ht
      omega
    | some t0 =>
      refine ⟨t0, rfl, ?_⟩
      have e3 := h0 t0 ht
      rw [e1, e3] at e2
      injection e2 with e2
      injection e2
  cases er : execs C sub b s0 with
  | no => rw [er] at h; exact h
  | exc c p s =>
    rw [er] at h
    intro d σ' H' Hf' gs' le ok es rel sm ex
    exact h d H' Hf' (gs'.take np) le (tk0 ok) (by rw [List.map_take, es]) (fst rel sm) ex
  | ok fl s =>
    rw [er] at h
    cases fl with
    | nx =>
      intro σ' H' Hf' gs' le ok es rel sm
      have ok2 : Ok G H' Hf' (.sh .non (.dat .none) :: (gs'.take np ++ Rm)) := (tk0 ok).sh (.dat .non)
      exact h H' Hf' (.sh .non (.dat .none)) (gs'.take np) (fun e => by cases e) le ok2 rfl (by rw [List.map_take, es]) (fst rel sm)
    | brk => exact h.elim
    | cnt => exact h.elim
    | ret o =>
      intro σ' H' Hf' t gs' nt le ok et es rel sm
      exact h H' Hf' t (gs'.take np) nt le (tk ok) et (by rw [List.map_take, es]) (fst rel sm)
/-- all of it -/
structure All (G : Gx) (L : Lk) (P : Pg) (mg : Str → Option Value) : Prop where
  rows : ∀ (f : Nat) (a : Addr) (n : Nat) (b : Bool), L.fns[f]? = some (a, n, b) → ∃ r : Rw, P.fn f = some r.fn ∧ r.fn.np = n ∧ r.fx = b ∧ RwOk G L P.sub r a
  tb : ∀ (i : Nat) (x : Str) (u : Option Value), L.tbl[i]? = some (x, u) → mg x = u ∧ (x == ("__debug__" : Str)) = false ∧ x ≠ "__name__"
  gl : ∀ (g : Nat) (x : Str) (d : D), L.gv[g]? = some (x, d) → P.glb g = some d ∧ (x == ("__debug__" : Str)) = false ∧ ∃ v u, mg x = some u ∧ RelV v u ∧ ∀ Hf, Rp G Hf v d
  cl : ∀ (i : Nat) (x : Str) (c : Nat), L.cls[i]? = some (x, c) → mg x = some (.ref (G.ca c)) ∧ (x == ("__debug__" : Str)) = false ∧ x ≠ "__name__"
  ex : ∀ c k : Nat, P.sub c c = true → P.sub k k = true → PySem.W.exmOne G.K (.ref (G.ca c)) (.ref (G.ca k)) = some (P.sub c k)
  rs : ∀ c : Nat, P.sub c c = true → PySem.W.excIn G.K (G.ca c) veB "ValueError.__new__" = true ∧ PySem.W.keepIn G.K (.ref (G.ca c)) = true ∧ PySem.W.subIn G.K (.ref (G.ca c)) (.type "BaseException") = some true ∧ PySem.W.typeIn G.K (.ref (G.ca c)) = some (.type "type")
  fn_ : ∀ (i : Nat) (f : Str), L.fld[i]? = some f → G.fnm i = f
  fo : ∀ c y : Nat, P.fo c y = true → FOk G c y
  mt : ∀ (m : Nat) (mn : Str) (n : Nat), L.mth[m]? = some (mn, n) → (∀ i, i < G.nf → G.fnm i ≠ mn) ∧ ∀ c f, P.meth c m = some f → ∃ fa, Meth G.K (G.ca c) mn fa ∧ L.fns[f]? = some (fa, n + 1, true)
  nw : ∀ (i : Nat) (x : Str) (c f n : Nat), L.nws[i]? = some (x, c, f, n) → mg x = some (.ref (G.ca c)) ∧ (x == ("__debug__" : Str)) = false ∧ P.init c = some f ∧ COk G c ∧ ∃ fa, Mk G.K (G.ca c) fa ∧ L.fns[f]? = some (fa, n + 1, true)
def cfOf (P : Pg) (n : Nat) : Cf := ⟨P.glb, P.meth, P.init, P.fo, callF P n, P.wf⟩
theorem map_uns (ts : List Gt) (n : Nat) : (ts ++ List.replicate n Gt.un).map er = ts.map er ++ List.replicate n O.un := by
  rw [List.map_append, List.map_replicate]; rfl
theorem step_ok (hall : All G L P mg) {n : Nat} (ih : ∀ (f : Nat) (a : Addr) (np : Nat) (fx : Bool), L.fns[f]? = some (a, np, fx) →
      ∃ (fd : FuncData) (ps : List Str), FnOk G.prog G.w G.K mg base (CX G.prog G.w) (2 * n) a fd ps (spF G fx np (callF P n f)) ∧ Binds G.K fd ps [] ∧ PySem.W.keepIn G.K (.ref a) = true)
    {f : Nat} {a : Addr} {r : Rw} (hp : P.fn f = some r.fn) (ok : RwOk G L P.sub r a) {x qual : Str} {fd : FuncData} (F : C8.Fun G.K x qual r.st a fd) :
    FnOk G.prog G.w G.K mg base (CX G.prog G.w) (2 * n + 2) a fd r.ps (spF G r.fx r.fn.np (callF P (n + 1) f)) := by
  have hg := ok.good
  unfold Rw.good at hg
  simp only [Bool.and_eq_true, decide_eq_true_eq] at hg
  obtain ⟨⟨⟨⟨⟨g1, g2⟩, g3⟩, g4⟩, g5⟩, g6⟩ := hg
  have S := C8.fnScope_by g1
  obtain ⟨oc, od, dV, kV, doc, pm, an, cdv, ct, osl, rfl, lk, hcd⟩ := F.ex
  refine (fn_of (k := 2 * n + 1) lk hcd S (fun vs H Q E h => ?_) fun A outer s H vs Q E hr hsp => ?_)
  · obtain ⟨ts, _, _, _, e, _, hl, _⟩ := h
    rw [← e, List.length_map, hl, g5]
  · have z : Cz true G L P.sub (cfOf P n) (fun cls d _ H => E cls d H) (cxOf (CX G.prog G.w) G.prog G.w G.K mg base r.N qual (C8.fnScope r.st) a cdv A outer s H E) r.N (C8.fnScope r.st) :=
      { gx := ⟨rfl, rfl, rfl⟩
        hu := by have := hr.un; show (A.deeper _).units + 150 < _; omega
        hc := fun _ => rfl
        tk := takes_of rfl rfl rfl rfl
        en := rfl
        nm := rfl
        nd := S.nd
        db := db_of g3
        kd := kd_of g2
        mg := hall.tb
        fk := fun _ f' a' n' b' h' => by
          obtain ⟨fd', ps', F', hb', kp'⟩ := ih f' a' n' b' h'
          exact ⟨⟨2 * n, fd', ps', F', hr, hb'⟩, kp'⟩
        gl := hall.gl
        cl := hall.cl
        ex := hall.ex
        rs := fun c h => ⟨(hall.rs c h).1, (hall.rs c h).2.1, raises_own (hall.rs c h).2.2.1 (hall.rs c h).2.2.2⟩
        fn_ := hall.fn_
        fo := hall.fo
        mt := hall.mt
        nw := hall.nw }
    have w : Bd (cxOf (CX G.prog G.w) G.prog G.w G.K mg base r.N qual (C8.fnScope r.st) a cdv A outer s H E) := ⟨passes_of rfl, fun _ => rfl, rfl, rfl⟩
    refine ⟨_, ok.body _ _ _ z w, ?_⟩
    obtain ⟨ts, Rm, Hf, ok1, e, nu, hl, h⟩ := hsp
    subst e
    have hnp : r.fn.np ≤ r.fn.ns := by
      have e2 := congrArg List.length S.pre
      rw [List.length_take] at e2
      omega
    have hlen : ts.length + (r.fn.ns - r.fn.np) = r.N.length := by omega
    refine ⟨ts ++ List.replicate (r.fn.ns - r.fn.np) .un, Rm, Hf, ok1.uns _, rel_start hlen, ?_⟩
    rw [map_uns]
    have h : PostC G r.fx (callF P (n + 1) f (ts.map er)) ts Rm Hf Q E := h
    rw [callF, hp] at h
    have hal : (ts.map er).length = r.fn.np := by rw [List.length_map, hl]
    simp only [hal, if_true] at h
    exact post_end (sub := P.sub) (C := cfOf P n) g6 hl (fun t0 h0 => (rel_start hlen).2 0 t0 (by
      rw [List.getElem?_append_left]
      · exact h0
      · have := (List.getElem?_eq_some_iff.mp h0).1; exact this) (nu t0 (List.mem_of_getElem? h0))) (by rw [start_len, List.length_map]; omega) h
theorem level (hall : All G L P mg) : ∀ (n f : Nat) (a : Addr) (np : Nat) (fx : Bool), L.fns[f]? = some (a, np, fx) →
    ∃ (fd : FuncData) (ps : List Str), FnOk G.prog G.w G.K mg base (CX G.prog G.w) (2 * n) a fd ps (spF G fx np (callF P n f)) ∧ Binds G.K fd ps [] ∧ PySem.W.keepIn G.K (.ref a) = true := by
  intro n
  induction n with
  | zero =>
    intro f a np fx hf
    obtain ⟨r, hp, hn, hx, ok⟩ := hall.rows f a np fx hf
    obtain ⟨x, qual, fd, F, hb⟩ := ok.fun_
    exact ⟨fd, r.ps, ⟨fun vs H Q E h => by obtain ⟨_, _, _, _, _, _, _, h⟩ := h; exact h.elim, fun _ _ _ _ _ _ _ _ _ _ _ _ _ h => by obtain ⟨_, _, _, _, _, _, _, h⟩ := h; exact h.elim⟩, hb, ok.kp⟩
  | succ n ih =>
    intro f a np fx hf
    obtain ⟨r, hp, hn, hx, ok⟩ := hall.rows f a np fx hf
    obtain ⟨x, qual, fd, F, hb⟩ := ok.fun_
    subst hn
    subst hx
    exact ⟨fd, r.ps, step_ok hall ih hp ok F, hb, ok.kp⟩
end
end Lw

set_option autoImplicit false
set_option linter.all false
set_option Elab.async false
set_option maxRecDepth 100000
set_option maxHeartbeats 1000000
/-! LEnd: the head's facts, the law's promise. -/
namespace Lw
open PySem PySem.Spec PyProof.Rows L2
open Gt

/-- a def's datum for the head -/
def ddOf (at_ : Str × Option Str) (name qual : Str) (st : Stmt) : He.DefD := ⟨at_, name, qual, C8.fnArgs st, C8.fnBody st, C8.fnScope st, [], []⟩
/-- the facts that the head tells, one look more -/
abbrev AlM : Type := He.AlD × Bool
def obsM (n : Nat) (fa : List He.Fa) (fn : List He.DefD) (ex : PySem.W.Frag → Bool) (g : Addr → Option Obj) : AlM := (He.obsD fa fn (He.frG g (He.asD g n)), ex (He.frG g (He.asD g n)))
structure SaysM (fa : List He.Fa) (fn : List He.DefD) (ex : PySem.W.Frag → Bool) (K : PySem.W.Frag) : Prop where
  d : He.SaysD fa fn K
  x : ex K = true
def hookM (n : Nat) (fa : List He.Fa) (fn : List He.DefD) (ex : PySem.W.Frag → Bool) : PySem.W.Hook where
  α := AlM
  obs := fun s => obsM n fa fn ex s.heap.get?
  val := fun _ => (He.valD fn, true)
  says := fun _ h => ∃ K : PySem.W.Frag, K.In h ∧ SaysM fa fn ex K
  of := fun _ s e => ⟨_, He.frG_in, ⟨congrArg Prod.fst e, congrArg Prod.snd e⟩⟩
  keeps := fun _ _ _ ⟨K, hK, c⟩ k => ⟨K, PySem.W.Frag.In.keeps hK k, c⟩
theorem obsM_eq {n : Nat} {fa : List He.Fa} {fn : List He.DefD} {ex : PySem.W.Frag → Bool} {g : Addr → Option Obj} {s : Shared} (h : ∀ a, g a = s.heap.get? a) : obsM n fa fn ex g = (hookM n fa fn ex).obs s := by
  have e : g = s.heap.get? := funext h
  subst e; rfl
/-- a name of the top that is something that a module gave -/
def isB (K : PySem.W.Frag) (x : Str) (id : String) : Bool := He.eqO (PySem.W.nsIn K mainGlobals x) (some (some (.builtin id)))
theorem isB_ok {K : PySem.W.Frag} {h : Heap} {mg : Str → Option Value} (X : K.In h) (G : h.Ns mainGlobals mg) {x : Str} {id : String} (c : isB K x id = true) : mg x = some (.builtin id) := PySem.W.mg_of X G (He.eqO_ok c)

theorem look_at {l : List Bool} (h : l.all id = true) (i : Nat) {b : Bool} (e : l[i]? = some b) : b = true := List.all_eq_true.mp h b (List.mem_of_getElem? e)
theorem nodup_inj {l : List Str} (hn : l.Nodup) {i j : Nat} (hi : i < l.length) (hj : j < l.length) (h : l.getD i "" = l.getD j "") : i = j := by
  rw [List.getD_eq_getElem?_getD, List.getD_eq_getElem?_getD, List.getElem?_eq_getElem hi, List.getElem?_eq_getElem hj] at h
  exact (List.getElem_inj hn).mp h
theorem fn_at {l : List Str} {i : Nat} {f : Str} (h : l[i]? = some f) : l.getD i "" = f := by
  rw [List.getD_eq_getElem?_getD, h]; rfl
section
variable {G : Gx} {L : Lk}
theorem rwOk_of {r : Rw} {sub : Nat → Nat → Bool} {at_ : Str × Option Str} {x qual : Str} {fd : FuncData} (F : FunD G.K x qual (C8.fnArgs r.st) (C8.fnBody r.st) (C8.fnScope r.st) [] [] (He.fAd G.K at_) fd)
    (hb : ∀ (kV doc pm : Value) (an : Option Addr) (cdv ct : Value) (us : List Value), us.length = r.ps.length → bindArgs (PySem.W.fnOf x qual (C8.fnArgs r.st) (C8.fnBody r.st) (C8.fnScope r.st) .none kV doc pm an cdv ct) ⟨us, []⟩ = pure (r.ps.zip us))
    (g : r.good = true) (body : ∀ (C : Cf) (W : WX) (X : Cx), Cz true G L sub C W X r.N (C8.fnScope r.st) → Bd X → PSs X (C8.fnBody r.st) (tSs G C sub W r.fn.body)) : RwOk G L sub r (He.fAd G.K at_) where
  good := g
  kp := F.kp
  body := body
  fun_ := by
    have hbn := F.bindsN (ps := r.ps) (fun kV doc pm an cdv ct us hl => hb kV doc pm an cdv ct us hl)
    obtain ⟨oc, od, dV, kV, doc, pm, an, cdv, ct, osl, e, lk, hcd, _, _⟩ := F.ex
    exact ⟨x, qual, fd, ⟨oc, od, dV, kV, doc, pm, an, cdv, ct, osl, e, lk, hcd⟩, hbn⟩
/-- the law's promise -/
theorem end_sp {P : Pg} {n f m : Nat} (hlaw : ∀ ns : List Int, ns.length ≤ m → ∃ outs, callF P n f [.dat (.list (ns.map .int))] = .ok (.dat (.bool true)) outs) (H : Hp) (a : Addr) (ns : List Int) (hl : ns.length ≤ m) (hS : SqL G.K H a (ns.map V.int)) :
    spF G false 1 (callF P n f) [.ref a] H (fun v _ => v = .bl true) fun _ _ _ => False := by
  have rps : ∀ ns : List Int, Rps G H (ns.map V.int) (ns.map PyData.int) := fun ns => by
    induction ns with
    | nil => exact .nil
    | cons x xs ih => exact .cons (.int x) ih
  have ok0 : Ok G H H [] := ⟨Le.refl H, fun t ht => by simp at ht, by simp, fun a ha => by simp at ha⟩
  have ok : Ok G H H [.sh (.ref a) (.dat (.list (ns.map PyData.int)))] := ok0.sh (.dat (.lst hS (rps ns)))
  refine ⟨[.sh (.ref a) (.dat (.list (ns.map PyData.int)))], [], H, ok, rfl, fun t ht => ?_, rfl, ?_⟩
  · simp at ht; subst ht; exact fun e => by cases e
  · obtain ⟨outs, e⟩ := hlaw ns hl
    show PostC G false (callF P n f [.dat (.list (ns.map PyData.int))]) _ _ _ _ _
    rw [e]
    intro H' Hf' t ts' nt le ok2 et es _
    have := (ok2.ok _ (.head _)).top ok2.le (d := .bool true) (by rw [et]; rfl)
    generalize t.rt = v at this
    cases this; rfl
end
theorem cx_false {prog : Program} {w : World} {H : Hp} {s s' : Shared} {e : Value} (h : CX prog w [] H s (fun _ _ _ => False) e s') : False := by
  obtain ⟨_, _, _, _, _, _, _, _, _, _, _, _, z⟩ := h
  exact z
/-- the walk of a law, from the promise of its def: the exceptions are those of CX -/
theorem walk_own {l : PySem.W.OpenLaw} {n k : Nat} {q : Program} {loose : List Str} {XP : (Str → Option Value) → Heap → Prop} {YP : World → Heap → Prop} {d : DefRec} {x : Str}
    (hn : l.most = some n) (hn2 : n ≤ sizeLine) (hdf : d.params.defaults = []) (hr : Room k callerA)
    (F : ∀ (w : World) (mg : Str → Option Value) (fa : Addr) (h : Heap), YP w h → h.Ns mainGlobals mg → mg d.name = some (.ref fa) →
      ∃ (K : PySem.W.Frag) (fd : FuncData) (sp : Sp), K.In h ∧ (∀ (s : Shared) (u : Value), BindsTo s fd ⟨[u], []⟩ [(x, u)]) ∧
        (∀ (H : Hp) (a : Addr) (ns : List Int), ns.length ≤ n → SqL K H a (ns.map V.int) → sp [.ref a] H (fun v _ => v = .bl true) fun _ _ _ => False) ∧
        ∀ base : Heap, K.In base → base.Ns mainGlobals mg → FnOk l.prog w K mg base (CX l.prog w) k fa fd [x] sp) :
    PySem.W.WalkO q loose XP YP l.row.toRowW d [] (fun f vs => PySem.call f vs) :=
  Att.attach_call hn hdf fun w _ s1 mg _ fa _ _ _ _ a _ ns G Y _ _ _ hmg hobj hints hlen hg =>
    let ⟨_, _, _, KX, hb, hsp, hF⟩ := F w mg fa _ Y G.T.g hmg
    law_call KX G.T.g G.T.b G.T.builtins G.T.nolimit hg hobj hints (Nat.le_trans hlen hn2) hr hF hb (fun H _ hS => hsp H a ns hlen hS) fun _ _ _ => cx_false
/-- the same from the text's rows -/
theorem walk_text {l : PySem.W.OpenLaw} {q : Program} {loose : List Str} {XP : (Str → Option Value) → Heap → Prop} {d : DefRec} {fa : List He.Fa} {fn : List He.DefD} {ex : PySem.W.Frag → Bool} {k f nh : Nat} {P : Pg} {L : PySem.W.Frag → Lk} {r : Rw}
    {ca : PySem.W.Frag → Nat → Addr} {fnm : Nat → Str} {nf : Nat} (inj : ∀ i j, i < nf → j < nf → fnm i = fnm j → i = j)
    (hn : l.most = some 63) (hdf : d.params.defaults = []) (hr : Room (2 * (k + 1)) callerA)
    (hall : ∀ (w : World) (K : PySem.W.Frag) (h : Heap) (mg : Str → Option Value), K.In h → h.Ns mainGlobals mg → SaysM fa fn ex K → All ⟨l.prog, w, K, ca K, fnm, nf, inj⟩ (L K) P mg)
    (hd : d.name = ("law" : Str)) (hr1 : r.ps = [("script" : Str)]) (hr2 : r.fn.np = 1) (hr3 : r.fx = false) (hp : P.fn f = some r.fn) (hg : ∀ K, SaysM fa fn ex K → (He.Fa.glo "law").ok K = true)
    (hok : ∀ (w : World) (K : PySem.W.Frag) (h : Heap) (mg : Str → Option Value), K.In h → h.Ns mainGlobals mg → SaysM fa fn ex K → RwOk ⟨l.prog, w, K, ca K, fnm, nf, inj⟩ (L K) P.sub r (He.fAd K ("law", none)))
    (hF : ∀ K, SaysM fa fn ex K → ∃ fd, FunD K ("law" : Str) ("law" : Str) (C8.fnArgs r.st) (C8.fnBody r.st) (C8.fnScope r.st) [] [] (He.fAd K ("law", none)) fd)
    (hb : ∀ (kV doc pm : Value) (an : Option Addr) (cdv ct : Value) (us : List Value), us.length = 1 → bindArgs (PySem.W.fnOf ("law" : Str) ("law" : Str) (C8.fnArgs r.st) (C8.fnBody r.st) (C8.fnScope r.st) .none kV doc pm an cdv ct) ⟨us, []⟩ = pure ([("script" : Str)].zip us))
    (hlaw : ∀ ns : List Int, ns.length ≤ 63 → ∃ outs, callF P (k + 1) f [.dat (.list (ns.map .int))] = .ok (.dat (.bool true)) outs) :
    PySem.W.WalkO q loose XP (hookM nh fa fn ex).says l.row.toRowW d [] (fun f vs => PySem.call f vs) := by
  refine walk_own (x := "script") hn (by rw [sizeLine_eq]; decide) hdf hr fun w mg fa' h ⟨K, KX, c⟩ N hmg => ?_
  have A := hall w K h mg KX N c
  rw [hd] at hmg
  have e := hmg.symm.trans (He.glo_ok KX N (hg K c))
  cases e
  obtain ⟨fd, F⟩ := hF K c
  have ok := hok w K h mg KX N c
  have b := FunD.bindsA (ps := [("script" : Str)]) F hb
  refine ⟨K, fd, _, KX, fun s v => b s [v] rfl, fun H a ns hl hS => end_sp (G := ⟨l.prog, w, K, ca K, fnm, nf, inj⟩) hlaw H a ns hl hS, fun base hK hN => ?_⟩
  obtain ⟨oc, od, dV, kV, doc, pm, an, cdv, ct, osl, e, lk, hcd, _, _⟩ := F.ex
  have A2 := hall w K base mg hK hN c
  have := step_ok (base := base) A2 (level A2 k) hp ok (x := "law") (qual := "law") (fd := fd) ⟨oc, od, dV, kV, doc, pm, an, cdv, ct, osl, e, lk, hcd⟩
  rw [hr1, hr2, hr3] at this
  exact this
end Lw

set_option autoImplicit false
set_option linter.all false
set_option Elab.async false
set_option maxRecDepth 100000
set_option maxHeartbeats 1000000
/-! LPlain: how bodies run, in plain words; what a law draws of its script. -/
namespace Lw
open PySem

theorem execs_nx {C : Cf} {sub : Nat → Nat → Bool} {a : S} {r : List S} {s s' : St} (h : exec C sub a s = .ok .nx s') : execs C sub (a :: r) s = execs C sub r s' := by rw [execs, h]
theorem execs_ret {C : Cf} {sub : Nat → Nat → Bool} {a : S} {r : List S} {s s' : St} {o : O} (h : exec C sub a s = .ok (.ret o) s') : execs C sub (a :: r) s = .ok (.ret o) s' := by rw [execs, h]
theorem forGo_inv {b : D → St → R Fl} {I : Nat → St → Prop} : ∀ (xs : List D) (k : Nat), (∀ (i : Nat) (x : D) (s : St), xs[i]? = some x → I (k + i) s → ∃ s', b x s = .ok .nx s' ∧ I (k + i + 1) s') → ∀ s, I k s → ∃ s', forGo b xs s = .ok .nx s' ∧ I (k + xs.length) s'
  | [], k, _, s, h => ⟨s, rfl, h⟩
  | x :: xs, k, st, s, h => by
    obtain ⟨s1, e1, h1⟩ := st 0 x s rfl h
    obtain ⟨s2, e2, h2⟩ := forGo_inv (I := I) xs (k + 1) (fun i y s hy hi => by
      have := st (i + 1) y s (by simpa using hy) (by rw [show k + (i + 1) = k + 1 + i by omega]; exact hi)
      rw [show k + (i + 1) + 1 = k + 1 + i + 1 by omega] at this
      exact this) s1 h1
    refine ⟨s2, ?_, by rw [List.length_cons, show k + (xs.length + 1) = k + 1 + xs.length by omega]; exact h2⟩
    rw [forGo, e1]; exact e2
theorem range_at (lo step : Int) : ∀ (n i : Nat), i < n → (rangeD lo step n)[i]? = some (.int (lo + step * i))
  | 0, i, h => by omega
  | n + 1, 0, _ => by rw [rangeD]; simp
  | n + 1, i + 1, h => by
    rw [rangeD, List.getElem?_cons_succ, range_at (lo + step) step n i (by omega)]
    congr 2
    rw [Int.natCast_add, Int.mul_add]
    omega
theorem range_len (lo step : Int) : ∀ (n : Nat), (rangeD lo step n).length = n
  | 0 => rfl
  | n + 1 => by rw [rangeD, List.length_cons, range_len]
theorem ex_append {C : Cf} {sub : Nat → Nat → Bool} {i : Nat} {e : E} {s : St} {xs : List D} {d : D} (h1 : s.getD i .un = .lst xs) (h2 : ev C e s = .ok (.dat d) s) (h3 : xs.length + 1 ≤ sizeLine) :
    exec C sub (.ex (.mu .append (.v i) [e])) s = .ok .nx (s.set i (.lst (xs ++ [d]))) := by
  have hb : bor (plE (.v i)) s .no = .ok (.lst xs) s := by
    show (match s.getD i .un with | .un => R.no | o => R.ok o s) = _
    rw [h1]
  have hg : getPl (.v i) s = .lst xs := h1
  have he : evs C [e] s = .ok [.dat d] s := by rw [evs, h2]; rfl
  have hd : muD .append (.lst xs) [d] = some (.dat .none, .lst (xs ++ [d])) := by
    show (if szOk (xs.length + 1) then _ else _) = _
    rw [if_pos (show szOk (xs.length + 1) = true from decide_eq_true h3)]
  have hds : dsOf [O.dat d] = some [d] := rfl
  have hm : muTy .append (O.lst xs) = true := rfl
  have hp : setPl (.v i) (.lst (xs ++ [d])) s = some (s.set i (.lst (xs ++ [d]))) := rfl
  rw [exec, ev, hb]
  simp only [R.bind, hm, if_true, he, hds, Option.bind, hg, hd, hp]
section
variable {C : Cf} {sub : Nat → Nat → Bool} {s : St}
theorem ev_bop {o : Bop} {a b : E} {x y : D} {z : O} (ha : ev C a s = .ok (.dat x) s) (na : plOf a = none) (hb : ev C b s = .ok (.dat y) s) (nb : plOf b = none) (h : bopD o x y = some z) : ev C (.bop o a b) s = .ok z s := by
  rw [ev]
  simp only [bor, na, nb, ha, hb, R.bind, O.d?, h, ofO]
theorem ev_ix {i : Nat} {e : E} {d k v : D} (h0 : s.getD i .un = .dat d) (he : ev C e s = .ok (.dat k) s) (hx : idxD d k = some v) : ev C (.idx (.var i) e) s = .ok (.dat v) s := by
  rw [ev]
  simp only [bor, plOf, getPl, h0, he, R.bind, fz, O.d?, Option.bind, idxO, hx, Option.map, ofO]
theorem ev_int {e : E} {v : Int} (ne : plOf e = none) (he : ev C e s = .ok (.dat (.int v)) s) : ev C (.bi .int [e]) s = .ok (.dat (.int v)) s := by
  rw [ev]
  simp only [bor, ne, he, R.bind, O.d?]
  rfl
theorem ite_t {c : E} {a b : List S} (hc : ev C c s = .ok (.dat (.bool true)) s) : exec C sub (.ite c a b) s = execs C sub a s := by rw [exec, hc]; rfl
theorem ite_f {c : E} {a b : List S} (hc : ev C c s = .ok (.dat (.bool false)) s) : exec C sub (.ite c a b) s = execs C sub b s := by rw [exec, hc]; rfl
theorem execs_1 {a : S} {s' : St} (h : exec C sub a s = .ok .nx s') : execs C sub [a] s = .ok .nx s' := by rw [execs_nx h, execs]
theorem execs_0 : execs C sub [] s = .ok .nx s := by rw [execs]
theorem ex_asg {i : Nat} {e : E} {d : D} (he : ev C e s = .ok (.dat d) s) : exec C sub (.asg i e) s = .ok .nx (s.set i (.dat d)) := by
  rw [exec, he]
  rfl
theorem ex_par2 {i j : Nat} {a b : E} {x y : D} (ha : ev C a s = .ok (.dat x) s) (hb : ev C b s = .ok (.dat y) s) : exec C sub (.par [.a i, .a j] [a, b]) s = .ok .nx ((s.set i (.dat x)).set j (.dat y)) := by
  rw [exec]
  simp only [evw, ha, hb, R.bind]
  rfl
theorem evj_itr {k : Itk} {es : List E} {os : List O} {ds xs : List D} (h : evs C es s = .ok os s) (h1 : dsOf os = some ds) (h2 : itrD k ds = some xs) : evj C (.itr k es) s = .ok xs s := by
  have e : (dsOf os).bind (itrD k) = some xs := by rw [h1]; exact h2
  rw [evj, h]
  simp only [R.bind, e]
theorem ev_or_f {a b : E} {r : R O} (ha : ev C a s = .ok (.dat (.bool false)) s) (hb : ev C b s = r) : ev C (.or a b) s = r := by
  rw [ev, ha]; exact hb
theorem ev_or_t {a b : E} (ha : ev C a s = .ok (.dat (.bool true)) s) : ev C (.or a b) s = .ok (.dat (.bool true)) s := by
  rw [ev, ha]; rfl
theorem ev_and_t {a b : E} {r : R O} (ha : ev C a s = .ok (.dat (.bool true)) s) (hb : ev C b s = r) : ev C (.and a b) s = r := by
  rw [ev, ha]; exact hb
theorem ev_and_f {a b : E} (ha : ev C a s = .ok (.dat (.bool false)) s) : ev C (.and a b) s = .ok (.dat (.bool false)) s := by
  rw [ev, ha]; rfl
theorem ev_not {a : E} {x : Bool} (ha : ev C a s = .ok (.dat (.bool x)) s) : ev C (.not a) s = .ok (.dat (.bool (!x))) s := by
  rw [ev, ha]; cases x <;> rfl
theorem ev_cmp {o : Cop} {a b : E} {x y : D} {ox oy : O} {r : Bool} (ha : bor a s (ev C a s) = .ok ox s) (hx : ox.d? = some x) (hb : bor b s (ev C b s) = .ok oy s) (hy : oy.d? = some y) (h : cmpD o x y = some r) : ev C (.cmp o a b) s = .ok (.dat (.bool r)) s := by
  rw [ev]
  simp only [ha, hb, R.bind, hx, hy, h, ofB]
theorem ev_ixL {i : Nat} {e : E} {xs : List D} {k v : D} (h0 : s.getD i .un = .lst xs) (he : ev C e s = .ok (.dat k) s) (hx : idxD (.list xs) k = some v) : ev C (.idx (.var i) e) s = .ok (.dat v) s := by
  rw [ev]
  simp only [bor, plOf, getPl, h0, he, R.bind, fz, O.d?, Option.bind, idxO, hx, Option.map, ofO]
theorem ixN_nat (n k : Nat) (h : k < n) : ixN n (k : Int) = some k := by
  show L2.ixN _ _ = _
  unfold L2.ixN
  simp [h]
theorem ix_map {α : Type} (f : α → D) (l : List α) (k : Nat) (h : k < l.length) : idxD (.list (l.map f)) (.int (k : Int)) = some (f l[k]) := by
  show (ixN (l.map f).length (k : Int)).bind (fun j => (l.map f)[j]?) = _
  rw [ixN_nat _ _ (by rw [List.length_map]; exact h)]
  show (l.map f)[k]? = _
  rw [List.getElem?_map, List.getElem?_eq_getElem h]
  rfl
theorem ex_setL {i : Nat} {ke e : E} {xs : List D} {k : Nat} {d : D} (h0 : s.getD i .un = .lst xs) (he : ev C e s = .ok (.dat d) s) (hk : ev C ke s = .ok (.dat (.int (k : Int))) s) (hl : k < xs.length) : exec C sub (.setI (.v i) ke e) s = .ok .nx (s.set i (.lst (xs.set k d))) := by
  have hb : bor (plE (.v i)) s .no = .ok (.lst xs) s := by
    show (match s.getD i .un with | .un => R.no | o => R.ok o s) = _
    rw [h0]
  have hs : setO (.v i) (.int (k : Int)) d s = some (s.set i (.lst (xs.set k d))) := by
    have hg : getPl (.v i) s = .lst xs := h0
    unfold setO
    rw [hg]
    show (ixN xs.length (k : Int)).bind _ = _
    rw [ixN_nat _ _ hl]
    rfl
  have hi : isC (O.lst xs) = true := rfl
  rw [exec]
  simp only [he, hb, R.bind, hi, if_true, hk, fz, O.d?, hs]
theorem ev_sumL {i : Nat} {xs : List D} {ns : List Int} (h0 : s.getD i .un = .lst xs) (hn : numsOf xs = some ns) : ev C (.bs .sum (.e (.var i))) s = .ok (.dat (.int ns.sum)) s := by
  have hx : bor (.var i) s (ev C (.var i) s) = .ok (.lst xs) s := by
    show (match s.getD i .un with | .un => R.no | o => R.ok o s) = _
    rw [h0]
  have hb : (((O.lst xs).d?.bind (lsB .sum)).bind (bsD .sum)) = some (.dat (.int ns.sum)) := by
    show (numsOf xs).map (fun ns => O.dat (.int ns.sum)) = _
    rw [hn]; rfl
  rw [ev]
  simp only [hx, R.bind, hb, ofO]
/-- an item of a list of ints -/
theorem ix_ints (ds : List Int) (k : Nat) (h : k < ds.length) : idxD (.list (ds.map .int)) (.int (k : Int)) = some (.int (ds.getD k 0)) := by
  show (ixN (ds.map PyData.int).length (k : Int)).bind (fun j => (ds.map PyData.int)[j]?) = _
  have e : ixN (ds.map PyData.int).length (k : Int) = some k := by
    show L2.ixN _ _ = _
    unfold L2.ixN
    rw [List.length_map]
    simp [h]
  rw [e]
  show (ds.map PyData.int)[k]? = _
  rw [List.getElem?_map, List.getD_eq_getElem?_getD, List.getElem?_eq_getElem h]
  rfl
end
theorem callF_at {P : Pg} {n f : Nat} {fn : Fn} {args : List O} (h : P.fn f = some fn) (hl : args.length = fn.np) : callF P (n + 1) f args = finish fn.np (execs (cfOf P n) P.sub fn.body (args ++ List.replicate (fn.ns - fn.np) .un)) := by
  rw [callF, h]
  simp only [hl, if_true]
  rfl
section
variable {C : Cf} {s : St}
theorem evi_itr2 {k : Itk} {es : List E} {os : List O} {ds xs : List D} (h : evs C es s = .ok os s) (h1 : dsOf os = some ds) (h2 : itrD k ds = some xs) : evi C (.itr k es) s = .ok xs s := by
  have e : (dsOf os).bind (itrD k) = some xs := by rw [h1]; exact h2
  rw [evi, h]
  simp only [R.bind, e]
theorem ev_bop2 {o : Bop} {a b : E} {x y : D} {ox oy z : O} (ha : bor a s (ev C a s) = .ok ox s) (hx : ox.d? = some x) (hb : bor b s (ev C b s) = .ok oy s) (hy : oy.d? = some y) (h : bopD o x y = some z) : ev C (.bop o a b) s = .ok z s := by
  rw [ev]
  simp only [ha, hb, R.bind, hx, hy, h, ofO]
theorem ev_bop3 {o : Bop} {a b : E} {x y : D} {ox oy z : O} (ha : ev C a s = .ok ox s) (na : plOf a = none) (hx : ox.d? = some x) (hb : ev C b s = .ok oy s) (nb : plOf b = none) (hy : oy.d? = some y) (h : bopD o x y = some z) : ev C (.bop o a b) s = .ok z s :=
  ev_bop2 (by unfold bor; rw [na]; exact ha) hx (by unfold bor; rw [nb]; exact hb) hy h
theorem ev_lc {t : Tg} {a : Src} {e : E} {xs ys : List D} (h : evi C a s = .ok xs s) (hc : cOk t xs s = true) (hf : lciGo (fun x => (tset t x (wipeO (tgS t) s)).bind fun s => (oD (ev C e s).val).map some) xs = some ys) : ev C (.lc t a e) s = .ok (.lst ys) s := by
  rw [ev, h]
  show (if cOk t xs s = true then ofO ((lciGo (fun x => (tset t x (wipeO (tgS t) s)).bind fun s => (oD (ev C e s).val).map some) xs).map .lst) s else R.no) = _
  rw [hc, if_pos rfl, hf]
  rfl
theorem evj_e {a : E} {o : O} {d : D} {xs : List D} (h : ev C a s = .ok o s) (hd : (fz o).d? = some d) (hs : seqD d = some xs) : evj C (.e a) s = .ok xs s := by
  rw [evj, h]
  simp only [R.bind, hd, Option.bind, hs]
end
end Lw

set_option autoImplicit false
set_option linter.all false
set_option Elab.async false
set_option maxRecDepth 100000
set_option maxHeartbeats 1000000
/-! LDraws: what a law draws of its script: a list of so many ints. -/
namespace Lw
open PySem PySem.Spec PyProof.Rows L2

def bdA1 : S := .asg 5 (.bi .abs [.var 4])
def bdA2 : S := .asg 3 (.bop .mod (.bi .int [.bop .add (.bop .add (.bop .mul (.var 3) (.int 48271)) (.var 5)) (.int 11)]) (.int 2147483647))
def bdE1 : E := .bop .mod (.bi .int [.var 5]) (.int 1009)
def bdI : List S := [.ite (.cmp .gt (.var 5) (.int 0)) [.ex (.mu .append (.v 2) [bdE1]), .asg 5 (.bop .fdiv (.var 5) (.int 1009))] []]
def bdE2 : E := .bop .mod (.bop .fdiv (.bi .int [.bop .add (.bop .mul (.var 3) (.int 16807)) (.int 5)]) (.int 3)) (.int 65521)
def bdA3 : S := .ite (.cmp .ge (.var 5) (.bop .pow (.int 10) (.int 18))) [.forr (.v 6) (.itr .range1 [.int 60]) bdI] [.ex (.mu .append (.v 2) [bdE2])]
def bdA4 : S := .asg 3 (.bop .mod (.bi .int [.bop .add (.bop .add (.bop .mul (.var 3) (.int 69621)) (.var 6)) (.int 1)]) (.int 2147483647))
def bdE3 : E := .bop .mod (.bop .fdiv (.bi .int [.var 3]) (.int 7)) (.int 65521)
def bdDr : List S := [.own 2 (.lst []), .asg 3 (.int 7), .forr (.v 4) (.e (.slc (.var 0) .nil (.int 63))) [bdA1, bdA2, bdA3],
  .forr (.v 6) (.itr .range1 [.var 1]) [.ite (.cmp .lt (.bi .len [.var 2]) (.var 1)) [bdA4, .ex (.mu .append (.v 2) [bdE3])] []],
  .ret (.slc (.var 2) .nil (.var 1))]

section
variable {C : Cf} {sub : Nat → Nat → Bool} {A : O} {m : Nat}
/-- the slots -/
def dS (A : O) (m : Nat) (dr : List Int) (seed : Int) (o4 o5 o6 : O) : St := [A, .dat (.int m), .lst (dr.map .int), .dat (.int seed), o4, o5, o6]
theorem ap_ints (dr : List Int) (x : Int) : dr.map PyData.int ++ [.int x] = (dr ++ [x]).map PyData.int := by rw [List.map_append]; rfl
theorem dr_in (dr : List Int) (seed n : Int) (o4 o6 : O) (h : dr.length + 1 ≤ sizeLine) : ∃ (dr' : List Int) (n' : Int), execs C sub bdI (dS A m dr seed o4 (.dat (.int n)) o6) = .ok .nx (dS A m dr' seed o4 (.dat (.int n')) o6) ∧ dr'.length ≤ dr.length + 1 := by
  have hc : ev C (.cmp .gt (.var 5) (.int 0)) (dS A m dr seed o4 (.dat (.int n)) o6) = .ok (.dat (.bool (decide (0 < n)))) (dS A m dr seed o4 (.dat (.int n)) o6) := rfl
  unfold bdI
  by_cases h0 : 0 < n
  · rw [decide_eq_true h0] at hc
    refine ⟨dr ++ [n % 1009], n / 1009, ?_, by simp⟩
    have e1 : exec C sub (.ex (.mu .append (.v 2) [bdE1])) (dS A m dr seed o4 (.dat (.int n)) o6) = .ok .nx (dS A m (dr ++ [n % 1009]) seed o4 (.dat (.int n)) o6) := by
      rw [ex_append (xs := dr.map .int) (d := .int (n % 1009)) rfl rfl (by simpa using h), ap_ints]; rfl
    have e2 : exec C sub (.asg 5 (.bop .fdiv (.var 5) (.int 1009))) (dS A m (dr ++ [n % 1009]) seed o4 (.dat (.int n)) o6) = .ok .nx (dS A m (dr ++ [n % 1009]) seed o4 (.dat (.int (n / 1009))) o6) := rfl
    exact execs_1 ((ite_t hc).trans ((execs_nx e1).trans (execs_1 e2)))
  · rw [decide_eq_false h0] at hc
    exact ⟨dr, n, execs_1 ((ite_f hc).trans execs_0), by omega⟩
theorem sz_big : 6000 ≤ sizeLine := by rw [sizeLine_eq]; decide
theorem dr_out (dr : List Int) (seed c : Int) (o4 o5 o6 : O) (h : dr.length + 61 ≤ sizeLine) : ∃ (dr' : List Int) (seed' : Int) (p5 p6 : O), execs C sub [bdA1, bdA2, bdA3] (dS A m dr seed (.dat (.int c)) o5 o6) = .ok .nx (dS A m dr' seed' (.dat (.int c)) p5 p6) ∧ dr'.length ≤ dr.length + 60 := by
  have e1 : exec C sub bdA1 (dS A m dr seed (.dat (.int c)) o5 o6) = .ok .nx (dS A m dr seed (.dat (.int c)) (.dat (.int (if c < 0 then -c else c))) o6) := rfl
  have e2 : exec C sub bdA2 (dS A m dr seed (.dat (.int c)) (.dat (.int (if c < 0 then -c else c))) o6) = .ok .nx (dS A m dr ((seed * 48271 + (if c < 0 then -c else c) + 11) % 2147483647) (.dat (.int c)) (.dat (.int (if c < 0 then -c else c))) o6) := rfl
  generalize (seed * 48271 + (if c < 0 then -c else c) + 11) % 2147483647 = s2 at e2
  generalize (if c < 0 then -c else c) = n at e1 e2
  rw [execs_nx e1, execs_nx e2]
  have hc : ev C (.cmp .ge (.var 5) (.bop .pow (.int 10) (.int 18))) (dS A m dr s2 (.dat (.int c)) (.dat (.int n)) o6) = .ok (.dat (.bool (decide ((10 ^ 18 : Int) ≤ n)))) (dS A m dr s2 (.dat (.int c)) (.dat (.int n)) o6) := rfl
  unfold bdA3
  cases hd : decide ((10 ^ 18 : Int) ≤ n) with
  | false =>
    rw [hd] at hc
    refine ⟨dr ++ [(s2 * 16807 + 5) / 3 % 65521], s2, .dat (.int n), o6, ?_, by simp⟩
    have e1 : exec C sub (.ex (.mu .append (.v 2) [bdE2])) (dS A m dr s2 (.dat (.int c)) (.dat (.int n)) o6) = .ok .nx (dS A m (dr ++ [(s2 * 16807 + 5) / 3 % 65521]) s2 (.dat (.int c)) (.dat (.int n)) o6) := by
      rw [ex_append (xs := dr.map .int) (d := .int ((s2 * 16807 + 5) / 3 % 65521)) rfl rfl (by rw [List.length_map]; omega), ap_ints]; rfl
    exact execs_1 ((ite_f hc).trans (execs_1 e1))
  | true =>
    rw [hd] at hc
    have run := forGo_inv (b := fun x s => match tset (.v 6) x s with | some s => execs C sub bdI s | none => .no)
      (I := fun i s => ∃ (dr' : List Int) (n' : Int) (o6 : O), s = dS A m dr' s2 (.dat (.int c)) (.dat (.int n')) o6 ∧ dr'.length ≤ dr.length + i) (rangeD 0 1 60) 0 (fun i x s hx ⟨dr', n', o, e, hl⟩ => by
        subst e
        have hi : i < 60 := by
          have := (List.getElem?_eq_some_iff.mp hx).1
          rwa [range_len] at this
        obtain ⟨dr2, n2, e2, h2⟩ := dr_in (C := C) (sub := sub) (A := A) (m := m) dr' s2 n' (.dat (.int c)) (.dat x) (by omega)
        exact ⟨_, e2, dr2, n2, _, rfl, by omega⟩) (dS A m dr s2 (.dat (.int c)) (.dat (.int n)) o6) ⟨dr, n, o6, rfl, by omega⟩
    obtain ⟨s', e', dr', n', o, rfl, hl⟩ := run
    refine ⟨dr', s2, .dat (.int n'), o, ?_, by rw [range_len] at hl; omega⟩
    have e1 : exec C sub (.forr (.v 6) (.itr .range1 [.int 60]) bdI) (dS A m dr s2 (.dat (.int c)) (.dat (.int n)) o6) = .ok .nx (dS A m dr' s2 (.dat (.int c)) (.dat (.int n')) o) := by
      rw [exec]; exact e'
    exact execs_1 ((ite_t hc).trans (execs_1 e1))
theorem cut_ints (ns : List Int) (lo hi : Option Int) : cut (ns.map PyData.int) lo hi = (cut ns lo hi).map PyData.int := by
  unfold cut
  rw [List.length_map, List.map_take, List.map_drop]
theorem cut_head (ns : List Int) (m : Nat) : cut ns none (some (m : Int)) = ns.take m := by
  unfold cut
  have e0 : sIx ns.length 0 none = 0 := rfl
  have e1 : sIx ns.length ns.length (some (m : Int)) = min m ns.length := by
    show HT.sIx _ _ _ = _
    unfold HT.sIx
    simp
    omega
  rw [e0, e1, List.drop_zero, Nat.sub_zero, ← List.take_take, List.take_length]
theorem cut63 (ns : List Int) : cut ns none (some 63) = ns.take 63 := cut_head ns 63
/-- second part: filled up -/
theorem dr_fill (dr : List Int) (seed : Int) (k : Nat) (o4 o5 : O) (h : dr.length + 1 ≤ sizeLine) : ∃ (dr' : List Int) (seed' : Int), execs C sub [.ite (.cmp .lt (.bi .len [.var 2]) (.var 1)) [bdA4, .ex (.mu .append (.v 2) [bdE3])] []] (dS A m dr seed o4 o5 (.dat (.int k))) = .ok .nx (dS A m dr' seed' o4 o5 (.dat (.int k))) ∧ (dr'.length = dr.length + 1 ∧ dr.length < m ∨ m ≤ dr.length ∧ dr'.length = dr.length) := by
  have hc : ev C (.cmp .lt (.bi .len [.var 2]) (.var 1)) (dS A m dr seed o4 o5 (.dat (.int k))) = .ok (.dat (.bool (decide (((dr.map PyData.int).length : Int) < m)))) (dS A m dr seed o4 o5 (.dat (.int k))) := rfl
  rw [List.length_map] at hc
  by_cases h0 : (dr.length : Int) < m
  · rw [decide_eq_true h0] at hc
    have e1 : exec C sub bdA4 (dS A m dr seed o4 o5 (.dat (.int k))) = .ok .nx (dS A m dr ((seed * 69621 + k + 1) % 2147483647) o4 o5 (.dat (.int k))) := rfl
    generalize (seed * 69621 + (k : Int) + 1) % 2147483647 = s2 at e1
    refine ⟨dr ++ [s2 / 7 % 65521], s2, ?_, .inl ⟨by simp, by omega⟩⟩
    have e2 : exec C sub (.ex (.mu .append (.v 2) [bdE3])) (dS A m dr s2 o4 o5 (.dat (.int k))) = .ok .nx (dS A m (dr ++ [s2 / 7 % 65521]) s2 o4 o5 (.dat (.int k))) := by
      rw [ex_append (xs := dr.map .int) (d := .int (s2 / 7 % 65521)) rfl rfl (by simpa using h), ap_ints]; rfl
    exact execs_1 ((ite_t hc).trans ((execs_nx e1).trans (execs_1 e2)))
  · rw [decide_eq_false h0] at hc
    exact ⟨dr, seed, execs_1 ((ite_f hc).trans execs_0), .inr ⟨by omega, rfl⟩⟩
theorem dr_l1 (ns : List Int) : ∃ (dr : List Int) (seed : Int) (o4 o5 o6 : O), exec C sub (.forr (.v 4) (.e (.slc (.var 0) .nil (.int 63))) [bdA1, bdA2, bdA3]) (dS (.dat (.list (ns.map .int))) m [] 7 .un .un .un) = .ok .nx (dS (.dat (.list (ns.map .int))) m dr seed o4 o5 o6) ∧ dr.length ≤ 3780 := by
  have big := sz_big
  have ej : evj C (.e (.slc (.var 0) .nil (.int 63))) (dS (.dat (.list (ns.map .int))) m [] 7 .un .un .un) = .ok (cut (ns.map PyData.int) none (some 63)) (dS (.dat (.list (ns.map .int))) m [] 7 .un .un .un) := rfl
  rw [cut_ints, cut63] at ej
  obtain ⟨s3, e3, dr3, seed3, p4, p5, p6, rfl, h3⟩ := forGo_inv (b := fun x s => match tset (.v 4) x s with | some s => execs C sub [bdA1, bdA2, bdA3] s | none => .no)
    (I := fun i s => ∃ (dr' : List Int) (seed : Int) (o4 o5 o6 : O), s = dS (.dat (.list (ns.map .int))) m dr' seed o4 o5 o6 ∧ dr'.length ≤ 60 * i) ((ns.take 63).map PyData.int) 0 (fun i x s hx ⟨dr', seed, o4, o5, o6, e, hl2⟩ => by
      subst e
      rw [List.getElem?_map] at hx
      cases hc : (ns.take 63)[i]? with
      | none => rw [hc] at hx; cases hx
      | some c =>
        rw [hc] at hx
        cases hx
        have hi : i < 63 := by
          have := (List.getElem?_eq_some_iff.mp hc).1
          rw [List.length_take] at this
          omega
        obtain ⟨dr2, seed2, q5, q6, e4, h4⟩ := dr_out (C := C) (sub := sub) (A := .dat (.list (ns.map .int))) (m := m) dr' seed c o4 o5 o6 (by omega)
        exact ⟨_, e4, dr2, seed2, _, q5, q6, rfl, by omega⟩) (dS (.dat (.list (ns.map .int))) m [] 7 .un .un .un) ⟨[], 7, _, _, _, rfl, by simp⟩
  refine ⟨dr3, seed3, p4, p5, p6, ?_, ?_⟩
  · rw [exec, ej]; exact e3
  · rw [List.length_map, List.length_take] at h3
    omega
theorem dr_src (hm : m ≤ 1000) (s : St) (h1 : s.getD 1 .un = .dat (.int (m : Int))) : evj C (.itr .range1 [.var 1]) s = .ok (rangeD 0 1 m) s := by
  have big := sz_big
  have a1 : small (m : Int) = true := by
    unfold small
    rw [Bool.and_eq_true]
    exact ⟨decide_eq_true (by omega), decide_eq_true (by omega)⟩
  have a2 : szOk (m : Int).toNat = true := decide_eq_true (by simp; omega)
  have hs : itrD .range1 [.int (m : Int)] = some (rangeD 0 1 m) := by
    rw [itrD, a1, a2, Int.toNat_natCast]; rfl
  have he : evs C [.var 1] s = .ok [.dat (.int m)] s := by
    rw [evs, ev, h1]; rfl
  exact evj_itr he rfl hs
theorem dr_l2 (hm : m ≤ 1000) (dr : List Int) (seed : Int) (o4 o5 o6 : O) (hd : dr.length ≤ 3780) : ∃ (dr' : List Int) (seed' : Int) (q6 : O), exec C sub (.forr (.v 6) (.itr .range1 [.var 1]) [.ite (.cmp .lt (.bi .len [.var 2]) (.var 1)) [bdA4, .ex (.mu .append (.v 2) [bdE3])] []]) (dS A m dr seed o4 o5 o6) = .ok .nx (dS A m dr' seed' o4 o5 q6) ∧ m ≤ dr'.length := by
  have big := sz_big
  obtain ⟨s5, e5, dr5, seed5, q6, rfl, h5⟩ := forGo_inv (b := fun x s => match tset (.v 6) x s with | some s => execs C sub [.ite (.cmp .lt (.bi .len [.var 2]) (.var 1)) [bdA4, .ex (.mu .append (.v 2) [bdE3])] []] s | none => .no)
    (I := fun i s => ∃ (dr' : List Int) (seed : Int) (o6 : O), s = dS A m dr' seed o4 o5 o6 ∧ dr'.length ≤ 3780 + i ∧ (i ≤ dr'.length ∨ m ≤ dr'.length)) (rangeD 0 1 m) 0 (fun i x s hx ⟨dr', seed, o6, e, hl2, hl3⟩ => by
      subst e
      have hi : i < m := by
        have := (List.getElem?_eq_some_iff.mp hx).1
        rwa [range_len] at this
      rw [range_at _ _ _ _ hi, show (0 + 1 * (i : Int)) = (i : Int) by omega] at hx
      cases hx
      obtain ⟨dr2, seed2, e4, h4⟩ := dr_fill (C := C) (sub := sub) (A := A) (m := m) dr' seed i o4 o5 (by omega)
      exact ⟨dS A m dr2 seed2 o4 o5 (.dat (.int (i : Int))), e4, dr2, seed2, _, rfl, by omega, by omega⟩) (dS A m dr seed o4 o5 o6) ⟨dr, seed, o6, rfl, by omega, by omega⟩
  rw [range_len] at h5
  refine ⟨dr5, seed5, q6, ?_, by omega⟩
  rw [exec, dr_src hm _ rfl]; exact e5
theorem dr_ret (dr : List Int) (seed : Int) (o4 o5 o6 : O) : exec C sub (.ret (.slc (.var 2) .nil (.var 1))) (dS A m dr seed o4 o5 o6) = .ok (.ret (.lst ((dr.take m).map PyData.int))) (dS A m dr seed o4 o5 o6) := by
  have e7 : exec C sub (.ret (.slc (.var 2) .nil (.var 1))) (dS A m dr seed o4 o5 o6) = .ok (.ret (.lst (cut (dr.map PyData.int) none (some (m : Int))))) (dS A m dr seed o4 o5 o6) := rfl
  rw [e7, cut_ints, cut_head]
theorem draws_ok (ns : List Int) (hm : m ≤ 1000) : ∃ (ds : List Int) (s' : St), execs C sub bdDr [.dat (.list (ns.map .int)), .dat (.int m), .un, .un, .un, .un, .un] = .ok (.ret (.lst (ds.map .int))) s' ∧ ds.length = m := by
  have e1 : exec C sub (.own 2 (.lst [])) [.dat (.list (ns.map .int)), .dat (.int m), .un, .un, .un, .un, .un] = .ok .nx [.dat (.list (ns.map .int)), .dat (.int m), .lst [], .un, .un, .un, .un] := rfl
  have e2 : exec C sub (.asg 3 (.int 7)) [.dat (.list (ns.map .int)), .dat (.int m), .lst [], .un, .un, .un, .un] = .ok .nx (dS (.dat (.list (ns.map .int))) m [] 7 .un .un .un) := rfl
  obtain ⟨dr3, seed3, p4, p5, p6, e4, h3⟩ := dr_l1 (C := C) (sub := sub) (m := m) ns
  obtain ⟨dr5, seed5, q6, e6, h5⟩ := dr_l2 (C := C) (sub := sub) (A := .dat (.list (ns.map .int))) hm dr3 seed3 p4 p5 p6 h3
  refine ⟨dr5.take m, dS (.dat (.list (ns.map .int))) m dr5 seed5 p4 p5 q6, ?_, by rw [List.length_take]; omega⟩
  exact (execs_nx e1).trans ((execs_nx e2).trans ((execs_nx e4).trans ((execs_nx e6).trans (execs_ret (dr_ret dr5 seed5 p4 p5 q6)))))
end
end Lw

set_option autoImplicit false
set_option linter.all false
set_option Elab.async false
set_option maxRecDepth 100000
set_option maxHeartbeats 1000000
/-! MComb: how many sets of so many; the fewest steps. -/
namespace Lw
open PySem

def ch : Nat → Nat → Nat
  | _, 0 => 1
  | 0, _ + 1 => 0
  | n + 1, k + 1 => ch n k + ch n (k + 1)
theorem ch_z (n : Nat) : ch n 0 = 1 := by cases n <;> rfl
theorem ch_s (n k : Nat) : ch (n + 1) (k + 1) = ch n k + ch n (k + 1) := rfl
theorem ch_big : ∀ {n k : Nat}, n < k → ch n k = 0
  | 0, k + 1, _ => rfl
  | n + 1, k + 1, h => by rw [ch_s, ch_big (by omega), ch_big (by omega)]
theorem ch_self : ∀ n : Nat, ch n n = 1
  | 0 => rfl
  | n + 1 => by rw [ch_s, ch_self n, ch_big (by omega)]
theorem ch_one : ∀ n : Nat, ch n 1 = n
  | 0 => rfl
  | n + 1 => by rw [ch_s, ch_z, ch_one n]; omega
theorem ch_mul : ∀ n k : Nat, ch (n + 1) (k + 1) * (k + 1) = (n + 1) * ch n k
  | 0, 0 => rfl
  | 0, k + 1 => by rw [ch_big (by omega), ch_big (by omega)]; simp
  | n + 1, 0 => by rw [ch_one, ch_z]
  | n + 1, k + 1 => by
    have a := ch_mul n k
    have b := ch_mul n (k + 1)
    have e : ch (n + 1 + 1) (k + 1 + 1) = ch (n + 1) (k + 1) + ch (n + 1) (k + 1 + 1) := rfl
    have e2 : ch (n + 1) (k + 1) = ch n k + ch n (k + 1) := rfl
    have x1 : (n + 1 + 1) * ch (n + 1) (k + 1) = (n + 1) * ch n k + (n + 1) * ch n (k + 1) + ch (n + 1) (k + 1) := by
      rw [Nat.add_mul (n + 1) 1, Nat.one_mul, e2, Nat.mul_add]
    have x2 : (ch (n + 1) (k + 1) + ch (n + 1) (k + 1 + 1)) * (k + 1 + 1) = ch (n + 1) (k + 1) * (k + 1) + ch (n + 1) (k + 1) + ch (n + 1) (k + 1 + 1) * (k + 1 + 1) := by
      rw [Nat.add_mul, Nat.mul_add (ch (n + 1) (k + 1)) (k + 1) 1, Nat.mul_one]
    rw [e, x1, x2, a, b]; omega
theorem ch_step {n k : Nat} (h : k ≤ n) : ch n (k + 1) * (k + 1) = ch n k * (n - k) := by
  have a := ch_mul n k
  rw [ch_s, Nat.add_mul] at a
  have e : (n + 1) * ch n k = ch n k * (k + 1) + ch n k * (n - k) := by
    rw [← Nat.mul_add, Nat.mul_comm]; congr 1; omega
  omega
theorem ch_sym : ∀ a b : Nat, ch (a + b) a = ch (a + b) b
  | 0, b => by rw [Nat.zero_add, ch_z, ch_self]
  | a + 1, 0 => by rw [Nat.add_zero, ch_self, ch_z]
  | a + 1, b + 1 => by
    have e1 : ch (a + 1 + (b + 1)) (a + 1) = ch (a + (b + 1)) a + ch (a + (b + 1)) (a + 1) := by
      rw [show a + 1 + (b + 1) = (a + (b + 1)) + 1 by omega, ch_s]
    have e2 : ch (a + 1 + (b + 1)) (b + 1) = ch (a + 1 + b) b + ch (a + 1 + b) (b + 1) := by
      rw [show a + 1 + (b + 1) = (a + 1 + b) + 1 by omega, ch_s]
    have i1 := ch_sym a (b + 1)
    have i2 := ch_sym (a + 1) b
    have q : a + (b + 1) = a + 1 + b := by omega
    rw [e1, e2, q, ← i2]
    rw [q] at i1
    omega
theorem ch_le (n k : Nat) : ch n k ≤ ch (n + 1) k := by
  cases k with
  | zero => rw [ch_z, ch_z]; exact Nat.le_refl _
  | succ k => rw [ch_s]; omega
theorem ch_mono {k : Nat} : ∀ {n m : Nat}, n ≤ m → ch n k ≤ ch m k := by
  intro n m h
  induction m with
  | zero => rw [show n = 0 by omega]; exact Nat.le_refl _
  | succ m ih =>
    rcases Nat.lt_or_ge m n with q | q
    · rw [show n = m + 1 by omega]; exact Nat.le_refl _
    · exact Nat.le_trans (ih q) (ch_le m k)
theorem ch_pos {n k : Nat} (h : k ≤ n) : 1 ≤ ch n k := by
  have := ch_mono (k := k) h
  rw [ch_self] at this; exact this
/-- what the model has -/
theorem fp_ch (n : Nat) : ∀ k : Nat, k ≤ n → Builtin.Math.fallingProduct (n : Int) k = (ch n k : Int) * Builtin.Math.fallingProduct (k : Int) k := by
  have fp1 : ∀ k : Nat, Builtin.Math.fallingProduct ((k + 1 : Nat) : Int) (k + 1) = ((k + 1 : Nat) : Int) * Builtin.Math.fallingProduct (k : Int) k := by
    intro k
    have : ∀ (m : Int) (j : Nat), Builtin.Math.fallingProduct (m + 1) (j + 1) = (m + 1) * Builtin.Math.fallingProduct m j := by
      intro m j
      induction j with
      | zero => rw [PySem.W.mc_fp_one, PySem.W.mc_fp_zero]; omega
      | succ j ih =>
        rw [PySem.W.mc_fp_succ, ih, PySem.W.mc_fp_succ, Int.mul_assoc]
        congr 2
        omega
    have := this (k : Int) k
    rw [show ((k + 1 : Nat) : Int) = (k : Int) + 1 by omega]
    exact this
  intro k
  induction k with
  | zero => intro _; rw [ch_z, PySem.W.mc_fp_zero]; rfl
  | succ k ih =>
    intro h
    rw [PySem.W.mc_fp_succ, ih (by omega), fp1]
    have e := ch_step (n := n) (k := k) (by omega)
    have e' : (ch n (k + 1) : Int) * ((k + 1 : Nat) : Int) = (ch n k : Int) * ((n : Int) - (k : Int)) := by
      rw [← Int.natCast_mul, e, Int.natCast_mul]; congr 1; omega
    rw [← Int.mul_assoc, e', Int.mul_assoc, Int.mul_assoc]
    congr 1
    rw [Int.mul_comm]
theorem comb_ch (n k : Nat) : PySem.W.mcComb (n : Int) (k : Int) = (ch n k : Nat) := by
  rcases Nat.lt_or_ge n k with h | h
  · rw [PySem.W.mcComb_above (by omega), ch_big h]; rfl
  · have go : ∀ m : Nat, m ≤ n → Builtin.Math.fallingProduct (n : Int) m / Builtin.Math.fallingProduct (m : Int) m = (ch n m : Nat) := by
      intro m hm
      rw [fp_ch n m hm]
      have := PySem.W.mc_fp_pos (n := (m : Int)) m (by omega)
      exact Int.mul_ediv_cancel _ (by omega)
    rw [PySem.W.mcComb_at (by omega) (by omega) rfl]
    rcases Nat.lt_or_ge (n - k) k with q | q
    · rw [show min (k : Int) ((n : Int) - (k : Int)) = ((n - k : Nat) : Int) by omega, Int.toNat_natCast, go _ (by omega)]
      have e := ch_sym k (n - k)
      rw [show k + (n - k) = n by omega] at e
      rw [e]
    · rw [show min (k : Int) ((n : Int) - (k : Int)) = ((k : Nat) : Int) by omega, Int.toNat_natCast, go _ (by omega)]
/-! the fewest steps -/
/-- the least t from t0 on, within so many, with enough choices -/
def tbF (n s : Nat) : Nat → Nat → Nat
  | 0, t => t
  | f + 1, t => if ch (s + t) s < n then tbF n s f (t + 1) else t
def tb (n s : Nat) : Nat := tbF n s n 0
theorem ch_ge {s t : Nat} (h : 1 ≤ s) : t + 1 ≤ ch (s + t) s := by
  induction t with
  | zero => have := ch_self s; simp only [Nat.add_zero]; omega
  | succ t ih =>
    obtain ⟨s', rfl⟩ : ∃ s', s = s' + 1 := ⟨s - 1, by omega⟩
    rw [show s' + 1 + (t + 1) = (s' + 1 + t) + 1 by omega, ch_s]
    have := ch_pos (n := s' + 1 + t) (k := s') (by omega)
    omega
theorem tbF_ok (n s : Nat) (hs : 1 ≤ s) : ∀ f t, n ≤ t + f → (∀ u < t, ch (s + u) s < n) → n ≤ ch (s + tbF n s f t) s ∧ (∀ u < tbF n s f t, ch (s + u) s < n) ∧ tbF n s f t ≤ t + f
  | 0, t, h, hu => by
    have := ch_ge (s := s) (t := t) hs
    exact ⟨by rw [tbF]; omega, hu, by rw [tbF]; omega⟩
  | f + 1, t, h, hu => by
    rw [tbF]
    by_cases q : ch (s + t) s < n
    · rw [if_pos q]
      obtain ⟨a, b, c⟩ := tbF_ok n s hs f (t + 1) (by omega) fun u hu' => by
        rcases Nat.lt_or_ge u t with z | z
        · exact hu u z
        · rw [show u = t by omega]; exact q
      exact ⟨a, b, by omega⟩
    · rw [if_neg q]
      exact ⟨by omega, hu, by omega⟩
theorem tb_ge (n : Nat) {s : Nat} (hs : 1 ≤ s) : n ≤ ch (s + tb n s) s := (tbF_ok n s hs n 0 (by omega) fun u h => by omega).1
theorem tb_lt (n : Nat) {s : Nat} (hs : 1 ≤ s) : ∀ u < tb n s, ch (s + u) s < n := (tbF_ok n s hs n 0 (by omega) fun u h => by omega).2.1
theorem tb_le (n : Nat) {s : Nat} (hs : 1 ≤ s) : tb n s ≤ n - 1 := by
  rcases Nat.lt_or_ge (n - 1) (tb n s) with h | h
  · have := tb_lt n hs _ h
    have := ch_ge (s := s) (t := n - 1) hs
    omega
  · exact h
theorem tb_eq {n s t : Nat} (hs : 1 ≤ s) (h1 : n ≤ ch (s + t) s) (h2 : ∀ u < t, ch (s + u) s < n) : tb n s = t := by
  rcases Nat.lt_trichotomy (tb n s) t with h | h | h
  · have := h2 _ h; have := tb_ge n hs; omega
  · exact h
  · have := tb_lt n hs _ h; omega
/-- t * n less the choices of one more -/
def gS (n s t : Nat) : Int := (t : Int) * n - (ch (s + t) (s + 1) : Nat)
def fS (n s : Nat) : Int := gS n s (tb n s)
theorem gS_s (n s t : Nat) : gS n s (t + 1) = gS n s t + n - (ch (s + t) s : Nat) := by
  unfold gS
  rw [show s + (t + 1) = (s + t) + 1 by omega, ch_s, show ((t + 1 : Nat) : Int) = (t : Int) + 1 by omega, Int.add_mul]
  omega
theorem gS_up {n s t : Nat} : ∀ d : Nat, (∀ u < t + d, ch (s + u) s < n) → gS n s t ≤ gS n s (t + d)
  | 0, _ => Int.le_refl _
  | d + 1, h => by
    have := gS_up (n := n) (s := s) (t := t) d fun u hu => h u (by omega)
    have e := gS_s n s (t + d)
    have := h (t + d) (by omega)
    rw [show t + (d + 1) = t + d + 1 by omega]; omega
theorem gS_down {n s t : Nat} (h : n ≤ ch (s + t) s) : ∀ d : Nat, gS n s (t + d) ≤ gS n s t
  | 0 => Int.le_refl _
  | d + 1 => by
    have := gS_down h d
    have e := gS_s n s (t + d)
    have : ch (s + t) s ≤ ch (s + (t + d)) s := ch_mono (by omega)
    rw [show t + (d + 1) = t + d + 1 by omega]; omega
theorem gS_le {n s : Nat} (hs : 1 ≤ s) (t : Nat) : gS n s t ≤ fS n s := by
  unfold fS
  rcases Nat.lt_or_ge (tb n s) t with h | h
  · have := gS_down (tb_ge n hs) (t - tb n s)
    rw [show tb n s + (t - tb n s) = t by omega] at this
    exact this
  · have := gS_up (n := n) (s := s) (t := t) (tb n s - t) (by
      rw [show t + (tb n s - t) = tb n s by omega]; exact tb_lt n hs)
    rw [show t + (tb n s - t) = tb n s by omega] at this
    exact this
/-- it is the same at any t that is neither too little nor too much -/
theorem fS_at {n s t : Nat} (hs : 1 ≤ s) (h1 : n ≤ ch (s + t) s) (h2 : t = 0 ∨ ch (s + (t - 1)) s ≤ n) : fS n s = gS n s t := by
  have a := gS_le (n := n) hs t
  have le : tb n s ≤ t := by
    rcases Nat.lt_or_ge t (tb n s) with h | h
    · have := tb_lt n hs _ h; omega
    · exact h
  rcases Nat.lt_or_ge (tb n s) t with h | h
  · have b : ∀ d, tb n s + d ≤ t → gS n s (tb n s + d) = gS n s (tb n s) := by
      intro d
      induction d with
      | zero => intro _; rfl
      | succ d ih =>
        intro hd
        have e := gS_s n s (tb n s + d)
        have c1 := ch_mono (k := s) (show s + tb n s ≤ s + (tb n s + d) by omega)
        have c2 := ch_mono (k := s) (show s + (tb n s + d) ≤ s + (t - 1) by omega)
        have c3 := tb_ge n hs
        rw [show tb n s + (d + 1) = tb n s + d + 1 by omega, e, ih (by omega)]
        rcases h2 with h2 | h2
        · omega
        · omega
    have := b (t - tb n s) (by omega)
    rw [show tb n s + (t - tb n s) = t by omega] at this
    unfold fS; exact this.symm
  · unfold fS; rw [show tb n s = t by omega]
theorem fS_n {n s : Nat} (hs : 1 ≤ s) : fS n s ≤ fS (n + 1) s := by
  have := gS_le (n := n + 1) hs (tb n s)
  unfold fS at this ⊢
  unfold gS at this ⊢
  have e : ((tb n s : Nat) : Int) * ((n + 1 : Nat) : Int) = (tb n s : Int) * n + (tb n s : Int) := by
    rw [show ((n + 1 : Nat) : Int) = (n : Int) + 1 by omega, Int.mul_add, Int.mul_one]
  omega
theorem fS_s {n s : Nat} (hs : 1 ≤ s) : fS n (s + 1) ≤ fS n s := by
  have := gS_le (n := n) hs (tb n (s + 1))
  refine Int.le_trans ?_ this
  show gS n (s + 1) (tb n (s + 1)) ≤ _
  unfold gS
  rw [show s + 1 + tb n (s + 1) = s + tb n (s + 1) + 1 by omega, ch_s]
  omega
theorem ch_two : ∀ n : Nat, 2 * ch n 2 = n * (n - 1)
  | 0 => rfl
  | n + 1 => by
    have ih := ch_two n
    rw [show ch (n + 1) 2 = ch n 1 + ch n 2 from rfl, ch_one]
    rw [Nat.mul_add, ih, Nat.add_sub_cancel]
    cases n with
    | zero => rfl
    | succ m =>
      have e : (m + 1 + 1) * (m + 1) = m * (m + 1) + 2 * (m + 1) := by rw [← Nat.add_mul]
      rw [Nat.add_sub_cancel, e, Nat.mul_comm (m + 1) m]; omega
theorem fS_1 {n : Nat} (hn : 1 ≤ n) : fS n 1 = (ch n 2 : Nat) := by
  have e : fS n 1 = gS n 1 (n - 1) := fS_at (by omega) (by rw [ch_one]; omega) (by
    rcases Nat.lt_or_ge n 2 with h | h
    · left; omega
    · right; rw [ch_one]; omega)
  rw [e]
  unfold gS
  rw [show 1 + (n - 1) = n by omega]
  have h2 := ch_two n
  have : ((n - 1 : Nat) : Int) * (n : Int) = ((n * (n - 1) : Nat) : Int) := by
    rw [Int.natCast_mul, Int.mul_comm]
  rw [this, show 1 + 1 = 2 from rfl]
  omega
theorem fS_self {n : Nat} (hn : 1 ≤ n) : fS n n = n - 1 := by
  rcases Nat.lt_or_ge n 2 with h | h
  · rw [show n = 1 by omega]; decide
  · have e : fS n n = gS n n 1 := fS_at (by omega) (by
        rw [ch_sym, ch_one]; omega) (.inr (by rw [show n + (1 - 1) = n by omega, ch_self]; omega))
    rw [e]; unfold gS; rw [ch_self]; omega
theorem fS_one {s : Nat} (hs : 1 ≤ s) : fS 1 s = 0 := by
  have e : fS 1 s = gS 1 s 0 := fS_at hs (by rw [Nat.add_zero, ch_self]; omega) (.inl rfl)
  rw [e]; unfold gS; rw [ch_big (by omega)]; rfl
theorem tb_pos {n s : Nat} (hs : 1 ≤ s) (hn : 2 ≤ n) : 1 ≤ tb n s := by
  rcases Nat.eq_zero_or_pos (tb n s) with h | h
  · have := tb_ge n hs
    rw [h, Nat.add_zero, ch_self] at this; omega
  · exact h
/-- keeping any state next goes as many, or more -/
theorem fS_any {n s k : Nat} (hs : 2 ≤ s) (hn : 2 ≤ n) (h1 : 1 ≤ k) (h2 : k < n) : fS n s ≤ k + fS (n - k) (s - 1) + fS k s := by
  obtain ⟨t, ht⟩ : ∃ t, tb n s = t + 1 := ⟨tb n s - 1, by have := tb_pos (n := n) (s := s) (by omega) hn; omega⟩
  have a := gS_le (n := n - k) (s := s - 1) (by omega) (t + 1)
  have b := gS_le (n := k) (s := s) (by omega) t
  unfold fS at a b ⊢
  rw [ht]
  refine Int.le_trans ?_ (Int.add_le_add (Int.add_le_add (Int.le_refl _) a) b)
  unfold gS
  rw [show s - 1 + (t + 1) = s + t by omega, show s - 1 + 1 = s by omega, show s + (t + 1) = s + t + 1 by omega, ch_s]
  have e1 : (((t + 1 : Nat) : Int)) * ((n - k : Nat) : Int) = ((t : Int) + 1) * n - ((t : Int) + 1) * k := by
    rw [← Int.mul_sub]; congr 1 <;> omega
  have e2 : (((t + 1 : Nat) : Int)) * (n : Int) = ((t : Int) + 1) * n := by rw [show ((t + 1 : Nat) : Int) = (t : Int) + 1 by omega]
  rw [e1, e2, Int.add_mul (t : Int) 1 (k : Int)]
  omega
/-- one of them goes just as many -/
theorem fS_some {n s : Nat} (hs : 2 ≤ s) (hn : 2 ≤ n) : ∃ k, 1 ≤ k ∧ k < n ∧ fS n s = k + fS (n - k) (s - 1) + fS k s := by
  obtain ⟨t, ht⟩ : ∃ t, tb n s = t + 1 := ⟨tb n s - 1, by have := tb_pos (n := n) (s := s) (by omega) hn; omega⟩
  have u1 := tb_ge n (show 1 ≤ s by omega)
  have u2 := tb_lt n (show 1 ≤ s by omega) t (by omega)
  rw [ht] at u1
  obtain ⟨r, rfl⟩ : ∃ r, s = r + 1 := ⟨s - 1, by omega⟩
  have c1 : ch (r + 1 + (t + 1)) (r + 1) = ch (r + (t + 1)) r + ch (r + 1 + t) (r + 1) := by
    rw [show r + 1 + (t + 1) = (r + 1 + t) + 1 by omega, ch_s, show r + (t + 1) = r + 1 + t by omega]
  have c2 : ch (r + 1 + t) (r + 1) = ch (r + t) r + ch (r + t) (r + 1) := by
    rw [show r + 1 + t = (r + t) + 1 by omega, ch_s]
  have p1 := ch_pos (n := r + t) (k := r) (by omega)
  have p2 := ch_pos (n := r + 1 + t) (k := r + 1) (by omega)
  -- k with enough below and above
  have hk : ∃ k, 1 ≤ k ∧ ch (r + t) (r + 1) ≤ k ∧ k ≤ ch (r + 1 + t) (r + 1) ∧ k < n ∧ ch (r + t) r ≤ n - k ∧ n - k ≤ ch (r + (t + 1)) r := by
    have p3 : ch (r + t) (r + 1) ≤ ch (r + 1 + t) (r + 1) := ch_mono (by omega)
    have p4 : ch (r + t) r ≤ ch (r + (t + 1)) r := ch_mono (by omega)
    have p5 : 2 ≤ ch (r + (t + 1)) r ∨ 1 ≤ ch (r + t) (r + 1) ∨ True := .inr (.inr trivial)
    refine ⟨max (max 1 (ch (r + t) (r + 1))) (n - ch (r + (t + 1)) r), ?_⟩
    omega
  obtain ⟨k, k1, k2, k3, k4, k5, k6⟩ := hk
  refine ⟨k, k1, k4, ?_⟩
  have a : fS (n - k) r = gS (n - k) r (t + 1) := fS_at (by omega) k6 (.inr (by rw [show t + 1 - 1 = t by omega]; exact k5))
  have b : fS k (r + 1) = gS k (r + 1) t := fS_at (by omega) k3 (by
    cases t with
    | zero => exact .inl rfl
    | succ t => right; rw [show r + 1 + (t + 1 - 1) = r + (t + 1) by omega]; exact k2)
  rw [show r + 1 - 1 = r by omega, a, b]
  unfold fS
  rw [ht]
  unfold gS
  rw [show r + (t + 1) = r + 1 + t by omega, show r + 1 + (t + 1) = r + 1 + t + 1 by omega, ch_s]
  have e1 : (((t + 1 : Nat) : Int)) * ((n - k : Nat) : Int) = ((t : Int) + 1) * n - ((t : Int) + 1) * k := by
    rw [← Int.mul_sub]; congr 1 <;> omega
  have e2 : (((t + 1 : Nat) : Int)) * (n : Int) = ((t : Int) + 1) * n := by rw [show ((t + 1 : Nat) : Int) = (t : Int) + 1 by omega]
  rw [e1, e2, Int.add_mul (t : Int) 1 (k : Int)]
  omega
end Lw

set_option autoImplicit false
set_option linter.all false
set_option Elab.async false
set_option maxRecDepth 100000
set_option maxHeartbeats 1000000
/-! LSimp: the evaluator's steps as rewriting rules that stop where a value is not known. -/
namespace Lw
open PySem

section
variable {α β : Type}
/-- a value as data -/
def dB (x : O) (f : D → R β) : R β := match x.d? with | some d => f d | none => .no
/-- what may not be there -/
def opB (x : Option α) (f : α → R β) : R β := match x with | some d => f d | none => .no
/-- a truth value -/
def teB (x : O) (a b : R β) : R β := match x with | .dat (.bool true) => a | .dat (.bool false) => b | _ => .no
def finB (x : O) (f : Nat → List (Nat × O) → R β) : R β := match x with | .fin c fs => f c fs | _ => .no
def insB (x : O) (f : Nat → List (Nat × O) → R β) : R β := match x with | .ins c fs => f c fs | _ => .no
end
/-- so that rewriting does not go into what follows -/
structure Tag {α : Type} (a : α) : Type where
section
variable {α β : Type}
def R.bnd (x : R α) (f : α → St → R β) (_ : Tag f := ⟨⟩) : R β := R.bind x f
def dBt (x : O) (f : D → R β) (_ : Tag f := ⟨⟩) : R β := dB x f
def opBt (x : Option α) (f : α → R β) (_ : Tag f := ⟨⟩) : R β := opB x f
def teBt (x : O) (a b : R β) (_ : Tag a := ⟨⟩) (_ : Tag b := ⟨⟩) : R β := teB x a b
def condt (x : Bool) (a b : R β) (_ : Tag a := ⟨⟩) (_ : Tag b := ⟨⟩) : R β := cond x a b
def finBt (x : O) (f : Nat → List (Nat × O) → R β) (_ : Tag f := ⟨⟩) : R β := finB x f
def insBt (x : O) (f : Nat → List (Nat × O) → R β) (_ : Tag f := ⟨⟩) : R β := insB x f
end
/-- what goes on behind a statement -/
def sq (x : R Fl) (k : St → R Fl) : R Fl := match x with
  | .ok .nx s => k s
  | x => x
def sqt (x : R Fl) (k : St → R Fl) (_ : Tag k := ⟨⟩) : R Fl := sq x k
def triR (x : R Fl) (k : Nat → List (Nat × D) → St → R Fl) : R Fl := match x with
  | .exc c p s => k c p s
  | r => r
def triRt (x : R Fl) (k : Nat → List (Nat × D) → St → R Fl) (_ : Tag k := ⟨⟩) : R Fl := triR x k
def borO (o : O) (s : St) : R O := match o with | .un => .no | o => .ok o s
def negB (x : O) (s : St) : R O := match x with | .dat (.int i) => .ok (.dat (.int (-i))) s | _ => .no
def notB (x : O) (s : St) : R O := match x with | .dat (.bool b) => .ok (.dat (.bool (!b))) s | _ => .no
def isNn (x : O) : Bool := match x with | .dat .none => true | _ => false
def consO (d : D) (x : Option (List D)) : Option (List D) := x.map (d :: ·)
def mkT (x : Option (List D)) (os : List O) : O := match x with | some ds => .dat (.tuple ds) | none => .tpo os
def putR (i : Nat) (o : O) (s : St) : R Fl := match putV i o s with | some s => .ok .nx s | none => .no
def ownR (i : Nat) (o : O) (s : St) : R Fl := match ownV i o s with | some s => .ok .nx s | none => .no
def putFR (fo : Nat → Nat → Bool) (i x : Nat) (o : O) (s : St) : R Fl := match putF fo i x o s with | some s => .ok .nx s | none => .no
def ownFR (fo : Nat → Nat → Bool) (i x : Nat) (o : O) (s : St) : R Fl := match ownFd fo i x o s with | some s => .ok .nx s | none => .no
def newR (x : CR) (s : St) : R O := match x with
  | .ok (.dat .none) (.ins c' fs :: _) => .ok (.ins c' fs) s
  | .exc c p _ => .exc c p s
  | _ => .no
def mexR (p : Pl) (c : Nat) (s : St) (x : CR) : R O := match x with
  | .ok r (.ins c' fs' :: _) => if c' = c then (match setPl p (.ins c' fs') s with
    | some s => .ok r s
    | none => .no) else .no
  | .exc c0 p' (.ins c' fs' :: _) => if c' = c then (match setPl p (.ins c' fs') s with
    | some s => .exc c0 p' s
    | none => .no) else .no
  | _ => .no
def caxR (p : Pl) (s : St) (x : CR) : R O := match x with
  | .ok r (o :: _) => (match setPl p o s with
    | some s => .ok r s
    | none => .no)
  | _ => .no
/-- a while statement, so many turns at most; a for statement's turns -/
def whlN (C : Cf) (sub : Nat → Nat → Bool) (c : E) (b : List S) (n : Nat) (s : St) : R Fl := whlGo (fun s => ev C c s) (fun s => execs C sub b s) n s
def rngS (t : Tg) (f : St → R Fl) (x : D) (s : St) : R Fl := match tset t x s with
  | some s => f s
  | none => .no
def forX (C : Cf) (sub : Nat → Nat → Bool) (t : Tg) (b : List S) (xs : List D) (s : St) : R Fl := forGo (rngS t (execs C sub b)) xs s
theorem ol_bind_ok {α β : Type} (a : α) (s : St) (f : α → St → R β) : R.bind (.ok a s) f = f a s := (rfl)
theorem l_bind_ok {α β : Type} (a : α) (s : St) (f : α → St → R β) : R.bnd (.ok a s) f = f a s := by
  have h := @ol_bind_ok
  exact h _ _ _
theorem ol_bind_exc {α β : Type} (c : Nat) (p : List (Nat × D)) (s : St) (f : α → St → R β) : R.bind (.exc c p s : R α) f = .exc c p s := (rfl)
theorem l_bind_exc {α β : Type} (c : Nat) (p : List (Nat × D)) (s : St) (f : α → St → R β) : R.bnd (.exc c p s : R α) f = .exc c p s := by
  have h := @ol_bind_exc
  exact h _ _ _ _
theorem ol_bind_no {α β : Type} (f : α → St → R β) : R.bind (.no : R α) f = .no := (rfl)
theorem l_bind_no {α β : Type} (f : α → St → R β) : R.bnd (.no : R α) f = .no := by
  have h := @ol_bind_no
  exact h _
theorem ol_cond_t {α : Type} (a b : R α) : cond true a b = a := (rfl)
theorem l_cond_t {α : Type} (a b : R α) : condt true a b = a := by
  have h := @ol_cond_t
  exact h _ _
theorem ol_cond_f {α : Type} (a b : R α) : cond false a b = b := (rfl)
theorem l_cond_f {α : Type} (a b : R α) : condt false a b = b := by
  have h := @ol_cond_f
  exact h _ _
theorem l_cnd_t {α : Type} (a b : α) : (bif true then a else b) = a := (rfl)
theorem l_cnd_f {α : Type} (a b : α) : (bif false then a else b) = b := (rfl)
theorem l_if_t {α : Type} (a b : α) : (if True then a else b) = a := if_pos trivial
theorem l_if_f {α : Type} (a b : α) : (if False then a else b) = b := if_neg id
theorem ol_dB_dat {β : Type} (d : D) (f : D → R β) : dB (.dat d) f = f d := (rfl)
theorem l_dB_dat {β : Type} (d : D) (f : D → R β) : dBt (.dat d) f = f d := by
  have h := @ol_dB_dat
  exact h _ _
theorem ol_dB_lst {β : Type} (d : List D) (f : D → R β) : dB (.lst d) f = f (.list d) := (rfl)
theorem l_dB_lst {β : Type} (d : List D) (f : D → R β) : dBt (.lst d) f = f (.list d) := by
  have h := @ol_dB_lst
  exact h _ _
theorem ol_dB_dct {β : Type} (d : List (D × D)) (f : D → R β) : dB (.dct d) f = f (.dict d) := (rfl)
theorem l_dB_dct {β : Type} (d : List (D × D)) (f : D → R β) : dBt (.dct d) f = f (.dict d) := by
  have h := @ol_dB_dct
  exact h _ _
theorem ol_opB_s {α β : Type} (d : α) (f : α → R β) : opB (some d) f = f d := (rfl)
theorem l_opB_s {α β : Type} (d : α) (f : α → R β) : opBt (some d) f = f d := by
  have h := @ol_opB_s
  exact h _ _
theorem ol_opB_n {α β : Type} (f : α → R β) : opB (none : Option α) f = .no := (rfl)
theorem l_opB_n {α β : Type} (f : α → R β) : opBt (none : Option α) f = .no := by
  have h := @ol_opB_n
  exact h _
theorem ol_tB {β : Type} (v : Bool) (a b : R β) : teB (.dat (.bool v)) a b = cond v a b := by cases v <;> rfl
theorem l_tB {β : Type} (v : Bool) (a b : R β) : teBt (.dat (.bool v)) a b = condt v a b := by
  have h := @ol_tB
  exact h _ _ _
theorem ol_finB {β : Type} (c : Nat) (fs : List (Nat × O)) (f : Nat → List (Nat × O) → R β) : finB (.fin c fs) f = f c fs := (rfl)
theorem l_finB {β : Type} (c : Nat) (fs : List (Nat × O)) (f : Nat → List (Nat × O) → R β) : finBt (.fin c fs) f = f c fs := by
  have h := @ol_finB
  exact h _ _ _
theorem ol_insB {β : Type} (c : Nat) (fs : List (Nat × O)) (f : Nat → List (Nat × O) → R β) : insB (.ins c fs) f = f c fs := (rfl)
theorem l_insB {β : Type} (c : Nat) (fs : List (Nat × O)) (f : Nat → List (Nat × O) → R β) : insBt (.ins c fs) f = f c fs := by
  have h := @ol_insB
  exact h _ _ _
theorem ol_sq_nx (s : St) (k : St → R Fl) : sq (.ok .nx s) k = k s := (rfl)
theorem l_sq_nx (s : St) (k : St → R Fl) : sqt (.ok .nx s) k = k s := by
  have h := @ol_sq_nx
  exact h _ _
theorem ol_sq_brk (s : St) (k : St → R Fl) : sq (.ok .brk s) k = .ok .brk s := (rfl)
theorem l_sq_brk (s : St) (k : St → R Fl) : sqt (.ok .brk s) k = .ok .brk s := by
  have h := @ol_sq_brk
  exact h _ _
theorem ol_sq_cnt (s : St) (k : St → R Fl) : sq (.ok .cnt s) k = .ok .cnt s := (rfl)
theorem l_sq_cnt (s : St) (k : St → R Fl) : sqt (.ok .cnt s) k = .ok .cnt s := by
  have h := @ol_sq_cnt
  exact h _ _
theorem ol_sq_ret (o : O) (s : St) (k : St → R Fl) : sq (.ok (.ret o) s) k = .ok (.ret o) s := (rfl)
theorem l_sq_ret (o : O) (s : St) (k : St → R Fl) : sqt (.ok (.ret o) s) k = .ok (.ret o) s := by
  have h := @ol_sq_ret
  exact h _ _ _
theorem ol_sq_exc (c : Nat) (p : List (Nat × D)) (s : St) (k : St → R Fl) : sq (.exc c p s) k = .exc c p s := (rfl)
theorem l_sq_exc (c : Nat) (p : List (Nat × D)) (s : St) (k : St → R Fl) : sqt (.exc c p s) k = .exc c p s := by
  have h := @ol_sq_exc
  exact h _ _ _ _
theorem ol_sq_no (k : St → R Fl) : sq .no k = .no := (rfl)
theorem l_sq_no (k : St → R Fl) : sqt .no k = .no := by
  have h := @ol_sq_no
  exact h _
theorem ol_tr_nx (f : Fl) (s : St) (k : Nat → List (Nat × D) → St → R Fl) : triR (.ok f s) k = .ok f s := by cases f <;> rfl
theorem l_tr_nx (f : Fl) (s : St) (k : Nat → List (Nat × D) → St → R Fl) : triRt (.ok f s) k = .ok f s := by
  have h := @ol_tr_nx
  exact h _ _ _
theorem ol_tr_exc (c : Nat) (p : List (Nat × D)) (s : St) (k : Nat → List (Nat × D) → St → R Fl) : triR (.exc c p s) k = k c p s := (rfl)
theorem l_tr_exc (c : Nat) (p : List (Nat × D)) (s : St) (k : Nat → List (Nat × D) → St → R Fl) : triRt (.exc c p s) k = k c p s := by
  have h := @ol_tr_exc
  exact h _ _ _ _
theorem ol_tr_no (k : Nat → List (Nat × D) → St → R Fl) : triR .no k = .no := (rfl)
theorem l_tr_no (k : Nat → List (Nat × D) → St → R Fl) : triRt .no k = .no := by
  have h := @ol_tr_no
  exact h _
theorem l_bor_dat (d : D) (s : St) : borO (.dat d) s = .ok (.dat d) s := (rfl)
theorem l_own_dat (i : Nat) (d : D) (s : St) : ownR i (.dat d) s = .ok .nx (s.set i (.dat d)) := (rfl)
theorem l_sh_dat (d : D) (s : St) : sharedO (.dat d) s = .ok (.dat d) s := (rfl)
theorem l_fz_dat (d : D) : fz (.dat d) = .dat d := by rw [fz]
theorem l_put_dat (i : Nat) (d : D) (s : St) : putR i (.dat d) s = .ok .nx (s.set i (.dat d)) := by unfold putR putV; rw [l_fz_dat]
theorem l_bor_fin (c : Nat) (fs : List (Nat × O)) (s : St) : borO (.fin c fs) s = .ok (.fin c fs) s := (rfl)
theorem l_own_fin (i : Nat) (c : Nat) (fs : List (Nat × O)) (s : St) : ownR i (.fin c fs) s = .ok .nx (s.set i (.fin c fs)) := (rfl)
theorem l_sh_fin (c : Nat) (fs : List (Nat × O)) (s : St) : sharedO (.fin c fs) s = .ok (.fin c fs) s := (rfl)
theorem l_fz_fin (c : Nat) (fs : List (Nat × O)) : fz (.fin c fs) = .fin c fs := by rw [fz]
theorem l_put_fin (i : Nat) (c : Nat) (fs : List (Nat × O)) (s : St) : putR i (.fin c fs) s = .ok .nx (s.set i (.fin c fs)) := by unfold putR putV; rw [l_fz_fin]
theorem l_bor_tpo (xs : List O) (s : St) : borO (.tpo xs) s = .ok (.tpo xs) s := (rfl)
theorem l_own_tpo (i : Nat) (xs : List O) (s : St) : ownR i (.tpo xs) s = .ok .nx (s.set i (.tpo xs)) := (rfl)
theorem l_sh_tpo (xs : List O) (s : St) : sharedO (.tpo xs) s = .ok (.tpo xs) s := (rfl)
theorem l_fz_tpo (xs : List O) : fz (.tpo xs) = .tpo xs := by rw [fz]
theorem l_put_tpo (i : Nat) (xs : List O) (s : St) : putR i (.tpo xs) s = .ok .nx (s.set i (.tpo xs)) := by unfold putR putV; rw [l_fz_tpo]
theorem l_bor_lst (xs : List D) (s : St) : borO (.lst xs) s = .ok (.lst xs) s := (rfl)
theorem l_own_lst (i : Nat) (xs : List D) (s : St) : ownR i (.lst xs) s = .ok .nx (s.set i (.lst xs)) := (rfl)
theorem l_bor_dct (xs : List (D × D)) (s : St) : borO (.dct xs) s = .ok (.dct xs) s := (rfl)
theorem l_own_dct (i : Nat) (xs : List (D × D)) (s : St) : ownR i (.dct xs) s = .ok .nx (s.set i (.dct xs)) := (rfl)
theorem l_bor_ins (c : Nat) (fs : List (Nat × O)) (s : St) : borO (.ins c fs) s = .ok (.ins c fs) s := (rfl)
theorem l_own_ins (i : Nat) (c : Nat) (fs : List (Nat × O)) (s : St) : ownR i (.ins c fs) s = .ok .nx (s.set i (.ins c fs)) := (rfl)
theorem l_fz_un : fz .un = .un := by rw [fz]
theorem l_fz_lst (xs : List D) : fz (.lst xs) = .dat (.list xs) := by rw [fz]
theorem l_fz_dct (xs : List (D × D)) : fz (.dct xs) = .dat (.dict xs) := by rw [fz]
theorem l_fz_ins (c : Nat) (fs : List (Nat × O)) : fz (.ins c fs) = .fin c (fzs fs) := by rw [fz]
theorem l_fzs_n : fzs [] = [] := by rw [fzs]
theorem l_fzs_c (n : Nat) (o : O) (r : List (Nat × O)) : fzs ((n, o) :: r) = (n, fz o) :: fzs r := by rw [fzs]
theorem l_put_lst (i : Nat) (xs : List D) (s : St) : putR i (.lst xs) s = .ok .nx (s.set i (.dat (.list xs))) := by unfold putR putV; rw [l_fz_lst]
theorem l_put_dct (i : Nat) (xs : List (D × D)) (s : St) : putR i (.dct xs) s = .ok .nx (s.set i (.dat (.dict xs))) := by unfold putR putV; rw [l_fz_dct]
theorem l_neg (i : Int) (s : St) : negB (.dat (.int i)) s = .ok (.dat (.int (-i))) s := (rfl)
theorem l_not (b : Bool) (s : St) : notB (.dat (.bool b)) s = .ok (.dat (.bool (!b))) s := (rfl)
theorem l_nn_none : isNn (.dat .none) = true := (rfl)
theorem l_nn_bool (b : Bool) : isNn (.dat (.bool b)) = false := (rfl)
theorem l_nn_int (i : Int) : isNn (.dat (.int i)) = false := (rfl)
theorem l_nn_str (x : Str) : isNn (.dat (.str x)) = false := (rfl)
theorem l_nn_list (xs : List D) : isNn (.dat (.list xs)) = false := (rfl)
theorem l_nn_tuple (xs : List D) : isNn (.dat (.tuple xs)) = false := (rfl)
theorem l_nn_dict (xs : List (D × D)) : isNn (.dat (.dict xs)) = false := (rfl)
theorem l_nn_lst (xs : List D) : isNn (.lst xs) = false := (rfl)
theorem l_nn_dct (xs : List (D × D)) : isNn (.dct xs) = false := (rfl)
theorem l_nn_fin (c : Nat) (xs : List (Nat × O)) : isNn (.fin c xs) = false := (rfl)
theorem l_nn_ins (c : Nat) (xs : List (Nat × O)) : isNn (.ins c xs) = false := (rfl)
theorem l_nn_tpo (xs : List O) : isNn (.tpo xs) = false := (rfl)
theorem l_is_int_none : isiD .int .none = false := (rfl)
theorem l_is_int_bool (b : Bool) : isiD .int (.bool b) = true := (rfl)
theorem l_is_int_int (i : Int) : isiD .int (.int i) = true := (rfl)
theorem l_is_int_str (x : Str) : isiD .int (.str x) = false := (rfl)
theorem l_is_int_list (xs : List D) : isiD .int (.list xs) = false := (rfl)
theorem l_is_int_tuple (xs : List D) : isiD .int (.tuple xs) = false := (rfl)
theorem l_is_int_dict (xs : List (D × D)) : isiD .int (.dict xs) = false := (rfl)
theorem l_is_bool_none : isiD .bool .none = false := (rfl)
theorem l_is_bool_bool (b : Bool) : isiD .bool (.bool b) = true := (rfl)
theorem l_is_bool_int (i : Int) : isiD .bool (.int i) = false := (rfl)
theorem l_is_bool_str (x : Str) : isiD .bool (.str x) = false := (rfl)
theorem l_is_bool_list (xs : List D) : isiD .bool (.list xs) = false := (rfl)
theorem l_is_bool_tuple (xs : List D) : isiD .bool (.tuple xs) = false := (rfl)
theorem l_is_bool_dict (xs : List (D × D)) : isiD .bool (.dict xs) = false := (rfl)
theorem l_is_str_none : isiD .str .none = false := (rfl)
theorem l_is_str_bool (b : Bool) : isiD .str (.bool b) = false := (rfl)
theorem l_is_str_int (i : Int) : isiD .str (.int i) = false := (rfl)
theorem l_is_str_str (x : Str) : isiD .str (.str x) = true := (rfl)
theorem l_is_str_list (xs : List D) : isiD .str (.list xs) = false := (rfl)
theorem l_is_str_tuple (xs : List D) : isiD .str (.tuple xs) = false := (rfl)
theorem l_is_str_dict (xs : List (D × D)) : isiD .str (.dict xs) = false := (rfl)
theorem l_is_tup_none : isiD .tup .none = false := (rfl)
theorem l_is_tup_bool (b : Bool) : isiD .tup (.bool b) = false := (rfl)
theorem l_is_tup_int (i : Int) : isiD .tup (.int i) = false := (rfl)
theorem l_is_tup_str (x : Str) : isiD .tup (.str x) = false := (rfl)
theorem l_is_tup_list (xs : List D) : isiD .tup (.list xs) = false := (rfl)
theorem l_is_tup_tuple (xs : List D) : isiD .tup (.tuple xs) = true := (rfl)
theorem l_is_tup_dict (xs : List (D × D)) : isiD .tup (.dict xs) = false := (rfl)
theorem l_is_lst_none : isiD .lst .none = false := (rfl)
theorem l_is_lst_bool (b : Bool) : isiD .lst (.bool b) = false := (rfl)
theorem l_is_lst_int (i : Int) : isiD .lst (.int i) = false := (rfl)
theorem l_is_lst_str (x : Str) : isiD .lst (.str x) = false := (rfl)
theorem l_is_lst_list (xs : List D) : isiD .lst (.list xs) = true := (rfl)
theorem l_is_lst_tuple (xs : List D) : isiD .lst (.tuple xs) = false := (rfl)
theorem l_is_lst_dict (xs : List (D × D)) : isiD .lst (.dict xs) = false := (rfl)
theorem l_co_s (d : D) (l : List D) : consO d (some l) = some (d :: l) := (rfl)
theorem l_co_n (d : D) : consO d none = none := (rfl)
theorem l_mkT_s (ds : List D) (os : List O) : mkT (some ds) os = .dat (.tuple ds) := (rfl)
theorem l_mkT_n (os : List O) : mkT none os = .tpo os := (rfl)
theorem l_dsOf_n : dsOf [] = some [] := (rfl)
theorem l_dsOf_dat (d : D) (r : List O) : dsOf (.dat d :: r) = consO d (dsOf r) := by rw [dsOf]; unfold consO; show (match some d, dsOf r with | some d, some ds => some (d :: ds) | _, _ => none) = _; cases dsOf r <;> rfl
theorem l_dsOf_lst (xs : List D) (r : List O) : dsOf (.lst xs :: r) = consO (.list xs) (dsOf r) := by rw [dsOf]; unfold consO; show (match some (.list xs), dsOf r with | some d, some ds => some (d :: ds) | _, _ => none) = _; cases dsOf r <;> rfl
theorem l_dsOf_dct (xs : List (D × D)) (r : List O) : dsOf (.dct xs :: r) = consO (.dict xs) (dsOf r) := by rw [dsOf]; unfold consO; show (match some (.dict xs), dsOf r with | some d, some ds => some (d :: ds) | _, _ => none) = _; cases dsOf r <;> rfl
theorem l_dsOf_fin (c : Nat) (fs : List (Nat × O)) (r : List O) : dsOf (.fin c fs :: r) = none := by rw [dsOf]; rfl
theorem l_dsOf_tpo (xs : List O) (r : List O) : dsOf (.tpo xs :: r) = none := by rw [dsOf]; rfl
theorem l_dsOf_ins (c : Nat) (fs : List (Nat × O)) (r : List O) : dsOf (.ins c fs :: r) = none := by rw [dsOf]; rfl
theorem l_dsOf_un (r : List O) : dsOf (.un :: r) = none := by rw [dsOf]; rfl
theorem l_ofB (b : Bool) (s : St) : ofB (some b) s = .ok (.dat (.bool b)) s := (rfl)
theorem l_ofO (b : O) (s : St) : ofO (some b) s = .ok b s := (rfl)
theorem l_ofO_n (s : St) : ofO none s = .no := (rfl)
theorem l_ofD (b : D) (s : St) : ofD (some b) s = .ok (.dat b) s := (rfl)
theorem l_ofC_ok (o : O) (outs : List O) (s : St) : ofC (.ok o outs) s = .ok o s := (rfl)
theorem l_ofC_exc (c : Nat) (p : List (Nat × D)) (outs : List O) (s : St) : ofC (.exc c p outs) s = .exc c p s := (rfl)
theorem l_ofC_no (s : St) : ofC .no s = .no := (rfl)
theorem l_evo_u (s : St) : evo (.ok .un s) = .ok none s := (rfl)
theorem l_evo_i (i : Int) (s : St) : evo (.ok (.dat (.int i)) s) = .ok (some i) s := (rfl)
theorem l_gd0 (x : O) (l : List O) (d : O) : (x :: l).getD 0 d = x := (rfl)
theorem l_gds (x : O) (l : List O) (n : Nat) (d : O) : (x :: l).getD (n + 1) d = l.getD n d := (rfl)
theorem l_st0 (x : O) (l : List O) (d : O) : (x :: l).set 0 d = d :: l := (rfl)
theorem l_sts (x : O) (l : List O) (n : Nat) (d : O) : (x :: l).set (n + 1) d = x :: l.set n d := (rfl)
theorem l_fld_fin (c x : Nat) (fs : List (Nat × O)) : fldO (.fin c fs) x = alook fs x := (rfl)
theorem l_fld_ins (c x : Nat) (fs : List (Nat × O)) : fldO (.ins c fs) x = alook fs x := (rfl)
theorem l_al_n (x : Nat) : alook [] x = .un := (rfl)
theorem l_al_c (x y : Nat) (p : O) (r : List (Nat × O)) : alook ((y, p) :: r) x = if x = y then p else alook r x := by
  unfold alook
  rw [List.lookup_cons]
  by_cases h : x = y
  · subst h; simp
  · have : (x == y) = false := by simpa using h
    rw [this, if_neg h]
theorem l_ap_n (x : Nat) (o : O) : aput [] x o = [(x, o)] := (rfl)
theorem l_ap_c (x y : Nat) (p o : O) (r : List (Nat × O)) : aput ((y, p) :: r) x o = if y = x then (x, o) :: r else (y, p) :: aput r x o := (rfl)
theorem l_gp_v (i : Nat) (s : St) : getPl (.v i) s = s.getD i .un := (rfl)
theorem l_gp_f (i x : Nat) (s : St) : getPl (.f i x) s = fldO (s.getD i .un) x := (rfl)
theorem l_sp_v (i : Nat) (o : O) (s : St) : setPl (.v i) o s = some (s.set i o) := (rfl)
def setI (x : O) (i y : Nat) (o : O) (s : St) : Option St := match x with | .ins c fs => some (s.set i (.ins c (aput fs y o))) | _ => none
theorem l_sp_f (i x : Nat) (o : O) (s : St) : setPl (.f i x) o s = setI (s.getD i .un) i x o s := by unfold setPl setI; rfl
theorem l_si (c : Nat) (fs : List (Nat × O)) (i y : Nat) (o : O) (s : St) : setI (.ins c fs) i y o s = some (s.set i (.ins c (aput fs y o))) := (rfl)
theorem l_pl_v (i : Nat) (s : St) (r : R O) : bor (plE (.v i)) s r = borO (s.getD i .un) s := (rfl)
theorem l_pl_f (i x : Nat) (s : St) (r : R O) : bor (plE (.f i x)) s r = borO (fldO (s.getD i .un) x) s := (rfl)
theorem l_b_v (i : Nat) (s : St) (r : R O) : bor (.var i) s r = borO (s.getD i .un) s := (rfl)
theorem l_b_f (i x : Nat) (s : St) (r : R O) : bor (.fld (.var i) x) s r = borO (fldO (s.getD i .un) x) s := (rfl)
theorem l_b_non (s : St) (r : R O) : bor (.non) s r = r := (rfl)
theorem l_b_bl (b : Bool) (s : St) (r : R O) : bor (.bl b) s r = r := (rfl)
theorem l_b_int (i : Int) (s : St) (r : R O) : bor (.int i) s r = r := (rfl)
theorem l_b_str (x : Str) (s : St) (r : R O) : bor (.str x) s r = r := (rfl)
theorem l_b_glb (x : Nat) (s : St) (r : R O) : bor (.glb x) s r = r := (rfl)
theorem l_b_tup (es : List E) (s : St) (r : R O) : bor (.tup es) s r = r := (rfl)
theorem l_b_lst (es : List E) (s : St) (r : R O) : bor (.lst es) s r = r := (rfl)
theorem l_b_dct (es : List E) (s : St) (r : R O) : bor (.dct es) s r = r := (rfl)
theorem l_b_bop (o : Bop) (a b : E) (s : St) (r : R O) : bor (.bop o a b) s r = r := (rfl)
theorem l_b_neg (a : E) (s : St) (r : R O) : bor (.neg a) s r = r := (rfl)
theorem l_b_cmp (o : Cop) (a b : E) (s : St) (r : R O) : bor (.cmp o a b) s r = r := (rfl)
theorem l_b_chn (o p : Cop) (a b c : E) (s : St) (r : R O) : bor (.chn o p a b c) s r = r := (rfl)
theorem l_b_isn (a : E) (s : St) (r : R O) : bor (.isn a) s r = r := (rfl)
theorem l_b_notn (a : E) (s : St) (r : R O) : bor (.notn a) s r = r := (rfl)
theorem l_b_and (a b : E) (s : St) (r : R O) : bor (.and a b) s r = r := (rfl)
theorem l_b_or (a b : E) (s : St) (r : R O) : bor (.or a b) s r = r := (rfl)
theorem l_b_not (a : E) (s : St) (r : R O) : bor (.not a) s r = r := (rfl)
theorem l_b_ife (a b c : E) (s : St) (r : R O) : bor (.ife a b c) s r = r := (rfl)
theorem l_b_idx (a b : E) (s : St) (r : R O) : bor (.idx a b) s r = r := (rfl)
theorem l_b_slc (a b c : E) (s : St) (r : R O) : bor (.slc a b c) s r = r := (rfl)
theorem l_b_rev (a : E) (s : St) (r : R O) : bor (.rev a) s r = r := (rfl)
theorem l_b_call (f : Nat) (es : List E) (s : St) (r : R O) : bor (.call f es) s r = r := (rfl)
theorem l_b_new (f : Nat) (es : List E) (s : St) (r : R O) : bor (.new f es) s r = r := (rfl)
theorem l_b_meth (m : Nat) (a : E) (es : List E) (s : St) (r : R O) : bor (.meth m a es) s r = r := (rfl)
theorem l_b_bi (b : Bi) (es : List E) (s : St) (r : R O) : bor (.bi b es) s r = r := (rfl)
theorem l_b_isi (a : E) (t : Ty) (s : St) (r : R O) : bor (.isi a t) s r = r := (rfl)
theorem l_b_bs (b : Bs) (x : Src) (s : St) (r : R O) : bor (.bs b x) s r = r := (rfl)
theorem l_b_mt (m : Mt) (a : E) (es : List E) (s : St) (r : R O) : bor (.mt m a es) s r = r := (rfl)
theorem l_b_lc (t : Tg) (x : Src) (e : E) (s : St) (r : R O) : bor (.lc t x e) s r = r := (rfl)
theorem l_b_lci (t : Tg) (x : Src) (c e : E) (s : St) (r : R O) : bor (.lci t x c e) s r = r := (rfl)
theorem l_b_dc (t : Tg) (x : Src) (k v : E) (s : St) (r : R O) : bor (.dc t x k v) s r = r := (rfl)
theorem l_b_dci (t : Tg) (x : Src) (c k v : E) (s : St) (r : R O) : bor (.dci t x c k v) s r = r := (rfl)
theorem l_b_mu (m : Mu) (p : Pl) (es : List E) (s : St) (r : R O) : bor (.mu m p es) s r = r := (rfl)
theorem l_b_mex (m : Nat) (p : Pl) (es : List E) (s : St) (r : R O) : bor (.mex m p es) s r = r := (rfl)
theorem l_b_cax (f : Nat) (p : Pl) (es : List E) (s : St) (r : R O) : bor (.cax f p es) s r = r := (rfl)
theorem l_b_fm (m : Nat) (a : E) (es : List E) (x : Nat) (s : St) (r : R O) : bor (.fld (.meth m a es) x) s r = r := (rfl)
theorem l_b_ff (a : E) (y x : Nat) (s : St) (r : R O) : bor (.fld (.fld a y) x) s r = r := (rfl)
theorem l_b_fi (a y : E) (x : Nat) (s : St) (r : R O) : bor (.fld (.idx a y) x) s r = r := (rfl)
theorem l_b_fc (f : Nat) (es : List E) (x : Nat) (s : St) (r : R O) : bor (.fld (.call f es) x) s r = r := (rfl)
theorem l_o_add (i j : Int) : bopD .add (.int i) (.int j) = some (.dat (.int (i + j))) := (rfl)
theorem l_o_sub (i j : Int) : bopD .sub (.int i) (.int j) = some (.dat (.int (i - j))) := (rfl)
theorem l_o_mul (i j : Int) : bopD .mul (.int i) (.int j) = if mulOk i j = true then some (.dat (.int (i * j))) else none := (rfl)
theorem l_o_fdiv (i j : Int) : bopD .fdiv (.int i) (.int j) = if (decide (0 < j) && decide (j < 1073741824)) = true then some (.dat (.int (i / j))) else none := (rfl)
theorem l_o_mod (i j : Int) : bopD .mod (.int i) (.int j) = if 0 < j then some (.dat (.int (i % j))) else none := (rfl)
theorem l_o_addS (x y : Str) : bopD .add (.str x) (.str y) = if szOk (x.length + y.length) = true then some (.dat (.str (x ++ y))) else none := (rfl)
theorem l_o_addL (x y : List D) : bopD .add (.list x) (.list y) = if szOk (x.length + y.length) = true then some (.lst (x ++ y)) else none := (rfl)
theorem l_o_addT (x y : List D) : bopD .add (.tuple x) (.tuple y) = if szOk (x.length + y.length) = true then some (.dat (.tuple (x ++ y))) else none := (rfl)
theorem l_a_add (i j : Int) : augD .add (.int i) (.int j) = some (.dat (.int (i + j))) := (rfl)
theorem l_a_sub (i j : Int) : augD .sub (.int i) (.int j) = some (.dat (.int (i - j))) := (rfl)
theorem l_a_mul (i j : Int) : augD .mul (.int i) (.int j) = bopD .mul (.int i) (.int j) := (rfl)
theorem l_c_lt (i j : Int) : cmpD .lt (.int i) (.int j) = some (decide (i < j)) := (rfl)
theorem l_c_le (i j : Int) : cmpD .le (.int i) (.int j) = some (decide (i ≤ j)) := (rfl)
theorem l_c_gt (i j : Int) : cmpD .gt (.int i) (.int j) = some (decide (j < i)) := (rfl)
theorem l_c_ge (i j : Int) : cmpD .ge (.int i) (.int j) = some (decide (j ≤ i)) := (rfl)
theorem l_c_eq (i j : Int) : cmpD .eq (.int i) (.int j) = some (decide (i = j)) := (rfl)
theorem l_c_ne (i j : Int) : cmpD .ne (.int i) (.int j) = some (!decide (i = j)) := (rfl)
theorem l_c_eqS (i j : Str) : cmpD .eq (.str i) (.str j) = some (decide (i = j)) := by
  show (if (nice (.str i) && nice (.str j)) = true then some (PyData.eqv (.str i) (.str j)) else none) = _
  have h : ∀ x : Str, nice (.str x) = true := fun x => rfl
  rw [h, h]
  simp [PyData.eqv, BEq.beq]
theorem l_c_neS (i j : Str) : cmpD .ne (.str i) (.str j) = some (!decide (i = j)) := by
  show (if (nice (.str i) && nice (.str j)) = true then some (!PyData.eqv (.str i) (.str j)) else none) = _
  have h : ∀ x : Str, nice (.str x) = true := fun x => rfl
  rw [h, h]
  simp [PyData.eqv, BEq.beq]
theorem l_c_eqNN : cmpD .eq .none .none = some true := (rfl)
theorem l_c_memD (x : D) (kvs : List (D × D)) : cmpD .mem x (.dict kvs) = if kOk kvs x = true then some (dhas kvs x) else none := by cases x <;> rfl
theorem l_c_nmemD (x : D) (kvs : List (D × D)) : cmpD .nmem x (.dict kvs) = if kOk kvs x = true then some (!dhas kvs x) else none := by cases x <;> rfl
theorem l_c_memL (x : D) (ys : List D) : cmpD .mem x (.list ys) = if (nice x && ys.all nice) = true then some (memD x ys) else none := by cases x <;> rfl
theorem l_c_nmemL (x : D) (ys : List D) : cmpD .nmem x (.list ys) = if (nice x && ys.all nice) = true then some (!memD x ys) else none := by cases x <;> rfl
theorem l_c_memT (x : D) (ys : List D) : cmpD .mem x (.tuple ys) = if (nice x && ys.all nice) = true then some (memD x ys) else none := by cases x <;> rfl
theorem l_c_nmemT (x : D) (ys : List D) : cmpD .nmem x (.tuple ys) = if (nice x && ys.all nice) = true then some (!memD x ys) else none := by cases x <;> rfl
theorem l_ixL0 (a : D) (r : List D) : idxD (.list (a :: r)) (.int 0) = some a := by simp [idxD, ixN, L2.ixN]; done
theorem l_ixL1 (a b : D) (r : List D) : idxD (.list (a :: b :: r)) (.int 1) = some b := by
  have h : (1 : Int) < (r.length : Int) + 1 + 1 := by omega
  simp [idxD, ixN, L2.ixN, h]
theorem l_ixL2 (a b c : D) (r : List D) : idxD (.list (a :: b :: c :: r)) (.int 2) = some c := by
  have h : (2 : Int) < (r.length : Int) + 1 + 1 + 1 := by omega
  simp [idxD, ixN, L2.ixN, h]
theorem l_ixT0 (a : D) (r : List D) : idxD (.tuple (a :: r)) (.int 0) = some a := by simp [idxD, ixN, L2.ixN]; done
theorem l_ixT1 (a b : D) (r : List D) : idxD (.tuple (a :: b :: r)) (.int 1) = some b := by
  have h : (1 : Int) < (r.length : Int) + 1 + 1 := by omega
  simp [idxD, ixN, L2.ixN, h]
theorem l_ixT2 (a b c : D) (r : List D) : idxD (.tuple (a :: b :: c :: r)) (.int 2) = some c := by
  have h : (2 : Int) < (r.length : Int) + 1 + 1 + 1 := by omega
  simp [idxD, ixN, L2.ixN, h]
theorem l_ixO_d (d k : D) : idxO (.dat d) k = (idxD d k).map .dat := (rfl)
theorem l_ixO_l (d : List D) (k : D) : idxO (.lst d) k = (idxD (.list d) k).map .dat := (rfl)
theorem l_ixO_c (d : List (D × D)) (k : D) : idxO (.dct d) k = (idxD (.dict d) k).map .dat := (rfl)
theorem l_ixO_t (xs : List O) (i : Int) : idxO (.tpo xs) (.int i) = Option.bind (ixN xs.length i) fun j => xs[j]? := (rfl)
theorem l_ixD_d (kvs : List (D × D)) (k : D) : idxD (.dict kvs) k = if kOk kvs k = true then dget kvs k else none := (rfl)
theorem l_len_l (xs : List D) : biD .len [.list xs] = some (.int xs.length) := (rfl)
theorem l_len_t (xs : List D) : biD .len [.tuple xs] = some (.int xs.length) := (rfl)
theorem l_len_d (xs : List (D × D)) : biD .len [.dict xs] = some (.int xs.length) := (rfl)
theorem l_bi_int (i : Int) : biD .int [.int i] = some (.int i) := (rfl)
theorem l_bi_max (i j : Int) : biD .max2 [.int i, .int j] = some (.int (if j > i then j else i)) := (rfl)
theorem l_bi_min (i j : Int) : biD .min2 [.int i, .int j] = some (.int (if j < i then j else i)) := (rfl)
theorem l_e_nil (C : Cf)  (s : St) : ev C (.nil) s = .ok .un s := by rw [ev]
theorem l_e_non (C : Cf)  (s : St) : ev C (.non) s = .ok (.dat .none) s := by rw [ev]
theorem l_e_bl (C : Cf) (b : Bool) (s : St) : ev C (.bl b) s = .ok (.dat (.bool b)) s := by rw [ev]
theorem l_e_int (C : Cf) (i : Int) (s : St) : ev C (.int i) s = .ok (.dat (.int i)) s := by rw [ev]
theorem l_e_str (C : Cf) (x : Str) (s : St) : ev C (.str x) s = .ok (.dat (.str x)) s := by rw [ev]
theorem l_e_glb (C : Cf) (x : Nat) (s : St) : ev C (.glb x) s = ofD (C.glb x) s := by rw [ev]
theorem l_e_var (C : Cf) (i : Nat) (s : St) : ev C (.var i) s = sharedO (s.getD i .un) s := by rw [ev]
theorem ol_e_tup (C : Cf) (es : List E) (s : St) : ev C (.tup es) s = (evs C es s).bind fun os s => .ok (mkT (dsOf os) os) s := by rw [ev]; rfl
theorem l_e_tup (C : Cf) (es : List E) (s : St) : ev C (.tup es) s = (evs C es s).bnd fun os s => .ok (mkT (dsOf os) os) s := by
  have h := @ol_e_tup
  exact h _ _ _
theorem ol_e_lst (C : Cf) (es : List E) (s : St) : ev C (.lst es) s = (evs C es s).bind fun os s => opB (dsOf os) fun ds => .ok (.lst ds) s := by
  rw [ev]; congr 1; funext os s
  cases dsOf os <;> rfl
theorem l_e_lst (C : Cf) (es : List E) (s : St) : ev C (.lst es) s = (evs C es s).bnd fun os s => opBt (dsOf os) fun ds => .ok (.lst ds) s := by
  have h := @ol_e_lst
  exact h _ _ _
theorem ol_e_dct (C : Cf) (es : List E) (s : St) : ev C (.dct es) s = (evs C es s).bind fun os s => ofO (Option.map .dct (Option.bind (Option.bind (dsOf os) pairUp) (dputs []))) s := by rw [ev]
theorem l_e_dct (C : Cf) (es : List E) (s : St) : ev C (.dct es) s = (evs C es s).bnd fun os s => ofO (Option.map .dct (Option.bind (Option.bind (dsOf os) pairUp) (dputs []))) s := by
  have h := @ol_e_dct
  exact h _ _ _
theorem ol_e_bop (C : Cf) (o : Bop) (a b : E) (s : St) : ev C (.bop o a b) s = (bor a s (ev C a s)).bind fun x s => (bor b s (ev C b s)).bind fun y s => dB x fun d => dB y fun e => ofO (bopD o d e) s := by
  rw [ev]; congr 1; funext x s; congr 1; funext y s; unfold dB
  cases x.d? <;> cases y.d? <;> rfl
theorem l_e_bop (C : Cf) (o : Bop) (a b : E) (s : St) : ev C (.bop o a b) s = (bor a s (ev C a s)).bnd fun x s => (bor b s (ev C b s)).bnd fun y s => dBt x fun d => dBt y fun e => ofO (bopD o d e) s := by
  have h := @ol_e_bop
  exact h _ _ _ _ _
theorem ol_e_neg (C : Cf) (a : E) (s : St) : ev C (.neg a) s = (ev C a s).bind negB := by rw [ev]; rfl
theorem l_e_neg (C : Cf) (a : E) (s : St) : ev C (.neg a) s = (ev C a s).bnd negB := by
  have h := @ol_e_neg
  exact h _ _ _
theorem ol_e_cmp (C : Cf) (o : Cop) (a b : E) (s : St) : ev C (.cmp o a b) s = (bor a s (ev C a s)).bind fun x s => (bor b s (ev C b s)).bind fun y s => dB x fun d => dB y fun e => ofB (cmpD o d e) s := by
  rw [ev]; congr 1; funext x s; congr 1; funext y s; unfold dB
  cases x.d? <;> cases y.d? <;> rfl
theorem l_e_cmp (C : Cf) (o : Cop) (a b : E) (s : St) : ev C (.cmp o a b) s = (bor a s (ev C a s)).bnd fun x s => (bor b s (ev C b s)).bnd fun y s => dBt x fun d => dBt y fun e => ofB (cmpD o d e) s := by
  have h := @ol_e_cmp
  exact h _ _ _ _ _
theorem ol_e_chn (C : Cf) (o p : Cop) (a b c : E) (s : St) : ev C (.chn o p a b c) s = (bor a s (ev C a s)).bind fun x s => (bor b s (ev C b s)).bind fun y s => dB x fun d => dB y fun e => opB (cmpD o d e) fun t => cond t ((bor c s (ev C c s)).bind fun z s => dB z fun g => ofB (cmpD p e g) s) (.ok (.dat (.bool false)) s) := by
  rw [ev]; congr 1; funext x s; congr 1; funext y s; unfold dB
  cases x.d? <;> cases y.d? <;> try rfl
  rename_i d e
  show (match cmpD o d e with | some true => _ | some false => _ | none => _) = opB (cmpD o d e) _
  cases cmpD o d e with
  | none => rfl
  | some t => cases t <;> rfl
theorem l_e_chn (C : Cf) (o p : Cop) (a b c : E) (s : St) : ev C (.chn o p a b c) s = (bor a s (ev C a s)).bnd fun x s => (bor b s (ev C b s)).bnd fun y s => dBt x fun d => dBt y fun e => opBt (cmpD o d e) fun t => condt t ((bor c s (ev C c s)).bnd fun z s => dBt z fun g => ofB (cmpD p e g) s) (.ok (.dat (.bool false)) s) := by
  have h := @ol_e_chn
  exact h _ _ _ _ _ _ _
theorem ol_e_isn (C : Cf) (a : E) (s : St) : ev C (.isn a) s = (bor a s (ev C a s)).bind fun x s => .ok (.dat (.bool (isNn x))) s := by rw [ev]; rfl
theorem l_e_isn (C : Cf) (a : E) (s : St) : ev C (.isn a) s = (bor a s (ev C a s)).bnd fun x s => .ok (.dat (.bool (isNn x))) s := by
  have h := @ol_e_isn
  exact h _ _ _
theorem ol_e_notn (C : Cf) (a : E) (s : St) : ev C (.notn a) s = (bor a s (ev C a s)).bind fun x s => .ok (.dat (.bool (!isNn x))) s := by
  rw [ev]; congr 1; funext x s; unfold isNn
  cases x <;> try rfl
  rename_i d
  cases d <;> rfl
theorem l_e_notn (C : Cf) (a : E) (s : St) : ev C (.notn a) s = (bor a s (ev C a s)).bnd fun x s => .ok (.dat (.bool (!isNn x))) s := by
  have h := @ol_e_notn
  exact h _ _ _
theorem ol_e_and (C : Cf) (a b : E) (s : St) : ev C (.and a b) s = (ev C a s).bind fun x s => teB x (ev C b s) (.ok (.dat (.bool false)) s) := by rw [ev]; rfl
theorem l_e_and (C : Cf) (a b : E) (s : St) : ev C (.and a b) s = (ev C a s).bnd fun x s => teBt x (ev C b s) (.ok (.dat (.bool false)) s) := by
  have h := @ol_e_and
  exact h _ _ _ _
theorem ol_e_or (C : Cf) (a b : E) (s : St) : ev C (.or a b) s = (ev C a s).bind fun x s => teB x (.ok (.dat (.bool true)) s) (ev C b s) := by rw [ev]; rfl
theorem l_e_or (C : Cf) (a b : E) (s : St) : ev C (.or a b) s = (ev C a s).bnd fun x s => teBt x (.ok (.dat (.bool true)) s) (ev C b s) := by
  have h := @ol_e_or
  exact h _ _ _ _
theorem ol_e_not (C : Cf) (a : E) (s : St) : ev C (.not a) s = (ev C a s).bind notB := by rw [ev]; rfl
theorem l_e_not (C : Cf) (a : E) (s : St) : ev C (.not a) s = (ev C a s).bnd notB := by
  have h := @ol_e_not
  exact h _ _ _
theorem ol_e_ife (C : Cf) (c a b : E) (s : St) : ev C (.ife c a b) s = (ev C c s).bind fun x s => teB x (ev C a s) (ev C b s) := by rw [ev]; rfl
theorem l_e_ife (C : Cf) (c a b : E) (s : St) : ev C (.ife c a b) s = (ev C c s).bnd fun x s => teBt x (ev C a s) (ev C b s) := by
  have h := @ol_e_ife
  exact h _ _ _ _ _
theorem ol_e_idx (C : Cf) (a i : E) (s : St) : ev C (.idx a i) s = (bor a s (ev C a s)).bind fun x s => (ev C i s).bind fun k s => dB (fz k) fun k => ofO (idxO x k) s := by
  rw [ev]; congr 1; funext x s; congr 1; funext k s; unfold dB
  cases (fz k).d? <;> rfl
theorem l_e_idx (C : Cf) (a i : E) (s : St) : ev C (.idx a i) s = (bor a s (ev C a s)).bnd fun x s => (ev C i s).bnd fun k s => dBt (fz k) fun k => ofO (idxO x k) s := by
  have h := @ol_e_idx
  exact h _ _ _ _
theorem ol_e_slc (C : Cf) (a lo hi : E) (s : St) : ev C (.slc a lo hi) s = (bor a s (ev C a s)).bind fun x s => (evo (ev C lo s)).bind fun l s => (evo (ev C hi s)).bind fun h s => dB x fun d => ofO (slcD d l h) s := by rw [ev]; rfl
theorem l_e_slc (C : Cf) (a lo hi : E) (s : St) : ev C (.slc a lo hi) s = (bor a s (ev C a s)).bnd fun x s => (evo (ev C lo s)).bnd fun l s => (evo (ev C hi s)).bnd fun h s => dBt x fun d => ofO (slcD d l h) s := by
  have h := @ol_e_slc
  exact h _ _ _ _ _
theorem ol_e_rev (C : Cf) (a : E) (s : St) : ev C (.rev a) s = (bor a s (ev C a s)).bind fun x s => dB x fun d => ofO (revD d) s := by rw [ev]; rfl
theorem l_e_rev (C : Cf) (a : E) (s : St) : ev C (.rev a) s = (bor a s (ev C a s)).bnd fun x s => dBt x fun d => ofO (revD d) s := by
  have h := @ol_e_rev
  exact h _ _ _
theorem ol_e_fld (C : Cf) (a : E) (x : Nat) (s : St) : ev C (.fld a x) s = (bor a s (ev C a s)).bind fun o s => sharedO (fldO o x) s := by rw [ev]
theorem l_e_fld (C : Cf) (a : E) (x : Nat) (s : St) : ev C (.fld a x) s = (bor a s (ev C a s)).bnd fun o s => sharedO (fldO o x) s := by
  have h := @ol_e_fld
  exact h _ _ _ _
theorem ol_e_call (C : Cf) (f : Nat) (es : List E) (s : St) : ev C (.call f es) s = (evs C es s).bind fun os s => ofC (C.call f os) s := by rw [ev]
theorem l_e_call (C : Cf) (f : Nat) (es : List E) (s : St) : ev C (.call f es) s = (evs C es s).bnd fun os s => ofC (C.call f os) s := by
  have h := @ol_e_call
  exact h _ _ _ _
theorem ol_e_new (C : Cf) (c : Nat) (es : List E) (s : St) : ev C (.new c es) s = (evs C es s).bind fun os s => opB (C.init c) fun f => newR (C.call f (.ins c [] :: os)) s := by
  rw [ev]; congr 1; funext os s
  cases C.init c <;> rfl
theorem l_e_new (C : Cf) (c : Nat) (es : List E) (s : St) : ev C (.new c es) s = (evs C es s).bnd fun os s => opBt (C.init c) fun f => newR (C.call f (.ins c [] :: os)) s := by
  have h := @ol_e_new
  exact h _ _ _ _
theorem ol_e_meth (C : Cf) (m : Nat) (a : E) (es : List E) (s : St) : ev C (.meth m a es) s = (bor a s (ev C a s)).bind fun o s => finB o fun c fs => opB (C.meth c m) fun f => (evs C es s).bind fun os s => ofC (C.call f (.fin c fs :: os)) s := by
  rw [ev]; congr 1; funext o s
  cases o <;> try rfl
  rename_i c fs
  show (match C.meth c m with | some f => _ | none => _) = opB (C.meth c m) _
  cases C.meth c m <;> rfl
theorem l_e_meth (C : Cf) (m : Nat) (a : E) (es : List E) (s : St) : ev C (.meth m a es) s = (bor a s (ev C a s)).bnd fun o s => finBt o fun c fs => opBt (C.meth c m) fun f => (evs C es s).bnd fun os s => ofC (C.call f (.fin c fs :: os)) s := by
  have h := @ol_e_meth
  exact h _ _ _ _ _
theorem ol_e_bi1 (C : Cf) (b : Bi) (a : E) (s : St) : ev C (.bi b [a]) s = (bor a s (ev C a s)).bind fun x s => dB x fun d => ofD (biD b [d]) s := by rw [ev]; rfl
theorem l_e_bi1 (C : Cf) (b : Bi) (a : E) (s : St) : ev C (.bi b [a]) s = (bor a s (ev C a s)).bnd fun x s => dBt x fun d => ofD (biD b [d]) s := by
  have h := @ol_e_bi1
  exact h _ _ _ _
theorem ol_e_bi2 (C : Cf) (t : Bi) (a b : E) (s : St) : ev C (.bi t [a, b]) s = (evs C [a, b] s).bind fun os s => opB (dsOf os) fun ds => ofD (biD t ds) s := by
  rw [ev]
  · congr 1; funext os s; cases dsOf os <;> rfl
  · intro a h; cases h
theorem l_e_bi2 (C : Cf) (t : Bi) (a b : E) (s : St) : ev C (.bi t [a, b]) s = (evs C [a, b] s).bnd fun os s => opBt (dsOf os) fun ds => ofD (biD t ds) s := by
  have h := @ol_e_bi2
  exact h _ _ _ _ _
theorem ol_e_bi3 (C : Cf) (t : Bi) (a b c : E) (s : St) : ev C (.bi t [a, b, c]) s = (evs C [a, b, c] s).bind fun os s => opB (dsOf os) fun ds => ofD (biD t ds) s := by
  rw [ev]
  · congr 1; funext os s; cases dsOf os <;> rfl
  · intro a h; cases h
theorem l_e_bi3 (C : Cf) (t : Bi) (a b c : E) (s : St) : ev C (.bi t [a, b, c]) s = (evs C [a, b, c] s).bnd fun os s => opBt (dsOf os) fun ds => ofD (biD t ds) s := by
  have h := @ol_e_bi3
  exact h _ _ _ _ _ _
theorem ol_e_isi (C : Cf) (a : E) (t : Ty) (s : St) : ev C (.isi a t) s = (bor a s (ev C a s)).bind fun x s => dB x fun d => .ok (.dat (.bool (isiD t d))) s := by rw [ev]; rfl
theorem l_e_isi (C : Cf) (a : E) (t : Ty) (s : St) : ev C (.isi a t) s = (bor a s (ev C a s)).bnd fun x s => dBt x fun d => .ok (.dat (.bool (isiD t d))) s := by
  have h := @ol_e_isi
  exact h _ _ _ _
theorem ol_e_bsE (C : Cf) (b : Bs) (a : E) (s : St) : ev C (.bs b (.e a)) s = (bor a s (ev C a s)).bind fun x s => dB x fun d => opB (lsB b d) fun l => ofO (bsD b l) s := by
  rw [ev]; congr 1; funext x s; unfold dB
  cases x.d? with
  | none => rfl
  | some d =>
    show ofO ((lsB b d).bind (bsD b)) s = opB (lsB b d) _
    cases lsB b d <;> rfl
theorem l_e_bsE (C : Cf) (b : Bs) (a : E) (s : St) : ev C (.bs b (.e a)) s = (bor a s (ev C a s)).bnd fun x s => dBt x fun d => opBt (lsB b d) fun l => ofO (bsD b l) s := by
  have h := @ol_e_bsE
  exact h _ _ _ _
theorem ol_e_bsV (C : Cf) (b : Bs) (a : E) (s : St) : ev C (.bs b (.itr .values [a])) s = (bor a s (ev C a s)).bind fun x s => dB x fun d => opB (valsD d) fun l => ofO (bsD b l) s := by
  rw [ev]; congr 1; funext x s; unfold dB
  cases x.d? with
  | none => rfl
  | some d =>
    show ofO ((valsD d).bind (bsD b)) s = opB (valsD d) _
    cases valsD d <;> rfl
theorem l_e_bsV (C : Cf) (b : Bs) (a : E) (s : St) : ev C (.bs b (.itr .values [a])) s = (bor a s (ev C a s)).bnd fun x s => dBt x fun d => opBt (valsD d) fun l => ofO (bsD b l) s := by
  have h := @ol_e_bsV
  exact h _ _ _ _
theorem ol_e_bsI_range1 (C : Cf) (b : Bs) (es : List E) (s : St) : ev C (.bs b (.itr .range1 es)) s = (evs C es s).bind fun os s => opB (dsOf os) fun ds => opB (itrD .range1 ds) fun l => ofO (bsD b l) s := by
  rw [ev]
  · congr 1; funext os s
    cases dsOf os with
    | none => rfl
    | some ds =>
      show ofO ((itrD .range1 ds).bind (bsD b)) s = opB (itrD .range1 ds) _
      cases itrD .range1 ds <;> rfl
  · intro a h; cases h
theorem l_e_bsI_range1 (C : Cf) (b : Bs) (es : List E) (s : St) : ev C (.bs b (.itr .range1 es)) s = (evs C es s).bnd fun os s => opBt (dsOf os) fun ds => opBt (itrD .range1 ds) fun l => ofO (bsD b l) s := by
  have h := @ol_e_bsI_range1
  exact h _ _ _ _
theorem ol_e_bsI_range2 (C : Cf) (b : Bs) (es : List E) (s : St) : ev C (.bs b (.itr .range2 es)) s = (evs C es s).bind fun os s => opB (dsOf os) fun ds => opB (itrD .range2 ds) fun l => ofO (bsD b l) s := by
  rw [ev]
  · congr 1; funext os s
    cases dsOf os with
    | none => rfl
    | some ds =>
      show ofO ((itrD .range2 ds).bind (bsD b)) s = opB (itrD .range2 ds) _
      cases itrD .range2 ds <;> rfl
  · intro a h; cases h
theorem l_e_bsI_range2 (C : Cf) (b : Bs) (es : List E) (s : St) : ev C (.bs b (.itr .range2 es)) s = (evs C es s).bnd fun os s => opBt (dsOf os) fun ds => opBt (itrD .range2 ds) fun l => ofO (bsD b l) s := by
  have h := @ol_e_bsI_range2
  exact h _ _ _ _
theorem ol_e_bsI_range3 (C : Cf) (b : Bs) (es : List E) (s : St) : ev C (.bs b (.itr .range3 es)) s = (evs C es s).bind fun os s => opB (dsOf os) fun ds => opB (itrD .range3 ds) fun l => ofO (bsD b l) s := by
  rw [ev]
  · congr 1; funext os s
    cases dsOf os with
    | none => rfl
    | some ds =>
      show ofO ((itrD .range3 ds).bind (bsD b)) s = opB (itrD .range3 ds) _
      cases itrD .range3 ds <;> rfl
  · intro a h; cases h
theorem l_e_bsI_range3 (C : Cf) (b : Bs) (es : List E) (s : St) : ev C (.bs b (.itr .range3 es)) s = (evs C es s).bnd fun os s => opBt (dsOf os) fun ds => opBt (itrD .range3 ds) fun l => ofO (bsD b l) s := by
  have h := @ol_e_bsI_range3
  exact h _ _ _ _
theorem ol_e_bsI_zip (C : Cf) (b : Bs) (es : List E) (s : St) : ev C (.bs b (.itr .zip es)) s = (evs C es s).bind fun os s => opB (dsOf os) fun ds => opB (itrD .zip ds) fun l => ofO (bsD b l) s := by
  rw [ev]
  · congr 1; funext os s
    cases dsOf os with
    | none => rfl
    | some ds =>
      show ofO ((itrD .zip ds).bind (bsD b)) s = opB (itrD .zip ds) _
      cases itrD .zip ds <;> rfl
  · intro a h; cases h
theorem l_e_bsI_zip (C : Cf) (b : Bs) (es : List E) (s : St) : ev C (.bs b (.itr .zip es)) s = (evs C es s).bnd fun os s => opBt (dsOf os) fun ds => opBt (itrD .zip ds) fun l => ofO (bsD b l) s := by
  have h := @ol_e_bsI_zip
  exact h _ _ _ _
theorem ol_e_bsI_enum (C : Cf) (b : Bs) (es : List E) (s : St) : ev C (.bs b (.itr .enum es)) s = (evs C es s).bind fun os s => opB (dsOf os) fun ds => opB (itrD .enum ds) fun l => ofO (bsD b l) s := by
  rw [ev]
  · congr 1; funext os s
    cases dsOf os with
    | none => rfl
    | some ds =>
      show ofO ((itrD .enum ds).bind (bsD b)) s = opB (itrD .enum ds) _
      cases itrD .enum ds <;> rfl
  · intro a h; cases h
theorem l_e_bsI_enum (C : Cf) (b : Bs) (es : List E) (s : St) : ev C (.bs b (.itr .enum es)) s = (evs C es s).bnd fun os s => opBt (dsOf os) fun ds => opBt (itrD .enum ds) fun l => ofO (bsD b l) s := by
  have h := @ol_e_bsI_enum
  exact h _ _ _ _
theorem ol_e_bsI_items (C : Cf) (b : Bs) (es : List E) (s : St) : ev C (.bs b (.itr .items es)) s = (evs C es s).bind fun os s => opB (dsOf os) fun ds => opB (itrD .items ds) fun l => ofO (bsD b l) s := by
  rw [ev]
  · congr 1; funext os s
    cases dsOf os with
    | none => rfl
    | some ds =>
      show ofO ((itrD .items ds).bind (bsD b)) s = opB (itrD .items ds) _
      cases itrD .items ds <;> rfl
  · intro a h; cases h
theorem l_e_bsI_items (C : Cf) (b : Bs) (es : List E) (s : St) : ev C (.bs b (.itr .items es)) s = (evs C es s).bnd fun os s => opBt (dsOf os) fun ds => opBt (itrD .items ds) fun l => ofO (bsD b l) s := by
  have h := @ol_e_bsI_items
  exact h _ _ _ _
theorem ol_e_bsI_combs (C : Cf) (b : Bs) (es : List E) (s : St) : ev C (.bs b (.itr .combs es)) s = (evs C es s).bind fun os s => opB (dsOf os) fun ds => opB (itrD .combs ds) fun l => ofO (bsD b l) s := by
  rw [ev]
  · congr 1; funext os s
    cases dsOf os with
    | none => rfl
    | some ds =>
      show ofO ((itrD .combs ds).bind (bsD b)) s = opB (itrD .combs ds) _
      cases itrD .combs ds <;> rfl
  · intro a h; cases h
theorem l_e_bsI_combs (C : Cf) (b : Bs) (es : List E) (s : St) : ev C (.bs b (.itr .combs es)) s = (evs C es s).bnd fun os s => opBt (dsOf os) fun ds => opBt (itrD .combs ds) fun l => ofO (bsD b l) s := by
  have h := @ol_e_bsI_combs
  exact h _ _ _ _
theorem ol_e_mt (C : Cf) (m : Mt) (a : E) (es : List E) (s : St) : ev C (.mt m a es) s = (bor a s (ev C a s)).bind fun x s => dB x fun d => cond (mtTy m d) ((evs C es s).bind fun os s => opB (dsOf os) fun ds => ofO (mtD m d ds) s) .no := by
  rw [ev]; congr 1; funext x s; unfold dB
  cases x.d? with
  | none => rfl
  | some d =>
    show (if mtTy m d = true then _ else _) = bif mtTy m d then _ else _
    cases mtTy m d with
    | false => rfl
    | true =>
      show R.bind _ _ = R.bind _ _
      congr 1; funext os s; cases dsOf os <;> rfl
theorem l_e_mt (C : Cf) (m : Mt) (a : E) (es : List E) (s : St) : ev C (.mt m a es) s = (bor a s (ev C a s)).bnd fun x s => dBt x fun d => condt (mtTy m d) ((evs C es s).bnd fun os s => opBt (dsOf os) fun ds => ofO (mtD m d ds) s) .no := by
  have h := @ol_e_mt
  exact h _ _ _ _ _
theorem ol_e_mu (C : Cf) (m : Mu) (p : Pl) (es : List E) (s : St) : ev C (.mu m p es) s = (bor (plE p) s .no).bind fun x s => cond (muTy m x) ((evs C es s).bind fun os s => opB (dsOf os) fun ds => opB (muD m (getPl p s) ds) fun ro => opB (setPl p ro.2 s) fun s => .ok ro.1 s) .no := by
  rw [ev]; congr 1; funext x s
  cases muTy m x with
  | false => rfl
  | true =>
    show R.bind _ _ = R.bind _ _
    congr 1; funext os s
    cases dsOf os with
    | none => rfl
    | some ds =>
      show (match muD m (getPl p s) ds with | some (r, o) => _ | none => _) = opB (muD m (getPl p s) ds) _
      cases muD m (getPl p s) ds with
      | none => rfl
      | some ro =>
        obtain ⟨r, o⟩ := ro
        show (match setPl p o s with | some s => _ | none => _) = opB (setPl p o s) _
        cases setPl p o s <;> rfl
theorem l_e_mu (C : Cf) (m : Mu) (p : Pl) (es : List E) (s : St) : ev C (.mu m p es) s = (bor (plE p) s .no).bnd fun x s => condt (muTy m x) ((evs C es s).bnd fun os s => opBt (dsOf os) fun ds => opBt (muD m (getPl p s) ds) fun ro => opBt (setPl p ro.2 s) fun s => .ok ro.1 s) .no := by
  have h := @ol_e_mu
  exact h _ _ _ _ _
theorem ol_e_mex (C : Cf) (m : Nat) (p : Pl) (es : List E) (s : St) : ev C (.mex m p es) s = (bor (plE p) s .no).bind fun x s => insB x fun c fs => opB (C.meth c m) fun f => (evs C es s).bind fun os s => mexR p c s (C.call f (.ins c fs :: os)) := by
  rw [ev]; congr 1; funext x s
  cases x <;> try rfl
  rename_i c fs
  show (match C.meth c m with | some f => _ | none => _) = opB (C.meth c m) _
  cases C.meth c m <;> rfl
theorem l_e_mex (C : Cf) (m : Nat) (p : Pl) (es : List E) (s : St) : ev C (.mex m p es) s = (bor (plE p) s .no).bnd fun x s => insBt x fun c fs => opBt (C.meth c m) fun f => (evs C es s).bnd fun os s => mexR p c s (C.call f (.ins c fs :: os)) := by
  have h := @ol_e_mex
  exact h _ _ _ _ _
theorem ol_e_cax (C : Cf) (f : Nat) (p : Pl) (es : List E) (s : St) : ev C (.cax f p es) s = (bor (plE p) s .no).bind fun _ s => (evs C es s).bind fun os s => caxR p s (C.call f (getPl p s :: os)) := by rw [ev]; rfl
theorem l_e_cax (C : Cf) (f : Nat) (p : Pl) (es : List E) (s : St) : ev C (.cax f p es) s = (bor (plE p) s .no).bnd fun _ s => (evs C es s).bnd fun os s => caxR p s (C.call f (getPl p s :: os)) := by
  have h := @ol_e_cax
  exact h _ _ _ _ _
theorem l_es_n (C : Cf) (s : St) : evs C [] s = .ok [] s := by rw [evs]
theorem ol_es_c (C : Cf) (e : E) (es : List E) (s : St) : evs C (e :: es) s = (ev C e s).bind fun o s => (evs C es s).bind fun os s => .ok (fz o :: os) s := by rw [evs]
theorem l_es_c (C : Cf) (e : E) (es : List E) (s : St) : evs C (e :: es) s = (ev C e s).bnd fun o s => (evs C es s).bnd fun os s => .ok (fz o :: os) s := by
  have h := @ol_es_c
  exact h _ _ _ _
theorem l_ew_n (C : Cf) (s : St) : evw C [] s = .ok [] s := by rw [evw]
theorem ol_ew_c (C : Cf) (e : E) (es : List E) (s : St) : evw C (e :: es) s = (ev C e s).bind fun o s => (evw C es s).bind fun os s => .ok (o :: os) s := by rw [evw]
theorem l_ew_c (C : Cf) (e : E) (es : List E) (s : St) : evw C (e :: es) s = (ev C e s).bnd fun o s => (evw C es s).bnd fun os s => .ok (o :: os) s := by
  have h := @ol_ew_c
  exact h _ _ _ _
theorem ol_ej_e (C : Cf) (a : E) (s : St) : evj C (.e a) s = (ev C a s).bind fun o s => dB (fz o) fun d => opB (seqD d) fun xs => .ok xs s := by
  rw [evj]; congr 1; funext o s; unfold dB
  cases (fz o).d? with
  | none => rfl
  | some d =>
    show (match seqD d with | some xs => _ | none => _) = opB (seqD d) _
    cases seqD d <;> rfl
theorem l_ej_e (C : Cf) (a : E) (s : St) : evj C (.e a) s = (ev C a s).bnd fun o s => dBt (fz o) fun d => opBt (seqD d) fun xs => .ok xs s := by
  have h := @ol_ej_e
  exact h _ _ _
theorem ol_ej_i (C : Cf) (k : Itk) (es : List E) (s : St) : evj C (.itr k es) s = (evs C es s).bind fun os s => opB (dsOf os) fun ds => opB (itrD k ds) fun xs => .ok xs s := by
  rw [evj]; congr 1; funext os s
  cases dsOf os with
  | none => rfl
  | some ds =>
    show (match itrD k ds with | some xs => _ | none => _) = opB (itrD k ds) _
    cases itrD k ds <;> rfl
theorem l_ej_i (C : Cf) (k : Itk) (es : List E) (s : St) : evj C (.itr k es) s = (evs C es s).bnd fun os s => opBt (dsOf os) fun ds => opBt (itrD k ds) fun xs => .ok xs s := by
  have h := @ol_ej_i
  exact h _ _ _ _
theorem ol_ei_e (C : Cf) (a : E) (s : St) : evi C (.e a) s = (bor a s (ev C a s)).bind fun o s => dB o fun d => opB (seqD d) fun xs => .ok xs s := by
  rw [evi]; congr 1; funext o s; unfold dB
  cases o.d? with
  | none => rfl
  | some d =>
    show (match seqD d with | some xs => _ | none => _) = opB (seqD d) _
    cases seqD d <;> rfl
theorem l_ei_e (C : Cf) (a : E) (s : St) : evi C (.e a) s = (bor a s (ev C a s)).bnd fun o s => dBt o fun d => opBt (seqD d) fun xs => .ok xs s := by
  have h := @ol_ei_e
  exact h _ _ _
theorem ol_ei_i (C : Cf) (k : Itk) (es : List E) (s : St) : evi C (.itr k es) s = (evs C es s).bind fun os s => opB (dsOf os) fun ds => opB (itrD k ds) fun xs => .ok xs s := by
  rw [evi]; congr 1; funext os s
  cases dsOf os with
  | none => rfl
  | some ds =>
    show (match itrD k ds with | some xs => _ | none => _) = opB (itrD k ds) _
    cases itrD k ds <;> rfl
theorem l_ei_i (C : Cf) (k : Itk) (es : List E) (s : St) : evi C (.itr k es) s = (evs C es s).bnd fun os s => opBt (dsOf os) fun ds => opBt (itrD k ds) fun xs => .ok xs s := by
  have h := @ol_ei_i
  exact h _ _ _ _
theorem l_seq_list (xs : List D) : seqD (.list xs) = some xs := (rfl)
theorem l_seq_tuple (xs : List D) : seqD (.tuple xs) = some xs := (rfl)
theorem l_ls_list_list (xs : List D) : lsB .list (.list xs) = some xs := (rfl)
theorem l_ls_list_tuple (xs : List D) : lsB .list (.tuple xs) = some xs := (rfl)
theorem l_ls_tuple_list (xs : List D) : lsB .tuple (.list xs) = some xs := (rfl)
theorem l_ls_tuple_tuple (xs : List D) : lsB .tuple (.tuple xs) = some xs := (rfl)
theorem l_ls_sorted_list (xs : List D) : lsB .sorted (.list xs) = some xs := (rfl)
theorem l_ls_sorted_tuple (xs : List D) : lsB .sorted (.tuple xs) = some xs := (rfl)
theorem l_ls_sum_list (xs : List D) : lsB .sum (.list xs) = some xs := (rfl)
theorem l_ls_sum_tuple (xs : List D) : lsB .sum (.tuple xs) = some xs := (rfl)
theorem l_ls_min_list (xs : List D) : lsB .min (.list xs) = some xs := (rfl)
theorem l_ls_min_tuple (xs : List D) : lsB .min (.tuple xs) = some xs := (rfl)
theorem l_ls_max_list (xs : List D) : lsB .max (.list xs) = some xs := (rfl)
theorem l_ls_max_tuple (xs : List D) : lsB .max (.tuple xs) = some xs := (rfl)
theorem l_ls_all_list (xs : List D) : lsB .all (.list xs) = some xs := (rfl)
theorem l_ls_all_tuple (xs : List D) : lsB .all (.tuple xs) = some xs := (rfl)
theorem l_ls_any_list (xs : List D) : lsB .any (.list xs) = some xs := (rfl)
theorem l_ls_any_tuple (xs : List D) : lsB .any (.tuple xs) = some xs := (rfl)
theorem l_ls_dict_list (xs : List D) : lsB .dict (.list xs) = some xs := (rfl)
theorem l_bs_list (xs : List D) : bsD .list xs = some (.lst xs) := (rfl)
theorem l_bs_tuple (xs : List D) : bsD .tuple xs = some (.dat (.tuple xs)) := (rfl)
theorem l_bs_sum (xs : List D) : bsD .sum xs = (numsOf xs).map fun ns => .dat (.int ns.sum) := (rfl)
theorem l_bs_all (xs : List D) : bsD .all xs = (boolsOf xs).map fun bs => .dat (.bool (bs.all id)) := (rfl)
theorem l_bs_any (xs : List D) : bsD .any xs = (boolsOf xs).map fun bs => .dat (.bool (bs.any id)) := (rfl)
theorem l_vals (kvs : List (D × D)) : valsD (.dict kvs) = some (kvs.map (·.2)) := (rfl)
theorem l_omap {α β : Type} (f : α → β) (a : α) : Option.map f (some a) = some (f a) := (rfl)
theorem l_omapn {α β : Type} (f : α → β) : Option.map f (none : Option α) = none := (rfl)
theorem l_mty_append (xs : List D) : muTy .append (.lst xs) = true := (rfl)
theorem l_mty_extend (xs : List D) : muTy .extend (.lst xs) = true := (rfl)
theorem l_mty_pop (xs : List D) : muTy .pop (.lst xs) = true := (rfl)
theorem l_mty_remove (xs : List D) : muTy .remove (.lst xs) = true := (rfl)
theorem l_mty_dpop (xs : List (D × D)) : muTy .dpop (.dct xs) = true := (rfl)
theorem l_mty_dpopD (xs : List (D × D)) : muTy .dpopD (.dct xs) = true := (rfl)
theorem l_mu_app (xs : List D) (y : D) : muD .append (.lst xs) [y] = if szOk (xs.length + 1) = true then some (.dat .none, .lst (xs ++ [y])) else none := (rfl)
theorem l_mu_ext (xs ys : List D) : muD .extend (.lst xs) [.list ys] = if szOk (xs.length + ys.length) = true then some (.dat .none, .lst (xs ++ ys)) else none := (rfl)
theorem l_mu_extT (xs ys : List D) : muD .extend (.lst xs) [.tuple ys] = if szOk (xs.length + ys.length) = true then some (.dat .none, .lst (xs ++ ys)) else none := (rfl)
theorem l_mtt_index_list (xs : List D) : mtTy .index (.list xs) = true := (rfl)
theorem l_mtt_count_list (xs : List D) : mtTy .count (.list xs) = true := (rfl)
theorem l_mtt_count_tuple (xs : List D) : mtTy .count (.tuple xs) = true := (rfl)
theorem l_mtt_get1_dict (xs : List (D × D)) : mtTy .get1 (.dict xs) = true := (rfl)
theorem l_mtt_get2_dict (xs : List (D × D)) : mtTy .get2 (.dict xs) = true := (rfl)
theorem l_mt_get1 (kvs : List (D × D)) (k : D) : mtD .get1 (.dict kvs) [k] = if kOk kvs k = true then some (.dat ((dget kvs k).getD .none)) else none := (rfl)
theorem l_mt_get2 (kvs : List (D × D)) (k x : D) : mtD .get2 (.dict kvs) [k, x] = if kOk kvs k = true then some (.dat ((dget kvs k).getD x)) else none := (rfl)
theorem ol_x_asg (C : Cf) (sub : Nat → Nat → Bool) (i : Nat) (e : E) (s : St) : exec C sub (.asg i e) s = (ev C e s).bind fun o s => putR i o s := by rw [exec]; rfl
theorem l_x_asg (C : Cf) (sub : Nat → Nat → Bool) (i : Nat) (e : E) (s : St) : exec C sub (.asg i e) s = (ev C e s).bnd fun o s => putR i o s := by
  have h := @ol_x_asg
  exact h _ _ _ _ _
theorem ol_x_own (C : Cf) (sub : Nat → Nat → Bool) (i : Nat) (e : E) (s : St) : exec C sub (.own i e) s = (ev C e s).bind fun o s => ownR i o s := by rw [exec]; rfl
theorem l_x_own (C : Cf) (sub : Nat → Nat → Bool) (i : Nat) (e : E) (s : St) : exec C sub (.own i e) s = (ev C e s).bnd fun o s => ownR i o s := by
  have h := @ol_x_own
  exact h _ _ _ _ _
theorem l_x_frz (C : Cf) (sub : Nat → Nat → Bool) (i : Nat) (s : St) : exec C sub (.frz i) s = .ok .nx (s.set i (fz (s.getD i .un))) := by rw [exec]
theorem ol_x_unp (C : Cf) (sub : Nat → Nat → Bool) (t : Tg) (e : E) (s : St) : exec C sub (.unp t e) s = (ev C e s).bind fun o s => dB (fz o) fun d => opB (tset t d s) fun s => .ok .nx s := by
  rw [exec]; congr 1; funext o s; unfold dB
  cases (fz o).d? with
  | none => rfl
  | some d =>
    show (match tset t d s with | some s => R.ok Fl.nx s | none => R.no) = opB (tset t d s) _
    cases tset t d s <;> rfl
theorem l_x_unp (C : Cf) (sub : Nat → Nat → Bool) (t : Tg) (e : E) (s : St) : exec C sub (.unp t e) s = (ev C e s).bnd fun o s => dBt (fz o) fun d => opBt (tset t d s) fun s => .ok .nx s := by
  have h := @ol_x_unp
  exact h _ _ _ _ _
def unpR (is : List Nat) (o : O) (s : St) : R Fl := match o with | .tpo os => if os.length = is.length then .ok .nx (setOs is os s) else .no | _ => .no
theorem ol_x_unpO (C : Cf) (sub : Nat → Nat → Bool) (is : List Nat) (e : E) (s : St) : exec C sub (.unpO is e) s = (ev C e s).bind (unpR is) := by rw [exec]; rfl
theorem l_x_unpO (C : Cf) (sub : Nat → Nat → Bool) (is : List Nat) (e : E) (s : St) : exec C sub (.unpO is e) s = (ev C e s).bnd (unpR is) := by
  have h := @ol_x_unpO
  exact h _ _ _ _ _
theorem l_unpR (is : List Nat) (os : List O) (s : St) : unpR is (.tpo os) s = if os.length = is.length then .ok .nx (setOs is os s) else .no := (rfl)
theorem l_so_n (os : List O) (s : St) : setOs [] os s = s := by rw [setOs]; intros; contradiction
theorem l_so_c (i : Nat) (is : List Nat) (o : O) (os : List O) (s : St) : setOs (i :: is) (o :: os) s = setOs is os (s.set i o) := by rw [setOs]
theorem ol_x_par (C : Cf) (sub : Nat → Nat → Bool) (ls : List Lh) (es : List E) (s : St) : exec C sub (.par ls es) s = (evw C es s).bind fun os s => lhss C ls os s := by rw [exec]
theorem l_x_par (C : Cf) (sub : Nat → Nat → Bool) (ls : List Lh) (es : List E) (s : St) : exec C sub (.par ls es) s = (evw C es s).bnd fun os s => lhss C ls os s := by
  have h := @ol_x_par
  exact h _ _ _ _ _
theorem l_lh_n (C : Cf) (s : St) : lhss C [] [] s = .ok .nx s := by rw [lhss]
theorem ol_lh_c (C : Cf) (l : Lh) (ls : List Lh) (o : O) (os : List O) (s : St) : lhss C (l :: ls) (o :: os) s = (lhs C l o s).bind fun _ s => lhss C ls os s := by rw [lhss]
theorem l_lh_c (C : Cf) (l : Lh) (ls : List Lh) (o : O) (os : List O) (s : St) : lhss C (l :: ls) (o :: os) s = (lhs C l o s).bnd fun _ s => lhss C ls os s := by
  have h := @ol_lh_c
  exact h _ _ _ _ _ _
theorem l_lh_a (C : Cf) (i : Nat) (o : O) (s : St) : lhs C (.a i) o s = putR i o s := by rw [lhs]; rfl
theorem l_lh_o (C : Cf) (i : Nat) (o : O) (s : St) : lhs C (.o i) o s = ownR i o s := by rw [lhs]; rfl
theorem l_lh_f (C : Cf) (i x : Nat) (o : O) (s : St) : lhs C (.f i x) o s = putFR C.fo i x o s := by rw [lhs]; rfl
theorem l_lh_fo (C : Cf) (i x : Nat) (o : O) (s : St) : lhs C (.fo i x) o s = ownFR C.fo i x o s := by rw [lhs]; rfl
def setR (p : Pl) (k v : D) (s : St) : R Fl := match setO p k v s with | some s => .ok .nx s | none => .no
theorem ol_x_setI (C : Cf) (sub : Nat → Nat → Bool) (p : Pl) (k e : E) (s : St) : exec C sub (.setI p k e) s = (ev C e s).bind fun o s => (bor (plE p) s .no).bind fun x s => cond (isC x) ((ev C k s).bind fun k s => dB (fz k) fun k => dB (fz o) fun v => setR p k v s) .no := by
  rw [exec]; congr 1; funext o s; congr 1; funext x s
  cases isC x with
  | false => rfl
  | true =>
    show R.bind _ _ = R.bind _ _
    congr 1; funext k s; unfold dB
    cases (fz k).d? <;> cases (fz o).d? <;> rfl
theorem l_x_setI (C : Cf) (sub : Nat → Nat → Bool) (p : Pl) (k e : E) (s : St) : exec C sub (.setI p k e) s = (ev C e s).bnd fun o s => (bor (plE p) s .no).bnd fun x s => condt (isC x) ((ev C k s).bnd fun k s => dBt (fz k) fun k => dBt (fz o) fun v => setR p k v s) .no := by
  have h := @ol_x_setI
  exact h _ _ _ _ _ _
theorem l_isC_l (xs : List D) : isC (.lst xs) = true := (rfl)
theorem l_isC_d (xs : List (D × D)) : isC (.dct xs) = true := (rfl)
def setRo (x : O) (p : Pl) (k v : D) (s : St) : R Fl := match x with
  | .lst xs => (match k with
    | .int i => opB ((ixN xs.length i).bind fun j => setPl p (.lst (xs.set j v)) s) fun s => .ok .nx s
    | _ => .no)
  | .dct kvs => opB ((dputO kvs k v).bind fun kvs => setPl p (.dct kvs) s) fun s => .ok .nx s
  | _ => .no
theorem opM (x : Option St) : (match x with | some s => R.ok Fl.nx s | none => R.no) = opB x fun s => .ok .nx s := by cases x <;> rfl
theorem l_setR (p : Pl) (k v : D) (s : St) : setR p k v s = setRo (getPl p s) p k v s := by
  unfold setR setRo setO
  cases getPl p s <;> try rfl
  · cases k <;> try rfl
    exact opM _
  · exact opM _
theorem ol_setRo_d (kvs : List (D × D)) (p : Pl) (k v : D) (s : St) : setRo (.dct kvs) p k v s = opB (dputO kvs k v) fun kvs => opB (setPl p (.dct kvs) s) fun s => .ok .nx s := by
  show opB ((dputO kvs k v).bind _) _ = _
  cases dputO kvs k v <;> rfl
theorem l_setRo_d (kvs : List (D × D)) (p : Pl) (k v : D) (s : St) : setRo (.dct kvs) p k v s = opBt (dputO kvs k v) fun kvs => opBt (setPl p (.dct kvs) s) fun s => .ok .nx s := by
  have h := @ol_setRo_d
  exact h _ _ _ _ _
theorem ol_setRo_l (xs : List D) (p : Pl) (i : Int) (v : D) (s : St) : setRo (.lst xs) p (.int i) v s = opB (ixN xs.length i) fun j => opB (setPl p (.lst (xs.set j v)) s) fun s => .ok .nx s := by
  show opB ((ixN xs.length i).bind _) _ = _
  cases ixN xs.length i <;> rfl
theorem l_setRo_l (xs : List D) (p : Pl) (i : Int) (v : D) (s : St) : setRo (.lst xs) p (.int i) v s = opBt (ixN xs.length i) fun j => opBt (setPl p (.lst (xs.set j v)) s) fun s => .ok .nx s := by
  have h := @ol_setRo_l
  exact h _ _ _ _ _
theorem ol_x_setF (C : Cf) (sub : Nat → Nat → Bool) (i x : Nat) (e : E) (s : St) : exec C sub (.setF i x e) s = (ev C e s).bind fun o s => putFR C.fo i x o s := by rw [exec]; rfl
theorem l_x_setF (C : Cf) (sub : Nat → Nat → Bool) (i x : Nat) (e : E) (s : St) : exec C sub (.setF i x e) s = (ev C e s).bnd fun o s => putFR C.fo i x o s := by
  have h := @ol_x_setF
  exact h _ _ _ _ _ _
theorem ol_x_ownF (C : Cf) (sub : Nat → Nat → Bool) (i x : Nat) (e : E) (s : St) : exec C sub (.ownF i x e) s = (ev C e s).bind fun o s => ownFR C.fo i x o s := by rw [exec]; rfl
theorem l_x_ownF (C : Cf) (sub : Nat → Nat → Bool) (i x : Nat) (e : E) (s : St) : exec C sub (.ownF i x e) s = (ev C e s).bnd fun o s => ownFR C.fo i x o s := by
  have h := @ol_x_ownF
  exact h _ _ _ _ _ _
theorem ifM (b : Bool) (s : St) : (match (if b = true then some s else none) with | some s => R.ok Fl.nx s | none => R.no) = if b = true then .ok .nx s else .no := by cases b <;> rfl
def fRo (fo : Nat → Nat → Bool) (v : O) (i x : Nat) (o : O) (s : St) : R Fl := match v with
  | .ins c fs => if (fo c x && decide (fs.length < 900)) = true then .ok .nx (s.set i (.ins c (aput fs x o))) else .no
  | _ => .no
theorem l_pF_dat (fo : Nat → Nat → Bool) (i x : Nat) (d : D) (s : St) : putFR fo i x (.dat d) s = fRo fo (s.getD i .un) i x (.dat d) s := by
  unfold putFR putF fRo; rw [l_fz_dat]
  cases s.getD i .un <;> try rfl
  rename_i c fs
  exact ifM _ _
theorem l_oF_dat (fo : Nat → Nat → Bool) (i x : Nat) (d : D) (s : St) : ownFR fo i x (.dat d) s = fRo fo (s.getD i .un) i x (.dat d) s := by
  unfold ownFR ownFd fRo
  cases s.getD i .un <;> try rfl
  exact ifM _ _
theorem l_pF_lst (fo : Nat → Nat → Bool) (i x : Nat) (d : List D) (s : St) : putFR fo i x (.lst d) s = fRo fo (s.getD i .un) i x (.dat (.list d)) s := by
  unfold putFR putF fRo; rw [l_fz_lst]
  cases s.getD i .un <;> try rfl
  rename_i c fs
  exact ifM _ _
theorem l_oF_lst (fo : Nat → Nat → Bool) (i x : Nat) (d : List D) (s : St) : ownFR fo i x (.lst d) s = fRo fo (s.getD i .un) i x (.lst d) s := by
  unfold ownFR ownFd fRo
  cases s.getD i .un <;> try rfl
  exact ifM _ _
theorem l_pF_dct (fo : Nat → Nat → Bool) (i x : Nat) (d : List (D × D)) (s : St) : putFR fo i x (.dct d) s = fRo fo (s.getD i .un) i x (.dat (.dict d)) s := by
  unfold putFR putF fRo; rw [l_fz_dct]
  cases s.getD i .un <;> try rfl
  rename_i c fs
  exact ifM _ _
theorem l_oF_dct (fo : Nat → Nat → Bool) (i x : Nat) (d : List (D × D)) (s : St) : ownFR fo i x (.dct d) s = fRo fo (s.getD i .un) i x (.dct d) s := by
  unfold ownFR ownFd fRo
  cases s.getD i .un <;> try rfl
  exact ifM _ _
theorem l_pF_fin (fo : Nat → Nat → Bool) (i x : Nat) (c : Nat) (fs : List (Nat × O)) (s : St) : putFR fo i x (.fin c fs) s = fRo fo (s.getD i .un) i x (.fin c fs) s := by
  unfold putFR putF fRo; rw [l_fz_fin]
  cases s.getD i .un <;> try rfl
  exact ifM _ _
theorem l_oF_fin (fo : Nat → Nat → Bool) (i x : Nat) (c : Nat) (fs : List (Nat × O)) (s : St) : ownFR fo i x (.fin c fs) s = fRo fo (s.getD i .un) i x (.fin c fs) s := by
  unfold ownFR ownFd fRo
  cases s.getD i .un <;> try rfl
  exact ifM _ _
theorem l_pF_tpo (fo : Nat → Nat → Bool) (i x : Nat) (xs : List O) (s : St) : putFR fo i x (.tpo xs) s = fRo fo (s.getD i .un) i x (.tpo xs) s := by
  unfold putFR putF fRo; rw [l_fz_tpo]
  cases s.getD i .un <;> try rfl
  rename_i c fs
  exact ifM _ _
theorem l_oF_tpo (fo : Nat → Nat → Bool) (i x : Nat) (xs : List O) (s : St) : ownFR fo i x (.tpo xs) s = fRo fo (s.getD i .un) i x (.tpo xs) s := by
  unfold ownFR ownFd fRo
  cases s.getD i .un <;> try rfl
  exact ifM _ _
theorem l_fRo (fo : Nat → Nat → Bool) (c : Nat) (fs : List (Nat × O)) (i x : Nat) (o : O) (s : St) : fRo fo (.ins c fs) i x o s = if (fo c x && decide (fs.length < 900)) = true then .ok .nx (s.set i (.ins c (aput fs x o))) else .no := (rfl)
def augR (i : Nat) (z : O) (s : St) : R Fl := match z with | .dat z => .ok .nx (s.set i (.dat z)) | _ => .no
theorem l_augR (i : Nat) (z : D) (s : St) : augR i (.dat z) s = .ok .nx (s.set i (.dat z)) := (rfl)
theorem ol_x_augV (C : Cf) (sub : Nat → Nat → Bool) (i : Nat) (o : Bop) (e : E) (s : St) : exec C sub (.augV i o e) s = (bor (.var i) s .no).bind fun x s => (ev C e s).bind fun y s => dB x fun d => dB (fz y) fun e => opB (augD o d e) fun z => augR i z s := by
  rw [exec]; congr 1; funext x s; congr 1; funext y s; unfold dB
  cases x.d? <;> cases (fz y).d? <;> try rfl
  rename_i d e
  show (match augD o d e with | some (.dat z) => _ | _ => _) = opB (augD o d e) _
  cases augD o d e with
  | none => rfl
  | some z => cases z <;> rfl
theorem l_x_augV (C : Cf) (sub : Nat → Nat → Bool) (i : Nat) (o : Bop) (e : E) (s : St) : exec C sub (.augV i o e) s = (bor (.var i) s .no).bnd fun x s => (ev C e s).bnd fun y s => dBt x fun d => dBt (fz y) fun e => opBt (augD o d e) fun z => augR i z s := by
  have h := @ol_x_augV
  exact h _ _ _ _ _ _
def augFR (fo : Nat → Nat → Bool) (i x : Nat) (z : O) (s : St) : R Fl := match z with | .dat z => putFR fo i x (.dat z) s | _ => .no
theorem l_augFR (fo : Nat → Nat → Bool) (i x : Nat) (z : D) (s : St) : augFR fo i x (.dat z) s = putFR fo i x (.dat z) s := (rfl)
theorem ol_x_augF (C : Cf) (sub : Nat → Nat → Bool) (i x : Nat) (o : Bop) (e : E) (s : St) : exec C sub (.augF i x o e) s = (bor (.fld (.var i) x) s .no).bind fun v s => (ev C e s).bind fun y s => dB v fun d => dB (fz y) fun e => opB (augD o d e) fun z => augFR C.fo i x z s := by
  rw [exec]; congr 1; funext v s; congr 1; funext y s; unfold dB
  cases v.d? <;> cases (fz y).d? <;> try rfl
  rename_i d e
  show (match augD o d e with | some (.dat z) => _ | _ => _) = opB (augD o d e) _
  cases augD o d e with
  | none => rfl
  | some z => cases z <;> rfl
theorem l_x_augF (C : Cf) (sub : Nat → Nat → Bool) (i x : Nat) (o : Bop) (e : E) (s : St) : exec C sub (.augF i x o e) s = (bor (.fld (.var i) x) s .no).bnd fun v s => (ev C e s).bnd fun y s => dBt v fun d => dBt (fz y) fun e => opBt (augD o d e) fun z => augFR C.fo i x z s := by
  have h := @ol_x_augF
  exact h _ _ _ _ _ _ _
def augIR (p : Pl) (k : D) (z : O) (s : St) : R Fl := match z with | .dat z => setR p k z s | _ => .no
theorem l_augIR (p : Pl) (k z : D) (s : St) : augIR p k (.dat z) s = setR p k z s := (rfl)
theorem ol_x_augI (C : Cf) (sub : Nat → Nat → Bool) (p : Pl) (o : Bop) (k e : E) (s : St) : exec C sub (.augI p o k e) s = (bor (plE p) s .no).bind fun x s => cond (isC x) ((ev C k s).bind fun k s => dB (fz k) fun k => opB (getO p k s) fun x => (ev C e s).bind fun y s => dB (fz y) fun e => opB (augD o x e) fun z => augIR p k z s) .no := by
  rw [exec]; congr 1; funext x s
  cases isC x with
  | false => rfl
  | true =>
    show R.bind _ _ = R.bind _ _
    congr 1; funext k s; unfold dB
    cases (fz k).d? with
    | none => rfl
    | some k =>
      show (match getO p k s, some k with | some x, some k => _ | _, _ => _) = opB (getO p k s) _
      cases getO p k s with
      | none => rfl
      | some x =>
        show R.bind _ _ = R.bind _ _
        congr 1; funext y s
        cases (fz y).d? with
        | none => rfl
        | some e =>
          show (match augD o x e with | some (.dat z) => _ | _ => _) = opB (augD o x e) _
          cases augD o x e with
          | none => rfl
          | some z => cases z <;> rfl
theorem l_x_augI (C : Cf) (sub : Nat → Nat → Bool) (p : Pl) (o : Bop) (k e : E) (s : St) : exec C sub (.augI p o k e) s = (bor (plE p) s .no).bnd fun x s => condt (isC x) ((ev C k s).bnd fun k s => dBt (fz k) fun k => opBt (getO p k s) fun x => (ev C e s).bnd fun y s => dBt (fz y) fun e => opBt (augD o x e) fun z => augIR p k z s) .no := by
  have h := @ol_x_augI
  exact h _ _ _ _ _ _ _
theorem ol_x_ex (C : Cf) (sub : Nat → Nat → Bool) (e : E) (s : St) : exec C sub (.ex e) s = (ev C e s).bind fun _ s => .ok .nx s := by rw [exec]
theorem l_x_ex (C : Cf) (sub : Nat → Nat → Bool) (e : E) (s : St) : exec C sub (.ex e) s = (ev C e s).bnd fun _ s => .ok .nx s := by
  have h := @ol_x_ex
  exact h _ _ _ _
theorem ol_x_ret (C : Cf) (sub : Nat → Nat → Bool) (e : E) (s : St) : exec C sub (.ret e) s = (ev C e s).bind fun o s => .ok (.ret o) s := by rw [exec]
theorem l_x_ret (C : Cf) (sub : Nat → Nat → Bool) (e : E) (s : St) : exec C sub (.ret e) s = (ev C e s).bnd fun o s => .ok (.ret o) s := by
  have h := @ol_x_ret
  exact h _ _ _ _
def retR (i : Nat) (o : O) (s : St) : R Fl := match o with | .un => .no | o => .ok (.ret o) (s.set i .un)
theorem l_x_retM (C : Cf) (sub : Nat → Nat → Bool) (i : Nat) (s : St) : exec C sub (.retM i) s = retR i (s.getD i .un) s := by rw [exec]; rfl
theorem l_rM_dat (i : Nat) (d : D) (s : St) : retR i (.dat d) s = .ok (.ret (.dat d)) (s.set i .un) := (rfl)
theorem l_rM_lst (i : Nat) (xs : List D) (s : St) : retR i (.lst xs) s = .ok (.ret (.lst xs)) (s.set i .un) := (rfl)
theorem l_rM_dct (i : Nat) (xs : List (D × D)) (s : St) : retR i (.dct xs) s = .ok (.ret (.dct xs)) (s.set i .un) := (rfl)
theorem l_rM_ins (i : Nat) (c : Nat) (fs : List (Nat × O)) (s : St) : retR i (.ins c fs) s = .ok (.ret (.ins c fs)) (s.set i .un) := (rfl)
theorem l_rM_fin (i : Nat) (c : Nat) (fs : List (Nat × O)) (s : St) : retR i (.fin c fs) s = .ok (.ret (.fin c fs)) (s.set i .un) := (rfl)
theorem l_x_retN (C : Cf) (sub : Nat → Nat → Bool) (s : St) : exec C sub (.retN) s = .ok (.ret (.dat .none)) s := by rw [exec]
theorem ol_x_ite (C : Cf) (sub : Nat → Nat → Bool) (c : E) (a b : List S) (s : St) : exec C sub (.ite c a b) s = (ev C c s).bind fun x s => teB x (execs C sub a s) (execs C sub b s) := by rw [exec]; rfl
theorem l_x_ite (C : Cf) (sub : Nat → Nat → Bool) (c : E) (a b : List S) (s : St) : exec C sub (.ite c a b) s = (ev C c s).bnd fun x s => teBt x (execs C sub a s) (execs C sub b s) := by
  have h := @ol_x_ite
  exact h _ _ _ _ _ _
theorem l_x_whl (C : Cf) (sub : Nat → Nat → Bool) (c : E) (b : List S) (s : St) : exec C sub (.whl c b) s = whlN C sub c b C.wf s := by rw [exec]; rfl
theorem ol_x_for (C : Cf) (sub : Nat → Nat → Bool) (t : Tg) (a : Src) (b : List S) (s : St) : exec C sub (.forr t a b) s = (evj C a s).bind fun xs s => forX C sub t b xs s := by rw [exec]; rfl
theorem l_x_for (C : Cf) (sub : Nat → Nat → Bool) (t : Tg) (a : Src) (b : List S) (s : St) : exec C sub (.forr t a b) s = (evj C a s).bnd fun xs s => forX C sub t b xs s := by
  have h := @ol_x_for
  exact h _ _ _ _ _ _
theorem l_x_brk (C : Cf) (sub : Nat → Nat → Bool) (s : St) : exec C sub (.brk) s = .ok .brk s := by rw [exec]
theorem l_x_cnt (C : Cf) (sub : Nat → Nat → Bool) (s : St) : exec C sub (.cnt) s = .ok .cnt s := by rw [exec]
theorem l_x_pass (C : Cf) (sub : Nat → Nat → Bool) (s : St) : exec C sub (.pass) s = .ok .nx s := by rw [exec]
theorem l_x_rai (C : Cf) (sub : Nat → Nat → Bool) (c : Nat) (t : Str) (s : St) : exec C sub (.rai c [.str t]) s = .exc c [] s := by rw [exec]
theorem ol_x_tri (C : Cf) (sub : Nat → Nat → Bool) (b : List S) (hs : List (List Nat × Option Nat × List S)) (s : St) : exec C sub (.tri b hs) s = triR (execs C sub b s) fun c p s => handle C sub hs c p s := by rw [exec]; rfl
theorem l_x_tri (C : Cf) (sub : Nat → Nat → Bool) (b : List S) (hs : List (List Nat × Option Nat × List S)) (s : St) : exec C sub (.tri b hs) s = triRt (execs C sub b s) fun c p s => handle C sub hs c p s := by
  have h := @ol_x_tri
  exact h _ _ _ _ _
theorem l_xs_n (C : Cf) (sub : Nat → Nat → Bool) (s : St) : execs C sub [] s = .ok .nx s := by rw [execs]
theorem ol_xs_c (C : Cf) (sub : Nat → Nat → Bool) (a : S) (r : List S) (s : St) : execs C sub (a :: r) s = sq (exec C sub a s) fun s => execs C sub r s := by
  rw [execs]; unfold sq
  split <;> simp_all
theorem l_xs_c (C : Cf) (sub : Nat → Nat → Bool) (a : S) (r : List S) (s : St) : execs C sub (a :: r) s = sqt (exec C sub a s) fun s => execs C sub r s := by
  have h := @ol_xs_c
  exact h _ _ _ _ _
theorem l_fin_ret (np : Nat) (o : O) (s : St) : finish np (.ok (.ret o) s) = .ok o (s.take np) := (rfl)
theorem l_fin_nx (np : Nat) (s : St) : finish np (.ok .nx s) = .ok (.dat .none) (s.take np) := (rfl)
theorem l_fin_exc (np c : Nat) (p : List (Nat × D)) (s : St) : finish np (.exc c p s) = .exc c p (s.take np) := (rfl)
theorem l_newR (c : Nat) (fs : List (Nat × O)) (r : List O) (s : St) : newR (.ok (.dat .none) (.ins c fs :: r)) s = .ok (.ins c fs) s := (rfl)
theorem l_newRe (c : Nat) (p : List (Nat × D)) (o : List O) (s : St) : newR (.exc c p o) s = .exc c p s := (rfl)
theorem ol_mexR (p : Pl) (c : Nat) (s : St) (r : O) (fs : List (Nat × O)) (t : List O) : mexR p c s (.ok r (.ins c fs :: t)) = opB (setPl p (.ins c fs) s) fun s => .ok r s := by
  show (if c = c then _ else _) = _
  rw [if_pos rfl]
  cases setPl p (.ins c fs) s <;> rfl
theorem l_mexR (p : Pl) (c : Nat) (s : St) (r : O) (fs : List (Nat × O)) (t : List O) : mexR p c s (.ok r (.ins c fs :: t)) = opBt (setPl p (.ins c fs) s) fun s => .ok r s := by
  have h := @ol_mexR
  exact h _ _ _ _ _ _
theorem ol_caxR (p : Pl) (s : St) (r o : O) (t : List O) : caxR p s (.ok r (o :: t)) = opB (setPl p o s) fun s => .ok r s := by
  show (match setPl p o s with | some s => _ | none => _) = _
  cases setPl p o s <;> rfl
theorem l_caxR (p : Pl) (s : St) (r o : O) (t : List O) : caxR p s (.ok r (o :: t)) = opBt (setPl p o s) fun s => .ok r s := by
  have h := @ol_caxR
  exact h _ _ _ _ _
theorem l_cf_call (P : Pg) (n : Nat) : (cfOf P n).call = callF P n := (rfl)
theorem l_cf_wf (P : Pg) (n : Nat) : (cfOf P n).wf = P.wf := (rfl)
theorem l_ts_v (i : Nat) (d : D) (s : St) : tset (.v i) d s = some (s.set i (.dat d)) := by rw [tset]
theorem l_ts_t (ts : List Tg) (ds : List D) (s : St) : tset (.t ts) (.tuple ds) s = tsets ts ds s := by rw [tset]
theorem l_tss_n (s : St) : tsets [] [] s = some s := by rw [tsets]
theorem l_tss_c (t : Tg) (ts : List Tg) (d : D) (ds : List D) (s : St) : tsets (t :: ts) (d :: ds) s = Option.bind (tset t d s) fun s => tsets ts ds s := by rw [tsets]
theorem l_obind {α β : Type} (a : α) (f : α → Option β) : Option.bind (some a) f = f a := (rfl)
theorem ol_rngS (t : Tg) (f : St → R Fl) (x : D) (s : St) : rngS t f x s = opB (tset t x s) f := by unfold rngS; cases tset t x s <;> rfl
theorem l_rngS (t : Tg) (f : St → R Fl) (x : D) (s : St) : rngS t f x s = opBt (tset t x s) f := by
  have h := @ol_rngS
  exact h _ _ _ _
/-- a turn of a loop and what follows -/
def turnR (x : R Fl) (k : St → R Fl) : R Fl := match x with
  | .ok .nx s => k s
  | .ok .cnt s => k s
  | .ok .brk s => .ok .nx s
  | .ok (.ret o) s => .ok (.ret o) s
  | .exc c p s => .exc c p s
  | .no => .no
def turnRt (x : R Fl) (k : St → R Fl) (_ : Tag k := ⟨⟩) : R Fl := turnR x k
theorem ol_tu_nx (s : St) (k : St → R Fl) : turnR (.ok .nx s) k = k s := (rfl)
theorem l_tu_nx (s : St) (k : St → R Fl) : turnRt (.ok .nx s) k = k s := by
  have h := @ol_tu_nx
  exact h _ _
theorem ol_tu_cnt (s : St) (k : St → R Fl) : turnR (.ok .cnt s) k = k s := (rfl)
theorem l_tu_cnt (s : St) (k : St → R Fl) : turnRt (.ok .cnt s) k = k s := by
  have h := @ol_tu_cnt
  exact h _ _
theorem ol_tu_brk (s : St) (k : St → R Fl) : turnR (.ok .brk s) k = .ok .nx s := (rfl)
theorem l_tu_brk (s : St) (k : St → R Fl) : turnRt (.ok .brk s) k = .ok .nx s := by
  have h := @ol_tu_brk
  exact h _ _
theorem ol_tu_ret (o : O) (s : St) (k : St → R Fl) : turnR (.ok (.ret o) s) k = .ok (.ret o) s := (rfl)
theorem l_tu_ret (o : O) (s : St) (k : St → R Fl) : turnRt (.ok (.ret o) s) k = .ok (.ret o) s := by
  have h := @ol_tu_ret
  exact h _ _ _
theorem ol_tu_exc (c : Nat) (p : List (Nat × D)) (s : St) (k : St → R Fl) : turnR (.exc c p s) k = .exc c p s := (rfl)
theorem l_tu_exc (c : Nat) (p : List (Nat × D)) (s : St) (k : St → R Fl) : turnRt (.exc c p s) k = .exc c p s := by
  have h := @ol_tu_exc
  exact h _ _ _ _
theorem for_n (C : Cf) (sub : Nat → Nat → Bool) (t : Tg) (b : List S) (s : St) : forX C sub t b [] s = .ok .nx s := (rfl)
theorem ofor_c (C : Cf) (sub : Nat → Nat → Bool) (t : Tg) (b : List S) (x : D) (xs : List D) (s : St) : forX C sub t b (x :: xs) s = turnR (rngS t (execs C sub b) x s) (forX C sub t b xs) := by
  show forGo _ _ _ = _
  rw [forGo]; rfl
theorem owhl_c (C : Cf) (sub : Nat → Nat → Bool) (c : E) (b : List S) (n : Nat) (s : St) : whlN C sub c b (n + 1) s = (ev C c s).bind fun x s => teB x (turnR (execs C sub b s) (whlN C sub c b n)) (.ok .nx s) := by
  unfold whlN
  rw [whlGo]
  cases ev C c s with
  | ok x s =>
    show _ = teB x _ _
    cases x <;> try rfl
    rename_i d
    cases d <;> try rfl
    rename_i t
    cases t <;> rfl
  | exc _ _ _ => rfl
  | no => rfl
theorem for_c (C : Cf) (sub : Nat → Nat → Bool) (t : Tg) (b : List S) (x : D) (xs : List D) (s : St) : forX C sub t b (x :: xs) s = turnRt (rngS t (execs C sub b) x s) (forX C sub t b xs) := ofor_c C sub t b x xs s
theorem whl_c (C : Cf) (sub : Nat → Nat → Bool) (c : E) (b : List S) (n : Nat) (s : St) : whlN C sub c b (n + 1) s = (ev C c s).bnd fun x s => teBt x (turnRt (execs C sub b s) (whlN C sub c b n)) (.ok .nx s) := owhl_c C sub c b n s
end Lw

set_option autoImplicit false
set_option linter.all false
set_option Elab.async false
set_option maxRecDepth 100000
set_option maxHeartbeats 1000000
/-! LMore: plain facts for the walk of bodies. -/
namespace Lw
open PySem
theorem szK {n : Nat} (h : n ≤ 16000000) : szOk n = true := by
  unfold szOk; rw [sizeLine_eq]; exact decide_eq_true (by omega)
theorem dcT {p : Prop} [Decidable p] (h : p) : decide p = true := decide_eq_true h
theorem dcF {p : Prop} [Decidable p] (h : ¬p) : decide p = false := decide_eq_false h
theorem smallK {i : Int} (h : -16000000 ≤ i) (h2 : i ≤ 16000000) : small i = true := by
  unfold small; rw [Bool.and_eq_true]; exact ⟨decide_eq_true (by omega), decide_eq_true (by omega)⟩
theorem rng1 (n : Nat) (h : n ≤ 16000000) : itrD .range1 [.int n] = some (rangeD 0 1 n) := by
  have e1 : small (n : Int) = true := smallK (by omega) (by omega)
  have e2 : szOk (n : Int).toNat = true := by rw [Int.toNat_natCast]; exact szK h
  show (if (small (n : Int) && szOk (n : Int).toNat) = true then some (rangeD 0 1 (n : Int).toNat) else none) = _
  rw [e1, e2, Int.toNat_natCast]; rfl
theorem rng2 (a b : Nat) (h : b ≤ 16000000) (h2 : a ≤ 16000000) : itrD .range2 [.int a, .int b] = some (rangeD a 1 (b - a)) := by
  have e0 : ((b : Int) - a).toNat = b - a := by omega
  have e1 : small (b : Int) = true := smallK (by omega) (by omega)
  have e2 : small (a : Int) = true := smallK (by omega) (by omega)
  have e3 : szOk (b - a) = true := szK (by omega)
  show (if (small (a : Int) && small (b : Int) && szOk ((b : Int) - a).toNat) = true then some (rangeD a 1 ((b : Int) - a).toNat) else none) = _
  rw [e0, e1, e2, e3]; rfl
/-- from n - 1 down to 0 -/
theorem rng3 (n : Nat) (h : n ≤ 16000000) : itrD .range3 [.int ((n : Int) - 1), .int (-1), .int (-1)] = some (rangeD ((n : Int) - 1) (-1) n) := by
  have e0 : (((n : Int) - 1) - (-1)).toNat = n := by omega
  have e1 : small ((n : Int) - 1) = true := smallK (by omega) (by omega)
  have e2 : small (-1 : Int) = true := by decide
  have e3 : szOk n = true := szK (by omega)
  show (if (small ((n : Int) - 1) && small (-1) && szOk (((n : Int) - 1) - (-1)).toNat) = true then some (rangeD ((n : Int) - 1) (-1) (((n : Int) - 1) - (-1)).toNat) else none) = _
  rw [e0, e1, e2, e3]; rfl
theorem rangeD_s (lo step : Int) (n : Nat) : rangeD lo step (n + 1) = .int lo :: rangeD (lo + step) step n := rfl
theorem rangeD_z (lo step : Int) : rangeD lo step 0 = [] := rfl
/-- ints as data -/
abbrev nD (n : Nat) : D := .int (n : Int)
theorem ix_tup {α : Type} (f : α → D) (l : List α) (k : Nat) (h : k < l.length) : idxD (.tuple (l.map f)) (.int (k : Int)) = some (f l[k]) := by
  show (ixN (l.map f).length (k : Int)).bind (fun j => (l.map f)[j]?) = _
  rw [ixN_nat _ _ (by rw [List.length_map]; exact h)]
  show (l.map f)[k]? = _
  rw [List.getElem?_map, List.getElem?_eq_getElem h]
  rfl
theorem ix_last (l : List D) (x : D) : idxD (.tuple (l ++ [x])) (.int (-1)) = some x := by
  show (ixN (l ++ [x]).length (-1)).bind (fun j => (l ++ [x])[j]?) = _
  have e : ixN (l ++ [x]).length (-1) = some l.length := by
    show L2.ixN _ _ = _
    unfold L2.ixN
    rw [List.length_append, List.length_singleton]
    rw [if_neg (by omega), if_pos (by omega)]
    congr 1
    omega
  rw [e]
  show (l ++ [x])[l.length]? = _
  simp
end Lw

set_option autoImplicit false
set_option linter.all false
set_option Elab.async false
set_option maxRecDepth 100000
set_option maxHeartbeats 1000000
/-! LMore2: dicts with natural numbers as keys. -/
namespace Lw
open PySem
theorem eqv_nD (a b : Nat) : PyData.eqv (nD a) (nD b) = decide (a = b) := by
  have : PyData.eqv (.int a) (.int b) = decide ((a : Int) = b) := by simp [PyData.eqv, BEq.beq]
  rw [this]; exact decide_eq_decide.mpr (by omega)
def nlook (l : List (Nat × D)) (k : Nat) : Option D := match l with
  | [] => none
  | (a, v) :: r => if a = k then some v else nlook r k
def nput (l : List (Nat × D)) (k : Nat) (v : D) : List (Nat × D) := match l with
  | [] => [(k, v)]
  | (a, u) :: r => if a = k then (a, v) :: r else (a, u) :: nput r k v
def ndict (l : List (Nat × D)) : List (D × D) := l.map fun p => (nD p.1, p.2)
def nkeys (l : List (Nat × D)) : List Nat := l.map (·.1)
theorem dget_n (l : List (Nat × D)) (k : Nat) : dget (ndict l) (nD k) = nlook l k := by
  induction l with
  | nil => rfl
  | cons p r ih =>
    obtain ⟨a, v⟩ := p
    rw [nlook, ← ih]
    unfold dget ndict
    rw [List.map_cons, List.find?_cons]
    show Option.map _ (match PyData.eqv (nD a) (nD k) with | true => _ | false => _) = _
    rw [eqv_nD]
    by_cases h : a = k
    · rw [decide_eq_true h, if_pos h]; rfl
    · rw [decide_eq_false h, if_neg h]
theorem nlook_some {l : List (Nat × D)} {k : Nat} : (nlook l k).isSome = decide (k ∈ nkeys l) := by
  induction l with
  | nil => rfl
  | cons p r ih =>
    obtain ⟨a, v⟩ := p
    rw [nlook]
    by_cases h : a = k
    · subst h; rw [if_pos rfl]; exact (decide_eq_true (by simp [nkeys])).symm
    · rw [if_neg h, ih]
      refine decide_eq_decide.mpr ?_
      simp only [nkeys, List.map_cons, List.mem_cons]
      constructor
      · exact .inr
      · rintro (e | e)
        · exact absurd e.symm h
        · exact e
theorem dhas_n (l : List (Nat × D)) (k : Nat) : dhas (ndict l) (nD k) = decide (k ∈ nkeys l) := by
  unfold dhas; rw [dget_n, nlook_some]
theorem map_same {l : List (Nat × D)} {k : Nat} {v : D} (h : k ∉ nkeys l) : (ndict l).map (fun p => if PyData.eqv p.1 (nD k) = true then (p.1, v) else p) = ndict l := by
  induction l with
  | nil => rfl
  | cons p r ih =>
    obtain ⟨a, u⟩ := p
    simp only [nkeys, List.map_cons, List.mem_cons, not_or] at h
    have e : PyData.eqv (nD a) (nD k) = false := by rw [eqv_nD]; exact decide_eq_false fun q => h.1 q.symm
    show (if PyData.eqv (nD a) (nD k) = true then _ else _) :: _ = _
    rw [e, if_neg Bool.false_ne_true]
    exact congrArg ((nD a, u) :: ·) (ih h.2)
theorem nput_new {l : List (Nat × D)} {k : Nat} {v : D} (h : k ∉ nkeys l) : nput l k v = l ++ [(k, v)] := by
  induction l with
  | nil => rfl
  | cons p r ih =>
    obtain ⟨a, u⟩ := p
    simp only [nkeys, List.map_cons, List.mem_cons, not_or] at h
    rw [nput, if_neg fun q => h.1 q.symm, ih h.2]; rfl
/-- each key once -/
theorem dput_n {l : List (Nat × D)} (hn : (nkeys l).Nodup) (k : Nat) (v : D) : dput (ndict l) (nD k) v = ndict (nput l k v) := by
  unfold dput
  rw [dhas_n]
  by_cases h : k ∈ nkeys l
  · rw [decide_eq_true h, if_pos rfl]
    induction l with
    | nil => cases h
    | cons p r ih =>
      obtain ⟨a, u⟩ := p
      simp only [nkeys, List.map_cons, List.nodup_cons] at hn
      show (if PyData.eqv (nD a) (nD k) = true then _ else _) :: _ = _
      rw [eqv_nD, nput]
      by_cases e : a = k
      · subst e
        rw [decide_eq_true rfl, if_pos rfl, if_pos rfl]
        exact congrArg ((nD a, v) :: ·) (map_same hn.1)
      · rw [decide_eq_false e, if_neg Bool.false_ne_true, if_neg e]
        refine congrArg ((nD a, u) :: ·) (ih hn.2 ?_)
        simp only [nkeys, List.map_cons, List.mem_cons] at h
        rcases h with h | h
        · exact absurd h.symm e
        · exact h
  · rw [decide_eq_false h, if_neg Bool.false_ne_true, nput_new h]
    unfold ndict; rw [List.map_append]; rfl
theorem dout_n (l : List (Nat × D)) (k : Nat) : dout (ndict l) (nD k) = ndict (l.filter fun p => !decide (p.1 = k)) := by
  unfold dout ndict
  rw [List.filter_map]
  congr 1
  refine List.filter_congr fun p _ => ?_
  show (!PyData.eqv (nD p.1) (nD k)) = _
  rw [eqv_nD]
theorem kOk_n (l : List (Nat × D)) (k : Nat) : kOk (ndict l) (nD k) = true := by
  have h1 : topKey (nD k) = true := rfl
  have h2 : (nD k).depth ≤ 8 := by show PyData.depth (.int _) ≤ 8; rw [PyData.depth]; omega
  unfold kOk
  rw [h1, decide_eq_true h2]
  cases l with
  | nil => rfl
  | cons p r => rfl
theorem dputO_n {l : List (Nat × D)} (hn : (nkeys l).Nodup) (k : Nat) (v : D) (hl : l.length + 1 ≤ 16000000) : dputO (ndict l) (nD k) v = some (ndict (nput l k v)) := by
  unfold dputO
  have e : (ndict l).length = l.length := by unfold ndict; rw [List.length_map]
  rw [kOk_n, e, szK hl, dput_n hn]; rfl
theorem nkeys_put {l : List (Nat × D)} {k : Nat} {v : D} : nkeys (nput l k v) = if k ∈ nkeys l then nkeys l else nkeys l ++ [k] := by
  by_cases h : k ∈ nkeys l
  · rw [if_pos h]
    induction l with
    | nil => cases h
    | cons p r ih =>
      obtain ⟨a, u⟩ := p
      rw [nput]
      by_cases e : a = k
      · rw [if_pos e]; rfl
      · rw [if_neg e]
        refine congrArg (a :: ·) (ih ?_)
        simp only [nkeys, List.map_cons, List.mem_cons] at h
        rcases h with h | h
        · exact absurd h.symm e
        · exact h
  · rw [if_neg h, nput_new h]; unfold nkeys; rw [List.map_append]; rfl
theorem nodup_put {l : List (Nat × D)} {k : Nat} {v : D} (h : (nkeys l).Nodup) : (nkeys (nput l k v)).Nodup := by
  rw [nkeys_put]
  split
  · exact h
  · rename_i q
    rw [List.nodup_append]
    exact ⟨h, by simp, fun a ha b hb => by simp at hb; subst hb; exact fun e => q (e ▸ ha)⟩
theorem nodup_out {l : List (Nat × D)} (h : (nkeys l).Nodup) (f : Nat × D → Bool) : (nkeys (l.filter f)).Nodup := by
  unfold nkeys at *
  exact h.sublist (List.filter_sublist.map _)
theorem ndict_len (l : List (Nat × D)) : (ndict l).length = l.length := by unfold ndict; rw [List.length_map]
theorem nlook_put {l : List (Nat × D)} {k j : Nat} {v : D} : nlook (nput l k v) j = if j = k then some v else nlook l j := by
  induction l with
  | nil =>
    rw [nput, nlook, nlook]
    by_cases h : k = j
    · rw [if_pos h, if_pos h.symm]
    · rw [if_neg h, if_neg fun e => h e.symm]; rfl
  | cons p r ih =>
    obtain ⟨a, u⟩ := p
    rw [nput]
    by_cases e : a = k
    · subst e
      rw [if_pos rfl, nlook, nlook]
      by_cases h : a = j
      · rw [if_pos h, if_pos h.symm]
      · rw [if_neg h, if_neg fun e => h e.symm, if_neg h]
    · rw [if_neg e, nlook, nlook, ih]
      by_cases h : a = j
      · rw [if_pos h, if_pos h, if_neg fun q => e (h.trans q)]
      · rw [if_neg h, if_neg h]
end Lw

set_option autoImplicit false
set_option linter.all false
set_option Elab.async false
set_option maxRecDepth 100000
set_option maxHeartbeats 1000000
/-! LMore3: comprehensions; lists of natural numbers. -/
namespace Lw
open PySem
section
variable {C : Cf}
theorem lciGo_n {α : Type} (f : D → Option (Option D)) (fx : α → D) (p : α → Bool) (g : α → D) : ∀ l : List α, (∀ x ∈ l, f (fx x) = some (bif p x then some (g x) else none)) → lciGo f (l.map fx) = some ((l.filter p).map g)
  | [], _ => rfl
  | x :: l, h => by
    rw [List.map_cons, lciGo, h x (.head _), lciGo_n f fx p g l fun y hy => h y (.tail _ hy), List.filter_cons]
    cases p x <;> rfl
theorem ev_lci_n {α : Type} {t : Tg} {a : Src} {c e : E} {s : St} (fx : α → D) (l : List α) (p : α → Bool) (g : α → D) (st : α → St) (ha : evi C a s = .ok (l.map fx) s) (hc : cOk t (l.map fx) s = true)
    (ht : ∀ x ∈ l, tset t (fx x) (wipeO (tgS t) s) = some (st x)) (hp : ∀ x ∈ l, ∃ s', ev C c (st x) = .ok (.dat (.bool (p x))) s') (hg : ∀ x ∈ l, p x = true → ∃ o s', ev C e (st x) = .ok o s' ∧ (fz o).d? = some (g x)) : ev C (.lci t a c e) s = .ok (.lst ((l.filter p).map g)) s := by
  rw [ev, ha]
  show (if cOk t (l.map fx) s = true then _ else _) = _
  rw [hc, if_pos rfl, lciGo_n (fx := fx) (p := p) (g := g)]
  · rfl
  · intro x hx
    obtain ⟨s', e1⟩ := hp x hx
    show ((tset t (fx x) (wipeO (tgS t) s)).bind _) = _
    rw [ht x hx]
    show (match oB (ev C c (st x)).val with | some true => (oD (ev C e (st x)).val).map some | some false => some none | none => none) = _
    rw [e1]
    cases hpx : p x with
    | false => rfl
    | true =>
      obtain ⟨o, s2, e2, e3⟩ := hg x hx hpx
      rw [e2]
      show (oD (some o)).map some = _
      unfold oD
      show ((fz o).d?).map some = _
      rw [e3]; rfl
theorem ev_lc_n {α : Type} {t : Tg} {a : Src} {e : E} {s : St} (fx : α → D) (l : List α) (g : α → D) (st : α → St) (ha : evi C a s = .ok (l.map fx) s) (hc : cOk t (l.map fx) s = true)
    (ht : ∀ x ∈ l, tset t (fx x) (wipeO (tgS t) s) = some (st x)) (hg : ∀ x ∈ l, ∃ o s', ev C e (st x) = .ok o s' ∧ (fz o).d? = some (g x)) : ev C (.lc t a e) s = .ok (.lst (l.map g)) s := by
  rw [ev, ha]
  show (if cOk t (l.map fx) s = true then _ else _) = _
  rw [hc, if_pos rfl, lciGo_n (fx := fx) (p := fun _ => true) (g := g)]
  · rw [List.filter_eq_self.mpr fun _ _ => rfl]; rfl
  · intro x hx
    obtain ⟨o, s2, e2, e3⟩ := hg x hx
    show ((tset t (fx x) (wipeO (tgS t) s)).bind _) = _
    rw [ht x hx]
    show (oD (ev C e (st x)).val).map some = _
    rw [e2]
    show (oD (some o)).map some = _
    unfold oD
    show ((fz o).d?).map some = _
    rw [e3]; rfl
end
theorem o_mod {i j : Int} (h : 0 < j) : bopD .mod (.int i) (.int j) = some (.dat (.int (i % j))) := by rw [l_o_mod, if_pos h]
theorem o_fdiv {i j : Int} (h : 0 < j ∧ j < 1073741824) : bopD .fdiv (.int i) (.int j) = some (.dat (.int (i / j))) := by
  rw [l_o_fdiv, if_pos (by rw [Bool.and_eq_true]; exact ⟨decide_eq_true h.1, decide_eq_true h.2⟩)]
theorem mulL {i j : Int} (h : -16000000 ≤ i ∧ i ≤ 16000000) : mulOk i j = true := by
  unfold mulOk
  rw [Bool.or_eq_true, Bool.or_eq_true]
  exact .inl (.inr (decide_eq_true (by omega)))
theorem mulR {i j : Int} (h : -16000000 ≤ j ∧ j ≤ 16000000) : mulOk i j = true := by
  unfold mulOk
  rw [Bool.or_eq_true, Bool.or_eq_true]
  exact .inl (.inl (decide_eq_true (by omega)))
theorem ix_intsI {ds : List Int} {i : Int} (h : 0 ≤ i ∧ i < ds.length) : idxD (.list (ds.map .int)) (.int i) = some (.int (ds.getD i.toNat 0)) := by
  have := ix_ints ds i.toNat (by omega)
  rw [show ((i.toNat : Nat) : Int) = i by omega] at this; exact this
theorem mod_nat (x : Int) (n : Nat) (h : 0 < n) : ∃ a : Nat, a < n ∧ x % (n : Int) = a := by
  have h1 := Int.emod_nonneg x (show (n : Int) ≠ 0 by omega)
  have h2 := Int.emod_lt_of_pos x (show (0 : Int) < n by omega)
  exact ⟨(x % (n : Int)).toNat, by omega, by omega⟩
theorem cut_last {α : Type} (l : List α) (x : α) : cut (l ++ [x]) none (some (-1)) = l := by
  unfold cut
  have e1 : sIx (l ++ [x]).length 0 none = 0 := rfl
  have e2 : sIx (l ++ [x]).length (l ++ [x]).length (some (-1)) = l.length := by
    show HT.sIx _ _ _ = _
    unfold HT.sIx
    simp
    try omega
  rw [e1, e2, List.drop_zero, Nat.sub_zero, List.take_left]
/-! natural numbers in lists -/
theorem nice_n (k : Nat) : nice (nD k) = true := by
  have h : (nD k).depth ≤ 100 := by show PyData.depth (.int _) ≤ 100; rw [PyData.depth]; omega
  unfold nice
  rw [decide_eq_true h]
  rfl
theorem nices_n (l : List Nat) : (l.map nD).all nice = true := by
  rw [List.all_eq_true]
  intro x hx
  obtain ⟨k, _, rfl⟩ := List.mem_map.mp hx
  exact nice_n k
theorem memD_n (k : Nat) : ∀ l : List Nat, memD (nD k) (l.map nD) = decide (k ∈ l)
  | [] => rfl
  | a :: l => by
    have ih := memD_n k l
    unfold memD at ih ⊢
    rw [List.map_cons, List.any_cons, ih, eqv_nD]
    by_cases h : a = k
    · subst h
      have e : decide (a ∈ a :: l) = true := decide_eq_true (List.mem_cons_self ..)
      rw [e, decide_eq_true rfl]; rfl
    · rw [decide_eq_false h, Bool.false_or]
      refine decide_eq_decide.mpr ?_
      simp only [List.mem_cons]
      constructor
      · exact .inr
      · rintro (e | e)
        · exact absurd e.symm h
        · exact e
theorem mem_n (k : Nat) (l : List Nat) : cmpD .mem (nD k) (.list (l.map nD)) = some (decide (k ∈ l)) := by
  rw [l_c_memL, nice_n, nices_n, memD_n]; rfl
theorem nmem_n (k : Nat) (l : List Nat) : cmpD .nmem (nD k) (.list (l.map nD)) = some (!decide (k ∈ l)) := by
  rw [l_c_nmemL, nice_n, nices_n, memD_n]; rfl
theorem memT_n (k : Nat) (l : List Nat) : cmpD .mem (nD k) (.tuple (l.map nD)) = some (decide (k ∈ l)) := by
  rw [l_c_memT, nice_n, nices_n, memD_n]; rfl
theorem depth_ns : ∀ l : List Nat, PyData.depthAll (l.map nD) ≤ 1
  | [] => by rw [List.map_nil, PyData.depthAll]; omega
  | k :: r => by
    have ih := depth_ns r
    rw [List.map_cons, PyData.depthAll]
    have e : PyData.depth (nD k) ≤ 1 := by show PyData.depth (.int _) ≤ 1; rw [PyData.depth]; omega
    omega
theorem plain_ns : ∀ l : List Nat, PyData.plainAll (l.map nD) = true
  | [] => by rw [List.map_nil, PyData.plainAll]
  | k :: r => by
    rw [List.map_cons, PyData.plainAll, plain_ns r]
    have e : PyData.plain (nD k) = true := rfl
    rw [e]; rfl
theorem niceT_n (l : List Nat) : nice (.tuple (l.map nD)) = true := by
  have h := depth_ns l
  have e : PyData.depth (.tuple (l.map nD)) ≤ 100 := by rw [PyData.depth]; omega
  unfold nice
  rw [decide_eq_true e, PyData.plain, plain_ns]; rfl
theorem eqvs_n : ∀ l1 l2 : List Nat, PyData.eqvAll (l1.map nD) (l2.map nD) = decide (l1 = l2)
  | [], [] => by simp [PyData.eqvAll]
  | [], _ :: _ => by simp [PyData.eqvAll]
  | _ :: _, [] => by simp [PyData.eqvAll]
  | a :: r, b :: q => by
    rw [List.map_cons, List.map_cons, PyData.eqvAll, eqv_nD, eqvs_n r q]
    by_cases h1 : a = b
    · by_cases h2 : r = q
      · rw [decide_eq_true h1, decide_eq_true h2, decide_eq_true (by rw [h1, h2])]; rfl
      · rw [decide_eq_false h2, Bool.and_false, decide_eq_false fun e => h2 (by injection e)]
    · rw [decide_eq_false h1, Bool.false_and, decide_eq_false fun e => h1 (by injection e)]
theorem eqT_n (l1 l2 : List Nat) : cmpD .eq (.tuple (l1.map nD)) (.tuple (l2.map nD)) = some (decide (l1 = l2)) := by
  have e : cmpD .eq (.tuple (l1.map nD)) (.tuple (l2.map nD)) = if (nice (.tuple (l1.map nD)) && nice (.tuple (l2.map nD))) = true then some (PyData.eqv (.tuple (l1.map nD)) (.tuple (l2.map nD))) else none := rfl
  rw [e, niceT_n, niceT_n, PyData.eqv, eqvs_n]; rfl
theorem neT_n (l1 l2 : List Nat) : cmpD .ne (.tuple (l1.map nD)) (.tuple (l2.map nD)) = some (!decide (l1 = l2)) := by
  have e : cmpD .ne (.tuple (l1.map nD)) (.tuple (l2.map nD)) = if (nice (.tuple (l1.map nD)) && nice (.tuple (l2.map nD))) = true then some (!PyData.eqv (.tuple (l1.map nD)) (.tuple (l2.map nD))) else none := rfl
  rw [e, niceT_n, niceT_n, PyData.eqv, eqvs_n]; rfl
theorem ne_bools (a b : Bool) : cmpD .ne (.bool a) (.bool b) = some (a != b) := by cases a <;> cases b <;> rfl
theorem eq_bools (a b : Bool) : cmpD .eq (.bool a) (.bool b) = some (a == b) := by cases a <;> cases b <;> rfl
theorem alike_n (a b : Nat) : ordD (nD a) (nD b) = true := by
  have h : (nD a).depth ≤ 100 := by show PyData.depth (.int _) ≤ 100; rw [PyData.depth]; omega
  unfold ordD ordD.alikeB
  rw [decide_eq_true h]
  rfl
theorem sortable_n (l : List Nat) (h : l.length ≤ 16000000) : sortable (l.map nD) = true := by
  unfold sortable
  rw [List.length_map, szK h]
  have h1 : (l.map nD).all (fun x => nice x && (l.map nD).all fun y => ordD x y) = true := by
    rw [List.all_eq_true]
    intro x hx
    obtain ⟨k, _, rfl⟩ := List.mem_map.mp hx
    rw [nice_n, Bool.true_and, List.all_eq_true]
    intro y hy
    obtain ⟨j, _, rfl⟩ := List.mem_map.mp hy
    exact alike_n k j
  have h2 : (l.map nD).all (fun x => !tupK x) = true := by
    rw [List.all_eq_true]
    intro x hx
    obtain ⟨k, _, rfl⟩ := List.mem_map.mp hx
    rfl
  rw [h1, h2]; rfl
theorem lt_n (a b : Nat) : PySem.W.dataLt (nD a) (nD b) = decide (a < b) := by
  have : PySem.W.dataLt (.int a) (.int b) = decide ((a : Int) < b) := by
    unfold PySem.W.dataLt
    rw [PySem.W.keyToks, PySem.W.keyToks, PyProof.Rows.lexLt, PyProof.Rows.lexLt, Bool.and_false, Bool.or_false]
    rfl
  rw [this]; exact decide_eq_decide.mpr (by omega)
theorem max_n (a : Nat) (l : List Nat) : maxD (nD a :: l.map nD) = some (nD (l.foldl max a)) := by
  show some _ = some _
  congr 1
  induction l generalizing a with
  | nil => rfl
  | cons b l ih =>
    rw [List.map_cons, List.foldl_cons, List.foldl_cons, lt_n]
    by_cases h : a < b
    · rw [decide_eq_true h, if_pos rfl, ih, Nat.max_eq_right (by omega)]
    · rw [decide_eq_false h, if_neg Bool.false_ne_true, ih, Nat.max_eq_left (by omega)]
theorem foldl_max_ge (l : List Nat) : ∀ a, a ≤ l.foldl max a ∧ ∀ x ∈ l, x ≤ l.foldl max a := by
  induction l with
  | nil => intro a; exact ⟨Nat.le_refl _, fun x hx => by cases hx⟩
  | cons b l ih =>
    intro a
    obtain ⟨h1, h2⟩ := ih (max a b)
    rw [List.foldl_cons]
    refine ⟨by omega, fun x hx => ?_⟩
    rcases List.mem_cons.mp hx with rfl | hx
    · omega
    · exact h2 x hx
end Lw

set_option autoImplicit false
set_option linter.all false
set_option Elab.async false
set_option maxRecDepth 100000
set_option maxHeartbeats 4000000
namespace Lw
open PySem PySem.Spec PyProof.Rows L2
open Gt
/-! ### the text of the law: its defs in compact form -/
def st0 : Stmt := (PySem.Challenge.pw_fewplaces_k45_main_what_to_keep_next.main.body.getD 7 (.Pass default))
def sc0 : Scope := C8.fnScope st0
def nm0 : List Str := ["value", "least", "most"]
def bd0 : List S := [(.ret (.and (.isi (.var 0) .int) (.and (.not (.isi (.var 0) .bool)) (.chn .le .le (.var 1) (.var 0) (.var 2)))))]
def st1 : Stmt := (PySem.Challenge.pw_fewplaces_k45_main_what_to_keep_next.main.body.getD 17 (.Pass default))
def sc1 : Scope := C8.fnScope st1
def nm1 : List Str := ["many", "places"]
def bd1 : List S := [(.ite (.or (.not (.call 0 [(.var 0), (.int 1), (.glb 0)])) (.not (.call 0 [(.var 1), (.int 1), (.glb 0)]))) [(.rai 3 [(.str "not a number")])] [])]
def st2 : Stmt := ((C8.clsBody (PySem.Challenge.pw_fewplaces_k45_main_what_to_keep_next.main.body.getD 18 (.Pass default))).getD 0 (.Pass default))
def sc2 : Scope := C8.fnScope st2
def nm2 : List Str := ["self", "many", "places"]
def bd2 : List S := [(.setF 0 0 (.var 2)), (.setF 0 1 (.var 1)), (.setF 0 2 (.int 0)), (.ownF 0 3 (.dct [(.int 0), (.bl true)])), (.ownF 0 4 (.dct []))]
def st3 : Stmt := ((C8.clsBody (PySem.Challenge.pw_fewplaces_k45_main_what_to_keep_next.main.body.getD 18 (.Pass default))).getD 1 (.Pass default))
def sc3 : Scope := C8.fnScope st3
def nm3 : List Str := ["self"]
def bd3 : List S := [(.ite (.cmp .ge (.fld (.var 0) 2) (.fld (.var 0) 1)) [(.ret (.bl false))] []), (.setI (.f 0 4) (.fld (.var 0) 2) (.bop .add (.mt .get2 (.fld (.var 0) 4) [(.fld (.var 0) 2), (.int 0)]) (.int 1))), (.augF 0 2 .add (.int 1)), (.ret (.bl true))]
def st4 : Stmt := ((C8.clsBody (PySem.Challenge.pw_fewplaces_k45_main_what_to_keep_next.main.body.getD 18 (.Pass default))).getD 2 (.Pass default))
def sc4 : Scope := C8.fnScope st4
def nm4 : List Str := ["self"]
def bd4 : List S := [(.ite (.or (.cmp .mem (.fld (.var 0) 2) (.fld (.var 0) 3)) (.cmp .ge (.bi .len [(.fld (.var 0) 3)]) (.fld (.var 0) 0))) [(.ret (.bl false))] []), (.setI (.f 0 3) (.fld (.var 0) 2) (.bl true)), (.ret (.bl true))]
def st5 : Stmt := ((C8.clsBody (PySem.Challenge.pw_fewplaces_k45_main_what_to_keep_next.main.body.getD 18 (.Pass default))).getD 3 (.Pass default))
def sc5 : Scope := C8.fnScope st5
def nm5 : List Str := ["self", "state"]
def bd5 : List S := [(.ret (.mu .dpopD (.f 0 3) [(.var 1), (.bl false)]))]
def st6 : Stmt := ((C8.clsBody (PySem.Challenge.pw_fewplaces_k45_main_what_to_keep_next.main.body.getD 18 (.Pass default))).getD 4 (.Pass default))
def sc6 : Scope := C8.fnScope st6
def nm6 : List Str := ["self", "state"]
def bd6 : List S := [(.ite (.cmp .nmem (.var 1) (.fld (.var 0) 3)) [(.ret (.bl false))] []), (.setF 0 2 (.var 1)), (.ret (.bl true))]
def st7 : Stmt := ((C8.clsBody (PySem.Challenge.pw_fewplaces_k45_main_what_to_keep_next.main.body.getD 18 (.Pass default))).getD 5 (.Pass default))
def sc7 : Scope := C8.fnScope st7
def nm7 : List Str := ["self"]
def bd7 : List S := [(.ite (.cmp .ne (.fld (.var 0) 2) (.bop .sub (.fld (.var 0) 1) (.int 1))) [(.ret (.bl false))] []), (.augF 0 1 .sub (.int 1)), (.ret (.bl true))]
def st8 : Stmt := ((C8.clsBody (PySem.Challenge.pw_fewplaces_k45_main_what_to_keep_next.main.body.getD 18 (.Pass default))).getD 6 (.Pass default))
def sc8 : Scope := C8.fnScope st8
def nm8 : List Str := ["self", "move"]
def bd8 : List S := [(.ite (.or (.not (.isi (.var 1) .tup)) (.or (.cmp .eq (.bi .len [(.var 1)]) (.int 0)) (.not (.isi (.idx (.var 1) (.int 0)) .str)))) [(.ret (.bl false))] []), (.ite (.and (.cmp .eq (.bi .len [(.var 1)]) (.int 2)) (.call 0 [(.idx (.var 1) (.int 1)), (.int 0), (.glb 0)])) [(.ret (.or (.and (.cmp .eq (.idx (.var 1) (.int 0)) (.glb 5)) (.mex 1 (.v 0) [(.idx (.var 1) (.int 1))])) (.and (.cmp .eq (.idx (.var 1) (.int 0)) (.glb 6)) (.mex 0 (.v 0) [(.idx (.var 1) (.int 1))]))))] []), (.ite (.cmp .ne (.bi .len [(.var 1)]) (.int 1)) [(.ret (.bl false))] []), (.ite (.cmp .eq (.idx (.var 1) (.int 0)) (.glb 3)) [(.ret (.mex 2 (.v 0) []))] []), (.ret (.or (.and (.cmp .eq (.idx (.var 1) (.int 0)) (.glb 4)) (.mex 4 (.v 0) [])) (.and (.cmp .eq (.idx (.var 1) (.int 0)) (.glb 7)) (.mex 3 (.v 0) []))))]
def st9 : Stmt := (PySem.Challenge.pw_fewplaces_k45_main_what_to_keep_next.main.body.getD 19 (.Pass default))
def sc9 : Scope := C8.fnScope st9
def nm9 : List Str := ["many", "places", "plan", "walk", "number", "move"]
def bd9 : List S := [(.own 3 (.new 4 [(.var 0), (.var 1)])), (.ite (.not (.isi (.var 2) .tup)) [(.frz 3), (.ret (.tup [(.glb 1), (.var 3)]))] []), (.forr (.t [(.v 4), (.v 5)]) (.itr .enum [(.var 2)]) [(.ite (.not (.mex 5 (.v 3) [(.var 5)])) [(.frz 3), (.ret (.tup [(.tup [(.str "move"), (.var 4)]), (.var 3)]))] [])]), (.frz 3), (.ret (.tup [(.ife (.cmp .eq (.fld (.var 3) 1) (.int 0)) .non (.glb 2)), (.var 3)]))]
def st10 : Stmt := (PySem.Challenge.pw_fewplaces_k45_main_what_to_keep_next.main.body.getD 20 (.Pass default))
def sc10 : Scope := C8.fnScope st10
def nm10 : List Str := ["many", "places", "value"]
def bd10 : List S := [(.ex (.call 1 [(.var 0), (.var 1)])), (.ret (.idx (.call 9 [(.var 0), (.var 1), (.var 2)]) (.int 0)))]
def st11 : Stmt := (PySem.Challenge.pw_fewplaces_k45_main_what_to_keep_next.main.body.getD 21 (.Pass default))
def sc11 : Scope := C8.fnScope st11
def nm11 : List Str := ["many", "places", "plan", "fault", "walk"]
def bd11 : List S := [(.ex (.call 1 [(.var 0), (.var 1)])), (.unpO [3, 4] (.call 9 [(.var 0), (.var 1), (.var 2)])), (.ite (.notn (.var 3)) [(.rai 1 [(.str "not a plan")])] []), (.ret (.bs .list (.itr .values [(.fld (.var 4) 4)])))]
def st12 : Stmt := (PySem.Challenge.pw_fewplaces_k45_main_what_to_keep_next.main.body.getD 22 (.Pass default))
def sc12 : Scope := C8.fnScope st12
def nm12 : List Str := ["many", "places", "plan"]
def bd12 : List S := [(.ret (.bs .sum (.e (.call 11 [(.var 0), (.var 1), (.var 2)]))))]
def st13 : Stmt := (PySem.Challenge.pw_fewplaces_k45_main_what_to_keep_next.main.body.getD 25 (.Pass default))
def sc13 : Scope := C8.fnScope st13
def nm13 : List Str := ["places", "times"]
def bd13 : List S := [(.ret (.bi .comb [(.bop .add (.var 0) (.var 1)), (.var 0)]))]
def st14 : Stmt := (PySem.Challenge.pw_fewplaces_k45_main_what_to_keep_next.main.body.getD 26 (.Pass default))
def sc14 : Scope := C8.fnScope st14
def nm14 : List Str := ["many", "places", "times"]
def bd14 : List S := [(.asg 2 (.int 0)), (.whl (.cmp .lt (.call 13 [(.var 1), (.var 2)]) (.var 0)) [(.augV 2 .add (.int 1))]), (.ret (.var 2))]
def st15 : Stmt := (PySem.Challenge.pw_fewplaces_k45_main_what_to_keep_next.main.body.getD 27 (.Pass default))
def sc15 : Scope := C8.fnScope st15
def nm15 : List Str := ["many", "places", "times"]
def bd15 : List S := [(.asg 2 (.call 14 [(.var 0), (.var 1)])), (.ret (.bop .sub (.bop .mul (.var 2) (.var 0)) (.bi .comb [(.bop .add (.var 1) (.var 2)), (.bop .add (.var 1) (.int 1))])))]
def st16 : Stmt := (PySem.Challenge.pw_fewplaces_k45_main_what_to_keep_next.main.body.getD 28 (.Pass default))
def sc16 : Scope := C8.fnScope st16
def nm16 : List Str := ["many", "places"]
def bd16 : List S := [(.ex (.call 1 [(.var 0), (.var 1)])), (.ret (.call 15 [(.var 0), (.var 1)]))]
def st17 : Stmt := (PySem.Challenge.pw_fewplaces_k45_main_what_to_keep_next.main.body.getD 29 (.Pass default))
def sc17 : Scope := C8.fnScope st17
def nm17 : List Str := ["many", "places", "most", "found", "state"]
def bd17 : List S := [(.ite (.or (.cmp .eq (.var 0) (.int 1)) (.cmp .eq (.var 1) (.int 1))) [(.ret (.tup []))] []), (.asg 2 (.call 15 [(.var 0), (.var 1)])), (.own 3 (.lst [])), (.forr (.v 4) (.itr .range2 [(.int 1), (.var 0)]) [(.ite (.cmp .eq (.bop .add (.bop .add (.var 4) (.call 15 [(.bop .sub (.var 0) (.var 4)), (.bop .sub (.var 1) (.int 1))])) (.call 15 [(.var 4), (.var 1)])) (.var 2)) [(.ex (.mu .append (.v 3) [(.var 4)]))] [])]), (.ret (.bs .tuple (.e (.var 3))))]
def st18 : Stmt := (PySem.Challenge.pw_fewplaces_k45_main_what_to_keep_next.main.body.getD 30 (.Pass default))
def sc18 : Scope := C8.fnScope st18
def nm18 : List Str := ["many", "places"]
def bd18 : List S := [(.ex (.call 1 [(.var 0), (.var 1)])), (.ret (.call 17 [(.var 0), (.var 1)]))]
def st19 : Stmt := (PySem.Challenge.pw_fewplaces_k45_main_what_to_keep_next.main.body.getD 31 (.Pass default))
def sc19 : Scope := C8.fnScope st19
def nm19 : List Str := ["begin", "many", "found", "last"]
def bd19 : List S := [(.own 2 (.lst [])), (.forr (.v 3) (.itr .range3 [(.bop .sub (.var 1) (.int 1)), (.neg (.int 1)), (.neg (.int 1))]) [(.ex (.mu .extend (.v 2) [(.bop .add (.bop .mul (.lst [(.tup [(.glb 3)])]) (.var 3)) (.lst [(.tup [(.glb 7)])]))])), (.ite (.cmp .gt (.var 3) (.int 0)) [(.ex (.mu .append (.v 2) [(.tup [(.glb 6), (.var 0)])]))] [])]), (.retM 2)]
def st20 : Stmt := (PySem.Challenge.pw_fewplaces_k45_main_what_to_keep_next.main.body.getD 32 (.Pass default))
def sc20 : Scope := C8.fnScope st20
def nm20 : List Str := ["many", "places", "found", "waits", "word", "begin", "rest", "room", "state"]
def bd20 : List S := [(.ex (.call 1 [(.var 0), (.var 1)])), (.ite (.cmp .gt (.var 0) (.glb 8)) [(.rai 2 [(.str "too many steps")])] []), (.par [(.o 2), (.o 3)] [(.lst []), (.lst [(.tup [(.str "undo"), (.int 0), (.var 0), (.var 1)])])]), (.whl (.cmp .gt (.bi .len [(.var 3)]) (.int 0)) [(.unp (.t [(.v 4), (.v 5), (.v 6), (.v 7)]) (.mu .pop (.v 3) [])), (.ite (.cmp .eq (.var 4) (.str "back")) [(.ex (.mu .extend (.v 2) [(.lst [(.tup [(.glb 5), (.var 6)]), (.tup [(.glb 6), (.var 5)])])]))] [(.ite (.or (.cmp .eq (.var 6) (.int 1)) (.cmp .eq (.var 7) (.int 1))) [(.ex (.mu .extend (.v 2) [(.call 19 [(.var 5), (.var 6)])]))] [(.asg 8 (.idx (.call 17 [(.var 6), (.var 7)]) (.neg (.int 1)))), (.ex (.mu .extend (.v 2) [(.bop .add (.bop .mul (.lst [(.tup [(.glb 3)])]) (.var 8)) (.lst [(.tup [(.glb 4)])]))])), (.ex (.mu .append (.v 3) [(.tup [(.str "undo"), (.var 5), (.var 8), (.var 7)])])), (.ex (.mu .append (.v 3) [(.tup [(.str "back"), (.var 5), (.bop .add (.var 5) (.var 8)), (.var 7)])])), (.ex (.mu .append (.v 3) [(.tup [(.str "undo"), (.bop .add (.var 5) (.var 8)), (.bop .sub (.var 6) (.var 8)), (.bop .sub (.var 7) (.int 1))])]))])])]), (.ret (.bs .tuple (.e (.var 2))))]
def st21 : Stmt := (PySem.Challenge.pw_fewplaces_k45_main_what_to_keep_next.main.body.getD 34 (.Pass default))
def sc21 : Scope := C8.fnScope st21
def nm21 : List Str := ["script", "many", "draws", "seed", "cell", "number", "k"]
def bd21 : List S := [(.own 2 (.lst [])), (.asg 3 (.int 7)), (.forr (.v 4) (.e (.slc (.var 0) .nil (.int 63))) [(.asg 5 (.bi .abs [(.var 4)])), (.asg 3 (.bop .mod (.bi .int [(.bop .add (.bop .add (.bop .mul (.var 3) (.int 48271)) (.var 5)) (.int 11))]) (.int 2147483647))), (.ite (.cmp .ge (.var 5) (.bop .pow (.int 10) (.int 18))) [(.forr (.v 6) (.itr .range1 [(.int 60)]) [(.ite (.cmp .gt (.var 5) (.int 0)) [(.ex (.mu .append (.v 2) [(.bop .mod (.bi .int [(.var 5)]) (.int 1009))])), (.asg 5 (.bop .fdiv (.var 5) (.int 1009)))] [])])] [(.ex (.mu .append (.v 2) [(.bop .mod (.bop .fdiv (.bi .int [(.bop .add (.bop .mul (.var 3) (.int 16807)) (.int 5))]) (.int 3)) (.int 65521))]))])]), (.forr (.v 6) (.itr .range1 [(.var 1)]) [(.ite (.cmp .lt (.bi .len [(.var 2)]) (.var 1)) [(.asg 3 (.bop .mod (.bi .int [(.bop .add (.bop .add (.bop .mul (.var 3) (.int 69621)) (.var 6)) (.int 1))]) (.int 2147483647))), (.ex (.mu .append (.v 2) [(.bop .mod (.bop .fdiv (.bi .int [(.var 3)]) (.int 7)) (.int 65521))]))] [])]), (.ret (.slc (.var 2) .nil (.var 1)))]
def st22 : Stmt := (PySem.Challenge.pw_fewplaces_k45_main_what_to_keep_next.main.body.getD 35 (.Pass default))
def sc22 : Scope := C8.fnScope st22
def nm22 : List Str := ["plan", "by", "move"]
def bd22 : List S := [(.ret (.bs .tuple (.e (.lc (.v 2) (.e (.var 0)) (.ife (.cmp .eq (.bi .len [(.var 2)]) (.int 2)) (.tup [(.idx (.var 2) (.int 0)), (.bop .add (.idx (.var 2) (.int 1)) (.var 1))]) (.var 2))))))]
def st23 : Stmt := (PySem.Challenge.pw_fewplaces_k45_main_what_to_keep_next.main.body.getD 36 (.Pass default))
def sc23 : Scope := C8.fnScope st23
def nm23 : List Str := ["many", "places", "state", "ahead"]
def bd23 : List S := [(.asg 3 (.bop .add (.bop .mul (.tup [(.tup [(.str "step")])]) (.var 2)) (.tup [(.tup [(.str "keep")])]))), (.ret (.bop .add (.bop .add (.bop .add (.bop .add (.var 3) (.call 22 [(.call 20 [(.bop .sub (.var 0) (.var 2)), (.bop .sub (.var 1) (.int 1))]), (.var 2)])) (.tup [(.tup [(.str "take"), (.int 0)])])) (.call 24 [(.var 0), (.var 1), (.var 2)])) (.call 20 [(.var 2), (.var 1)])))]
def st24 : Stmt := (PySem.Challenge.pw_fewplaces_k45_main_what_to_keep_next.main.body.getD 37 (.Pass default))
def sc24 : Scope := C8.fnScope st24
def nm24 : List Str := ["many", "places", "state", "kept", "here", "move", "one"]
def bd24 : List S := [(.asg 3 (.lst [(.var 2)])), (.asg 4 (.var 2)), (.forr (.v 5) (.e (.call 22 [(.call 20 [(.bop .sub (.var 0) (.var 2)), (.bop .sub (.var 1) (.int 1))]), (.var 2)])) [(.ite (.cmp .eq (.var 5) (.tup [(.str "keep")])) [(.asg 3 (.bop .add (.var 3) (.lst [(.var 4)])))] [(.ite (.cmp .eq (.idx (.var 5) (.int 0)) (.str "drop")) [(.asg 3 (.lci (.v 6) (.e (.var 3)) (.cmp .ne (.var 6) (.idx (.var 5) (.int 1))) (.var 6)))] [])]), (.asg 4 (.ife (.cmp .eq (.var 5) (.tup [(.str "step")])) (.bop .add (.var 4) (.int 1)) (.ife (.cmp .eq (.idx (.var 5) (.int 0)) (.str "take")) (.idx (.var 5) (.int 1)) (.var 4))))]), (.ret (.bs .tuple (.e (.lc (.v 6) (.e (.var 3)) (.tup [(.str "drop"), (.var 6)])))))]
def st25 : Stmt := (PySem.Challenge.pw_fewplaces_k45_main_what_to_keep_next.main.body.getD 38 (.Pass default))
def sc25 : Scope := C8.fnScope st25
def nm25 : List Str := ["script", "draws", "turn", "many", "places", "least", "due", "state", "told", "n", "plan"]
def bd25 : List S := [(.asg 1 (.call 21 [(.var 0), (.int 60)])), (.forr (.v 2) (.itr .range1 [(.int 5)]) [(.par [(.a 3), (.a 4)] [(.bop .add (.int 2) (.bop .mod (.bi .int [(.idx (.var 1) (.var 2))]) (.idx (.lst [(.int 6), (.int 20), (.int 59)]) (.bop .mod (.var 2) (.int 3))))), (.bop .add (.int 2) (.bop .mod (.bi .int [(.idx (.var 1) (.bop .add (.int 10) (.var 2)))]) (.int 7)))]), (.asg 5 (.call 16 [(.var 3), (.var 4)])), (.asg 6 (.bs .tuple (.e (.lci (.v 7) (.itr .range2 [(.int 1), (.var 3)]) (.cmp .eq (.bop .add (.bop .add (.var 7) (.call 16 [(.bop .sub (.var 3) (.var 7)), (.bop .sub (.var 4) (.int 1))])) (.call 16 [(.var 7), (.var 4)])) (.var 5)) (.var 7))))), (.asg 8 (.call 18 [(.var 3), (.var 4)])), (.ite (.or (.cmp .ne (.var 8) (.var 6)) (.or (.cmp .eq (.bi .len [(.var 8)]) (.int 0)) (.cmp .ne (.var 8) (.bs .tuple (.itr .range2 [(.idx (.var 8) (.int 0)), (.bop .add (.idx (.var 8) (.int 0)) (.bi .len [(.var 8)]))]))))) [(.ret (.bl false))] []), (.forr (.v 9) (.itr .range1 [(.int 3)]) [(.asg 7 (.bop .add (.int 1) (.bop .mod (.bi .int [(.idx (.var 1) (.bop .add (.bop .add (.int 20) (.bop .mul (.int 3) (.var 2))) (.var 9)))]) (.bop .sub (.var 3) (.int 1))))), (.asg 10 (.call 23 [(.var 3), (.var 4), (.var 7)])), (.ite (.or (.notn (.call 10 [(.var 3), (.var 4), (.var 10)])) (.or (.cmp .ne (.cmp .eq (.call 12 [(.var 3), (.var 4), (.var 10)]) (.var 5)) (.cmp .mem (.var 7) (.var 8))) (.cmp .lt (.call 12 [(.var 3), (.var 4), (.var 10)]) (.var 5)))) [(.ret (.bl false))] [])]), (.ite (.or (.cmp .ne (.call 18 [(.var 3), (.int 1)]) (.tup [])) (.cmp .ne (.call 18 [(.int 1), (.var 4)]) (.tup []))) [(.ret (.bl false))] [])]), (.ret (.and (.cmp .eq (.call 18 [(.int 3), (.int 2)]) (.tup [(.int 1)])) (.and (.cmp .eq (.call 18 [(.int 2), (.int 5)]) (.tup [(.int 1)])) (.cmp .eq (.call 18 [(.int 4), (.int 2)]) (.tup [(.int 1), (.int 2)])))))]
def subT : Nat → Nat → Bool
  | 3, 3 => true
  | 1, 1 => true
  | 2, 2 => true
  | _, _ => false
def fnT : Nat → Option Fn
  | 0 => some ⟨3, 3, bd0⟩
  | 1 => some ⟨2, 2, bd1⟩
  | 2 => some ⟨3, 3, bd2⟩
  | 3 => some ⟨1, 1, bd3⟩
  | 4 => some ⟨1, 1, bd4⟩
  | 5 => some ⟨2, 2, bd5⟩
  | 6 => some ⟨2, 2, bd6⟩
  | 7 => some ⟨1, 1, bd7⟩
  | 8 => some ⟨2, 2, bd8⟩
  | 9 => some ⟨3, 6, bd9⟩
  | 10 => some ⟨3, 3, bd10⟩
  | 11 => some ⟨3, 5, bd11⟩
  | 12 => some ⟨3, 3, bd12⟩
  | 13 => some ⟨2, 2, bd13⟩
  | 14 => some ⟨2, 3, bd14⟩
  | 15 => some ⟨2, 3, bd15⟩
  | 16 => some ⟨2, 2, bd16⟩
  | 17 => some ⟨2, 5, bd17⟩
  | 18 => some ⟨2, 2, bd18⟩
  | 19 => some ⟨2, 4, bd19⟩
  | 20 => some ⟨2, 9, bd20⟩
  | 21 => some ⟨2, 7, bd21⟩
  | 22 => some ⟨2, 3, bd22⟩
  | 23 => some ⟨3, 4, bd23⟩
  | 24 => some ⟨3, 7, bd24⟩
  | 25 => some ⟨1, 11, bd25⟩
  | _ => none
def tblT_0 (A : Nat → Addr) : List (Str × Option Value) := [("is_whole", some (.ref (A 0))), ("check_numbers", some (.ref (A 1))), ("walked_by", some (.ref (A 9))), ("steps_fault", some (.ref (A 10))), ("_times_by", some (.ref (A 11))), ("steps_of", some (.ref (A 12))), ("reach_by", some (.ref (A 13))), ("times_by", some (.ref (A 14))), ("fewest_by", some (.ref (A 15))), ("fewest_steps", some (.ref (A 16))), ("keeps_by", some (.ref (A 17))), ("first_keeps", some (.ref (A 18))), ("_lone_moves", some (.ref (A 19))), ("best_plan", some (.ref (A 20))), ("_law_draws", some (.ref (A 21))), ("_law_moved", some (.ref (A 22))), ("_law_by", some (.ref (A 23))), ("_law_cleared", some (.ref (A 24))), ("law", some (.ref (A 25))), ("abs", none)]
def tblT_1 (A : Nat → Addr) : List (Str × Option Value) := [("bool", none), ("comb", some (.builtin "math.comb")), ("enumerate", none), ("int", none), ("isinstance", none), ("len", none), ("list", none), ("range", none), ("str", none), ("sum", none), ("tuple", none)]
def gvT_0 : List (Str × D) := [("MOST_STEPS", (.int 1000)), ("FORM", (.tuple [(.str "form")])), ("END", (.tuple [(.str "end")])), ("STEP", (.str "step")), ("KEEP", (.str "keep")), ("DROP", (.str "drop")), ("TAKE", (.str "take")), ("UNDO", (.str "undo")), ("MOST_PLANNED", (.int 400))]
def fnsT_0 (A : Nat → Addr) : List (Addr × Nat × Bool) := [(A 0, 3, false), (A 1, 2, false), (A 2, 3, true), (A 3, 1, true), (A 4, 1, true), (A 5, 2, true), (A 6, 2, true), (A 7, 1, true), (A 8, 2, true), (A 9, 3, false), (A 10, 3, false), (A 11, 3, false), (A 12, 3, false), (A 13, 2, false), (A 14, 2, false), (A 15, 2, false), (A 16, 2, false), (A 17, 2, false), (A 18, 2, false), (A 19, 2, false)]
def fnsT_1 (A : Nat → Addr) : List (Addr × Nat × Bool) := [(A 20, 2, false), (A 21, 2, false), (A 22, 2, false), (A 23, 3, false), (A 24, 3, false), (A 25, 1, false)]
def fldT_0 : List Str := ["places", "left", "here", "kept", "times"]
def lawK (A : Nat → Addr) : Lk where
  tbl := tblT_0 A ++ tblT_1 A
  gv := gvT_0
  fns := fnsT_0 A ++ fnsT_1 A
  cls := [("BadNumber", 3), ("BadPlan", 1), ("TooMany", 2)]
  fld := fldT_0
  mth := [("take_state", 1), ("drop_state", 1), ("go_step", 0), ("undo_step", 0), ("keep_here", 0), ("make_move", 1)]
  nws := [("Walk", 4, 2, 2)]
section
variable {G : Gx} {A : Nat → Addr} {C : Cf} {W : WX} {X : Cx}
theorem so0 (z : Cz true G (lawK A) subT C W X nm0 sc0) (w : Bd X) : PSs X (C8.fnBody st0) (tSs G C subT W bd0) :=
  (snd_cons (snd_ret (snd_and (z_isi z .int 3 24 4 23 (z_varb z 0 0)) (snd_and (snd_not (z_isi z .bool 3 24 5 20 (z_varb z 0 0))) (pe_one (z_chn z .le .le (z_varb z 1 1) (z_varb z 0 0) (z_varb z 2 2))))))
  snd_nil)
theorem so1 (z : Cz true G (lawK A) subT C W X nm1 sc1) (w : Bd X) : PSs X (C8.fnBody st1) (tSs G C subT W bd1) :=
  (snd_cons (snd_ite (snd_orW (snd_notT (z_T (z_call z 0 2 0 (z_ac (z_var z 0 0) (z_ac snd_int (z_ac (z_glb z 0 3) z_an)))))) (pw_or1 (snd_notT (z_T (z_call z 0 2 0 (z_ac (z_var z 1 1) (z_ac snd_int (z_ac (z_glb z 0 3) z_an)))))))).pt
  (snd_cons (z_rai z 3 0 4)
  snd_nil)
  snd_nil)
  snd_nil)
theorem so2 (z : Cz true G (lawK A) subT C W X nm2 sc2) (w : Bd X) : PSs X (C8.fnBody st2) (tSs G C subT W bd2) :=
  (snd_cons (z_setF z 0 0 0 (z_var z 2 2))
  (snd_cons (z_setF z 0 0 1 (z_var z 1 1))
  (snd_cons (z_setF z 0 0 2 snd_int)
  (snd_cons (z_ownF z 0 0 3 (z_dct z [((.int 0), (.bl true))] (z_ppc snd_int snd_bl z_pp0)))
  (snd_cons (z_ownF z 0 0 4 snd_dct0)
  snd_nil)))))
theorem so3 (z : Cz true G (lawK A) subT C W X nm3 sc3) (w : Bd X) : PSs X (C8.fnBody st3) (tSs G C subT W bd3) :=
  (snd_cons (snd_ite (z_cmpT z .ge (z_fldb z 2 (z_varb z 0 0)) (z_fldb z 1 (z_varb z 0 0)))
  (snd_cons (snd_ret snd_bl)
  snd_nil)
  snd_nil)
  (snd_cons (z_setI z (q := (.f 0 4)) (z_bop z .add (z_b (z_get2 z (z_fldb z 4 (z_varb z 0 0)) (z_fld z 2 (z_varb z 0 0)) snd_int)) (z_b snd_int)) (z_fldb z 4 (z_varb z 0 0)) (z_fld z 2 (z_varb z 0 0)))
  (snd_cons (z_augF z .add 0 0 2 snd_int)
  (snd_cons (snd_ret snd_bl)
  snd_nil))))
theorem so4 (z : Cz true G (lawK A) subT C W X nm4 sc4) (w : Bd X) : PSs X (C8.fnBody st4) (tSs G C subT W bd4) :=
  (snd_cons (snd_ite (snd_orW (z_cmpT z .mem (z_fldb z 2 (z_varb z 0 0)) (z_fldb z 3 (z_varb z 0 0))) (pw_or1 (z_cmpT z .ge (z_b (z_bi1 z .len 1 25 (call_len_data z.gx) (z_fldb z 3 (z_varb z 0 0)))) (z_fldb z 0 (z_varb z 0 0))))).pt
  (snd_cons (snd_ret snd_bl)
  snd_nil)
  snd_nil)
  (snd_cons (z_setI z (q := (.f 0 3)) snd_bl (z_fldb z 3 (z_varb z 0 0)) (z_fld z 2 (z_varb z 0 0)))
  (snd_cons (snd_ret snd_bl)
  snd_nil)))
theorem so5 (z : Cz true G (lawK A) subT C W X nm5 sc5) (w : Bd X) : PSs X (C8.fnBody st5) (tSs G C subT W bd5) :=
  (snd_cons (snd_ret (z_popD z (z_fldb z 3 (z_varb z 0 0)) (z_var z 1 1) snd_bl))
  snd_nil)
theorem so6 (z : Cz true G (lawK A) subT C W X nm6 sc6) (w : Bd X) : PSs X (C8.fnBody st6) (tSs G C subT W bd6) :=
  (snd_cons (snd_ite (z_cmpT z .nmem (z_varb z 1 1) (z_fldb z 3 (z_varb z 0 0)))
  (snd_cons (snd_ret snd_bl)
  snd_nil)
  snd_nil)
  (snd_cons (z_setF z 0 0 2 (z_var z 1 1))
  (snd_cons (snd_ret snd_bl)
  snd_nil)))
theorem so7 (z : Cz true G (lawK A) subT C W X nm7 sc7) (w : Bd X) : PSs X (C8.fnBody st7) (tSs G C subT W bd7) :=
  (snd_cons (snd_ite (z_cmpT z .ne (z_fldb z 2 (z_varb z 0 0)) (z_b (z_bop z .sub (z_fldb z 1 (z_varb z 0 0)) (z_b snd_int))))
  (snd_cons (snd_ret snd_bl)
  snd_nil)
  snd_nil)
  (snd_cons (z_augF z .sub 0 0 1 snd_int)
  (snd_cons (snd_ret snd_bl)
  snd_nil)))
theorem so8 (z : Cz true G (lawK A) subT C W X nm8 sc8) (w : Bd X) : PSs X (C8.fnBody st8) (tSs G C subT W bd8) :=
  (snd_cons (snd_ite (snd_orW (snd_notT (z_T (z_isi z .tup 2 24 3 30 (z_varb z 1 1)))) (snd_orW (z_cmpT z .eq (z_b (z_bi1 z .len 4 25 (call_len_data z.gx) (z_varb z 1 1))) (z_b snd_int)) (pw_or1 (snd_notT (z_T (z_isi z .str 2 24 5 28 (z_b (z_idx z (z_varb z 1 1) snd_int)))))))).pt
  (snd_cons (snd_ret snd_bl)
  snd_nil)
  snd_nil)
  (snd_cons (snd_ite (snd_andW (z_cmpT z .eq (z_b (z_bi1 z .len 4 25 (call_len_data z.gx) (z_varb z 1 1))) (z_b snd_int)) (pw_and1 (z_T (z_call z 0 6 0 (z_ac (z_idx z (z_varb z 1 1) snd_int) (z_ac snd_int (z_ac (z_glb z 0 7) z_an))))))).pt
  (snd_cons (snd_ret (snd_or (snd_and (z_cmp z .eq (z_b (z_idx z (z_varb z 1 1) snd_int)) (z_b (z_glb z 5 8))) (pe_one (z_mex z 1 (z_varb z 0 0) (z_ac (z_idx z (z_varb z 1 1) snd_int) z_an)))) (pe_one (snd_and (z_cmp z .eq (z_b (z_idx z (z_varb z 1 1) snd_int)) (z_b (z_glb z 6 9))) (pe_one (z_mex z 0 (z_varb z 0 0) (z_ac (z_idx z (z_varb z 1 1) snd_int) z_an)))))))
  snd_nil)
  snd_nil)
  (snd_cons (snd_ite (z_cmpT z .ne (z_b (z_bi1 z .len 4 25 (call_len_data z.gx) (z_varb z 1 1))) (z_b snd_int))
  (snd_cons (snd_ret snd_bl)
  snd_nil)
  snd_nil)
  (snd_cons (snd_ite (z_cmpT z .eq (z_b (z_idx z (z_varb z 1 1) snd_int)) (z_b (z_glb z 3 10)))
  (snd_cons (snd_ret (z_mex0 z 2 (z_varb z 0 0)))
  snd_nil)
  snd_nil)
  (snd_cons (snd_ret (snd_or (snd_and (z_cmp z .eq (z_b (z_idx z (z_varb z 1 1) snd_int)) (z_b (z_glb z 4 11))) (pe_one (z_mex0 z 4 (z_varb z 0 0)))) (pe_one (snd_and (z_cmp z .eq (z_b (z_idx z (z_varb z 1 1) snd_int)) (z_b (z_glb z 7 12))) (pe_one (z_mex0 z 3 (z_varb z 0 0)))))))
  snd_nil)))))
theorem so9 (z : Cz true G (lawK A) subT C W X nm9 sc9) (w : Bd X) : PSs X (C8.fnBody st9) (tSs G C subT W bd9) :=
  (snd_cons (z_own z w 3 3 (z_new z 0 6 (z_ac (z_var z 0 0) (z_ac (z_var z 1 1) z_an))))
  (snd_cons (snd_ite (snd_notT (z_T (z_isi z .tup 7 24 8 30 (z_varb z 2 2))))
  (snd_frz (snd_cons (snd_ret (z_tup (z_ac (z_glb z 1 9) (z_ac (z_var z 3 3) z_an))))
  snd_nil))
  snd_nil)
  (snd_cons (z_for z w (z_enum z 10 22 (z_var z 2 2)) (z_gt z (z_gc (z_gb z w 4 4) (z_gc (z_gb z w 5 5) z_g0)))
  (snd_cons (snd_ite (snd_notT (z_T (z_mex z 5 (z_varb z 3 3) (z_ac (z_var z 5 5) z_an))))
  (snd_frz (snd_cons (snd_ret (z_tup (z_ac (z_tup (z_ac snd_str (z_ac (z_var z 4 4) z_an))) (z_ac (z_var z 3 3) z_an))))
  snd_nil))
  snd_nil)
  snd_nil))
  (snd_frz (snd_cons (snd_ret (z_tup (z_ac (snd_ife (z_cmpT z .eq (z_fldb z 1 (z_varb z 3 3)) (z_b snd_int)) snd_non (z_glb z 2 11)) (z_ac (z_var z 3 3) z_an))))
  snd_nil)))))
theorem so10 (z : Cz true G (lawK A) subT C W X nm10 sc10) (w : Bd X) : PSs X (C8.fnBody st10) (tSs G C subT W bd10) :=
  (snd_cons (z_ex (z_call z 1 3 1 (z_ac (z_var z 0 0) (z_ac (z_var z 1 1) z_an))))
  (snd_cons (snd_ret (z_idx z (z_b (z_call z 9 4 2 (z_ac (z_var z 0 0) (z_ac (z_var z 1 1) (z_ac (z_var z 2 2) z_an))))) snd_int))
  snd_nil))
theorem so11 (z : Cz true G (lawK A) subT C W X nm11 sc11) (w : Bd X) : PSs X (C8.fnBody st11) (tSs G C subT W bd11) :=
  (snd_cons (z_ex (z_call z 1 5 1 (z_ac (z_var z 0 0) (z_ac (z_var z 1 1) z_an))))
  (snd_cons (z_unpO z (z_call z 9 6 2 (z_ac (z_var z 0 0) (z_ac (z_var z 1 1) (z_ac (z_var z 2 2) z_an)))) (z_nc z w 3 3 (z_nc z w 4 4 z_n0)))
  (snd_cons (snd_ite (snd_notnT (z_varb z 3 3))
  (snd_cons (z_rai z 1 1 7)
  snd_nil)
  snd_nil)
  (snd_cons (snd_ret (z_lv z 8 26 (z_fldb z 4 (z_varb z 4 4))))
  snd_nil))))
theorem so12 (z : Cz true G (lawK A) subT C W X nm12 sc12) (w : Bd X) : PSs X (C8.fnBody st12) (tSs G C subT W bd12) :=
  (snd_cons (snd_ret (z_bs z .sum 3 29 (call_sum_data z.gx (z.hc rfl)) (z_b (z_call z 11 4 4 (z_ac (z_var z 0 0) (z_ac (z_var z 1 1) (z_ac (z_var z 2 2) z_an)))))))
  snd_nil)
theorem so13 (z : Cz true G (lawK A) subT C W X nm13 sc13) (w : Bd X) : PSs X (C8.fnBody st13) (tSs G C subT W bd13) :=
  (snd_cons (snd_ret (z_biF z .comb 2 21 call_comb_data (z_ac (z_bop z .add (z_varb z 0 0) (z_varb z 1 1)) (z_ac (z_var z 0 0) z_an))))
  snd_nil)
theorem so14 (z : Cz true G (lawK A) subT C W X nm14 sc14) (w : Bd X) : PSs X (C8.fnBody st14) (tSs G C subT W bd14) :=
  (snd_cons (z_asg z w 2 2 snd_int)
  (snd_cons (z_whl w (z_cmpT z .lt (z_b (z_call z 13 3 6 (z_ac (z_var z 1 1) (z_ac (z_var z 2 2) z_an)))) (z_varb z 0 0))
  (snd_cons (z_aug z w 2 2 .add snd_int)
  snd_nil))
  (snd_cons (snd_ret (z_var z 2 2))
  snd_nil)))
theorem so15 (z : Cz true G (lawK A) subT C W X nm15 sc15) (w : Bd X) : PSs X (C8.fnBody st15) (tSs G C subT W bd15) :=
  (snd_cons (z_asg z w 2 2 (z_call z 14 3 7 (z_ac (z_var z 0 0) (z_ac (z_var z 1 1) z_an))))
  (snd_cons (snd_ret (z_bop z .sub (z_b (z_bop z .mul (z_varb z 2 2) (z_varb z 0 0))) (z_b (z_biF z .comb 4 21 call_comb_data (z_ac (z_bop z .add (z_varb z 1 1) (z_varb z 2 2)) (z_ac (z_bop z .add (z_varb z 1 1) (z_b snd_int)) z_an))))))
  snd_nil))
theorem so16 (z : Cz true G (lawK A) subT C W X nm16 sc16) (w : Bd X) : PSs X (C8.fnBody st16) (tSs G C subT W bd16) :=
  (snd_cons (z_ex (z_call z 1 2 1 (z_ac (z_var z 0 0) (z_ac (z_var z 1 1) z_an))))
  (snd_cons (snd_ret (z_call z 15 3 8 (z_ac (z_var z 0 0) (z_ac (z_var z 1 1) z_an))))
  snd_nil))
theorem so17 (z : Cz true G (lawK A) subT C W X nm17 sc17) (w : Bd X) : PSs X (C8.fnBody st17) (tSs G C subT W bd17) :=
  (snd_cons (snd_ite (snd_orW (z_cmpT z .eq (z_varb z 0 0) (z_b snd_int)) (pw_or1 (z_cmpT z .eq (z_varb z 1 1) (z_b snd_int)))).pt
  (snd_cons (snd_ret (z_tup z_an))
  snd_nil)
  snd_nil)
  (snd_cons (z_asg z w 2 2 (z_call z 15 5 8 (z_ac (z_var z 0 0) (z_ac (z_var z 1 1) z_an))))
  (snd_cons (z_own z w 3 3 (z_lst z_an))
  (snd_cons (z_for z w (z_r2 z 6 27 snd_int (z_var z 0 0)) (z_gb z w 4 4)
  (snd_cons (snd_ite (z_cmpT z .eq (z_b (z_bop z .add (z_b (z_bop z .add (z_varb z 4 4) (z_b (z_call z 15 5 8 (z_ac (z_bop z .sub (z_varb z 0 0) (z_varb z 4 4)) (z_ac (z_bop z .sub (z_varb z 1 1) (z_b snd_int)) z_an)))))) (z_b (z_call z 15 5 8 (z_ac (z_var z 4 4) (z_ac (z_var z 1 1) z_an)))))) (z_varb z 2 2))
  (snd_cons (z_ex (z_append z (z_varb z 3 3) (z_var z 4 4)))
  snd_nil)
  snd_nil)
  snd_nil))
  (snd_cons (snd_ret (z_bsT z .tuple 7 30 (call_tuple_data z.gx) (z_varb z 3 3)))
  snd_nil)))))
theorem so18 (z : Cz true G (lawK A) subT C W X nm18 sc18) (w : Bd X) : PSs X (C8.fnBody st18) (tSs G C subT W bd18) :=
  (snd_cons (z_ex (z_call z 1 2 1 (z_ac (z_var z 0 0) (z_ac (z_var z 1 1) z_an))))
  (snd_cons (snd_ret (z_call z 17 3 10 (z_ac (z_var z 0 0) (z_ac (z_var z 1 1) z_an))))
  snd_nil))
theorem so19 (z : Cz true G (lawK A) subT C W X nm19 sc19) (w : Bd X) : PSs X (C8.fnBody st19) (tSs G C subT W bd19) :=
  (snd_cons (z_own z w 2 2 (z_lst z_an))
  (snd_cons (z_for z w (z_r3 z 4 27 (z_bop z .sub (z_varb z 1 1) (z_b snd_int)) (snd_neg snd_int) (snd_neg snd_int)) (z_gb z w 3 3)
  (snd_cons (z_ex (z_extend z (z_varb z 2 2) (z_bop z .add (z_b (z_bop z .mul (z_b (z_lst (z_ac (z_tup (z_ac (z_glb z 3 5) z_an)) z_an))) (z_varb z 3 3))) (z_b (z_lst (z_ac (z_tup (z_ac (z_glb z 7 6) z_an)) z_an))))))
  (snd_cons (snd_ite (z_cmpT z .gt (z_varb z 3 3) (z_b snd_int))
  (snd_cons (z_ex (z_append z (z_varb z 2 2) (z_tup (z_ac (z_glb z 6 7) (z_ac (z_var z 0 0) z_an)))))
  snd_nil)
  snd_nil)
  snd_nil)))
  (snd_cons (z_retM z 2 2)
  snd_nil)))
theorem so20 (z : Cz true G (lawK A) subT C W X nm20 sc20) (w : Bd X) : PSs X (C8.fnBody st20) (tSs G C subT W bd20) :=
  (snd_cons (z_ex (z_call z 1 9 1 (z_ac (z_var z 0 0) (z_ac (z_var z 1 1) z_an))))
  (snd_cons (snd_ite (z_cmpT z .gt (z_varb z 0 0) (z_b (z_glb z 8 10)))
  (snd_cons (z_rai z 2 2 11)
  snd_nil)
  snd_nil)
  (snd_cons (z_par2 z 2 3 2 3 (z_wc (z_lst z_an) (z_wc (z_lst (z_ac (z_tup (z_ac snd_str (z_ac snd_int (z_ac (z_var z 0 0) (z_ac (z_var z 1 1) z_an))))) z_an)) z_wn)))
  (snd_cons (z_whl w (z_cmpT z .gt (z_b (z_bi1 z .len 12 25 (call_len_data z.gx) (z_varb z 3 3))) (z_b snd_int))
  (snd_cons (z_unp (z_pop z (z_varb z 3 3)) (z_gt z (z_gc (z_gb z w 4 4) (z_gc (z_gb z w 5 5) (z_gc (z_gb z w 6 6) (z_gc (z_gb z w 7 7) z_g0))))))
  (snd_cons (snd_ite (z_cmpT z .eq (z_varb z 4 4) (z_b snd_str))
  (snd_cons (z_ex (z_extend z (z_varb z 2 2) (z_lst (z_ac (z_tup (z_ac (z_glb z 5 13) (z_ac (z_var z 6 6) z_an))) (z_ac (z_tup (z_ac (z_glb z 6 14) (z_ac (z_var z 5 5) z_an))) z_an)))))
  snd_nil)
  (snd_cons (snd_ite (snd_orW (z_cmpT z .eq (z_varb z 6 6) (z_b snd_int)) (pw_or1 (z_cmpT z .eq (z_varb z 7 7) (z_b snd_int)))).pt
  (snd_cons (z_ex (z_extend z (z_varb z 2 2) (z_call z 19 15 12 (z_ac (z_var z 5 5) (z_ac (z_var z 6 6) z_an)))))
  snd_nil)
  (snd_cons (z_asg z w 8 8 (z_idx z (z_b (z_call z 17 16 10 (z_ac (z_var z 6 6) (z_ac (z_var z 7 7) z_an)))) (snd_neg snd_int)))
  (snd_cons (z_ex (z_extend z (z_varb z 2 2) (z_bop z .add (z_b (z_bop z .mul (z_b (z_lst (z_ac (z_tup (z_ac (z_glb z 3 17) z_an)) z_an))) (z_varb z 8 8))) (z_b (z_lst (z_ac (z_tup (z_ac (z_glb z 4 18) z_an)) z_an))))))
  (snd_cons (z_ex (z_append z (z_varb z 3 3) (z_tup (z_ac snd_str (z_ac (z_var z 5 5) (z_ac (z_var z 8 8) (z_ac (z_var z 7 7) z_an)))))))
  (snd_cons (z_ex (z_append z (z_varb z 3 3) (z_tup (z_ac snd_str (z_ac (z_var z 5 5) (z_ac (z_bop z .add (z_varb z 5 5) (z_varb z 8 8)) (z_ac (z_var z 7 7) z_an)))))))
  (snd_cons (z_ex (z_append z (z_varb z 3 3) (z_tup (z_ac snd_str (z_ac (z_bop z .add (z_varb z 5 5) (z_varb z 8 8)) (z_ac (z_bop z .sub (z_varb z 6 6) (z_varb z 8 8)) (z_ac (z_bop z .sub (z_varb z 7 7) (z_b snd_int)) z_an)))))))
  snd_nil))))))
  snd_nil))
  snd_nil)))
  (snd_cons (snd_ret (z_bsT z .tuple 19 30 (call_tuple_data z.gx) (z_varb z 2 2)))
  snd_nil)))))
theorem so21 (z : Cz true G (lawK A) subT C W X nm21 sc21) (w : Bd X) : PSs X (C8.fnBody st21) (tSs G C subT W bd21) :=
  (snd_cons (z_own z w 2 2 (z_lst z_an))
  (snd_cons (z_asg z w 3 3 snd_int)
  (snd_cons (z_for z w (z_ie z (z_slc z (z_varb z 0 0) snd_po_none (snd_po_some snd_int))) (z_gb z w 4 4)
  (snd_cons (z_asg z w 5 5 (z_bi1 z .abs 7 19 call_abs_data (z_varb z 4 4)))
  (snd_cons (z_asg z w 3 3 (z_bop z .mod (z_b (z_biT1 z .int 8 23 call_int_data (z_b (z_bop z .add (z_b (z_bop z .add (z_b (z_bop z .mul (z_varb z 3 3) (z_b snd_int))) (z_varb z 5 5))) (z_b snd_int))))) (z_b snd_int)))
  (snd_cons (snd_ite (z_cmpT z .ge (z_varb z 5 5) (z_b (z_bop z .pow (z_b snd_int) (z_b snd_int))))
  (snd_cons (z_for z w (z_r1 z 9 27 snd_int) (z_gb z w 6 6)
  (snd_cons (snd_ite (z_cmpT z .gt (z_varb z 5 5) (z_b snd_int))
  (snd_cons (z_ex (z_append z (z_varb z 2 2) (z_bop z .mod (z_b (z_biT1 z .int 8 23 call_int_data (z_varb z 5 5))) (z_b snd_int))))
  (snd_cons (z_asg z w 5 5 (z_bop z .fdiv (z_varb z 5 5) (z_b snd_int)))
  snd_nil))
  snd_nil)
  snd_nil))
  snd_nil)
  (snd_cons (z_ex (z_append z (z_varb z 2 2) (z_bop z .mod (z_b (z_bop z .fdiv (z_b (z_biT1 z .int 8 23 call_int_data (z_b (z_bop z .add (z_b (z_bop z .mul (z_varb z 3 3) (z_b snd_int))) (z_b snd_int))))) (z_b snd_int))) (z_b snd_int))))
  snd_nil))
  snd_nil))))
  (snd_cons (z_for z w (z_r1 z 9 27 (z_var z 1 1)) (z_gb z w 6 6)
  (snd_cons (snd_ite (z_cmpT z .lt (z_b (z_bi1 z .len 10 25 (call_len_data z.gx) (z_varb z 2 2))) (z_varb z 1 1))
  (snd_cons (z_asg z w 3 3 (z_bop z .mod (z_b (z_biT1 z .int 8 23 call_int_data (z_b (z_bop z .add (z_b (z_bop z .add (z_b (z_bop z .mul (z_varb z 3 3) (z_b snd_int))) (z_varb z 6 6))) (z_b snd_int))))) (z_b snd_int)))
  (snd_cons (z_ex (z_append z (z_varb z 2 2) (z_bop z .mod (z_b (z_bop z .fdiv (z_b (z_biT1 z .int 8 23 call_int_data (z_varb z 3 3))) (z_b snd_int))) (z_b snd_int))))
  snd_nil))
  snd_nil)
  snd_nil))
  (snd_cons (snd_ret (z_slc z (z_varb z 2 2) snd_po_none (snd_po_some (z_var z 1 1))))
  snd_nil)))))
theorem so22 (z : Cz true G (lawK A) subT C W X nm22 sc22) (w : Bd X) : PSs X (C8.fnBody st22) (tSs G C subT W bd22) :=
  (snd_cons (snd_ret (z_bsT z .tuple 2 30 (call_tuple_data z.gx) (z_b (z_lc z [("move", 2)] (z_ce z (z_varb z 0 0)) (fun _ z q => (z_gn z 2 1)) (fun _ z => (snd_ife (z_cmpT z .eq (z_b (z_bi1 z .len 2 25 (call_len_data z.gx) (z_varb z 2 1))) (z_b snd_int)) (z_tup (z_ac (z_idx z (z_varb z 2 1) snd_int) (z_ac (z_bop z .add (z_b (z_idx z (z_varb z 2 1) snd_int)) (z_varb z 1 3)) z_an))) (z_var z 2 1)))))))
  snd_nil)
theorem so23 (z : Cz true G (lawK A) subT C W X nm23 sc23) (w : Bd X) : PSs X (C8.fnBody st23) (tSs G C subT W bd23) :=
  (snd_cons (z_asg z w 3 3 (z_bop z .add (z_b (z_bop z .mul (z_b (z_tup (z_ac (z_tup (z_ac snd_str z_an)) z_an))) (z_varb z 2 2))) (z_b (z_tup (z_ac (z_tup (z_ac snd_str z_an)) z_an)))))
  (snd_cons (snd_ret (z_bop z .add (z_b (z_bop z .add (z_b (z_bop z .add (z_b (z_bop z .add (z_varb z 3 3) (z_b (z_call z 22 4 15 (z_ac (z_call z 20 5 13 (z_ac (z_bop z .sub (z_varb z 0 0) (z_varb z 2 2)) (z_ac (z_bop z .sub (z_varb z 1 1) (z_b snd_int)) z_an))) (z_ac (z_var z 2 2) z_an)))))) (z_b (z_tup (z_ac (z_tup (z_ac snd_str (z_ac snd_int z_an))) z_an))))) (z_b (z_call z 24 6 17 (z_ac (z_var z 0 0) (z_ac (z_var z 1 1) (z_ac (z_var z 2 2) z_an))))))) (z_b (z_call z 20 5 13 (z_ac (z_var z 2 2) (z_ac (z_var z 1 1) z_an))))))
  snd_nil))
theorem so24 (z : Cz true G (lawK A) subT C W X nm24 sc24) (w : Bd X) : PSs X (C8.fnBody st24) (tSs G C subT W bd24) :=
  (snd_cons (z_asg z w 3 3 (z_lst (z_ac (z_var z 2 2) z_an)))
  (snd_cons (z_asg z w 4 4 (z_var z 2 2))
  (snd_cons (z_for z w (z_ie z (z_call z 22 6 15 (z_ac (z_call z 20 7 13 (z_ac (z_bop z .sub (z_varb z 0 0) (z_varb z 2 2)) (z_ac (z_bop z .sub (z_varb z 1 1) (z_b snd_int)) z_an))) (z_ac (z_var z 2 2) z_an)))) (z_gb z w 5 5)
  (snd_cons (snd_ite (z_cmpT z .eq (z_varb z 5 5) (z_b (z_tup (z_ac snd_str z_an))))
  (snd_cons (z_asg z w 3 3 (z_bop z .add (z_varb z 3 3) (z_b (z_lst (z_ac (z_var z 4 4) z_an)))))
  snd_nil)
  (snd_cons (snd_ite (z_cmpT z .eq (z_b (z_idx z (z_varb z 5 5) snd_int)) (z_b snd_str))
  (snd_cons (z_lciA z 3 3 [("one", 6)] (z_ce z (z_varb z 3 3)) (fun _ z q => (z_gn z 6 1)) (fun _ z => (z_cmpT z .ne (z_varb z 6 1) (z_b (z_idx z (z_varb z 5 2) snd_int)))) (fun _ z => (z_var z 6 1)))
  snd_nil)
  snd_nil)
  snd_nil))
  (snd_cons (z_asg z w 4 4 (snd_ife (z_cmpT z .eq (z_varb z 5 5) (z_b (z_tup (z_ac snd_str z_an)))) (z_bop z .add (z_varb z 4 4) (z_b snd_int)) (snd_ife (z_cmpT z .eq (z_b (z_idx z (z_varb z 5 5) snd_int)) (z_b snd_str)) (z_idx z (z_varb z 5 5) snd_int) (z_var z 4 4))))
  snd_nil)))
  (snd_cons (snd_ret (z_bsT z .tuple 8 30 (call_tuple_data z.gx) (z_b (z_lc z [("one", 6)] (z_ce z (z_varb z 3 3)) (fun _ z q => (z_gn z 6 1)) (fun _ z => (z_tup (z_ac snd_str (z_ac (z_var z 6 1) z_an))))))))
  snd_nil))))
theorem so25 (z : Cz true G (lawK A) subT C W X nm25 sc25) (w : Bd X) : PSs X (C8.fnBody st25) (tSs G C subT W bd25) :=
  (snd_cons (z_asg z w 1 1 (z_call z 21 11 14 (z_ac (z_var z 0 0) (z_ac snd_int z_an))))
  (snd_cons (z_for z w (z_r1 z 12 27 snd_int) (z_gb z w 2 2)
  (snd_cons (z_parN z (z_wc (z_bop z .add (z_b snd_int) (z_b (z_bop z .mod (z_b (z_biT1 z .int 13 23 call_int_data (z_b (z_idx z (z_varb z 1 1) (z_var z 2 2))))) (z_b (z_idx z (z_b (z_lst (z_ac snd_int (z_ac snd_int (z_ac snd_int z_an))))) (z_bop z .mod (z_varb z 2 2) (z_b snd_int))))))) (z_wc (z_bop z .add (z_b snd_int) (z_b (z_bop z .mod (z_b (z_biT1 z .int 13 23 call_int_data (z_b (z_idx z (z_varb z 1 1) (z_bop z .add (z_b snd_int) (z_varb z 2 2)))))) (z_b snd_int)))) z_wn)) (z_nc z w 3 3 (z_nc z w 4 4 z_n0)) (sw2c (.inl (z.look (j := 3) rfl))))
  (snd_cons (z_asg z w 5 5 (z_call z 16 14 9 (z_ac (z_var z 3 3) (z_ac (z_var z 4 4) z_an))))
  (snd_cons (z_asg z w 6 7 (z_bsT z .tuple 15 30 (call_tuple_data z.gx) (z_b (z_lci z [("state", 7)] (z_ci (z_r2 z 12 27 snd_int (z_var z 3 3))) (fun _ z q => (z_gn z 7 1)) (fun _ z => (z_cmpT z .eq (z_b (z_bop z .add (z_b (z_bop z .add (z_varb z 7 1) (z_b (z_call z 16 2 9 (z_ac (z_bop z .sub (z_varb z 3 4) (z_varb z 7 1)) (z_ac (z_bop z .sub (z_varb z 4 5) (z_b snd_int)) z_an)))))) (z_b (z_call z 16 2 9 (z_ac (z_var z 7 1) (z_ac (z_var z 4 5) z_an)))))) (z_varb z 5 3))) (fun _ z => (z_var z 7 1))))))
  (snd_cons (z_asg z w 8 8 (z_call z 18 16 11 (z_ac (z_var z 3 3) (z_ac (z_var z 4 4) z_an))))
  (snd_cons (snd_ite (snd_orW (z_cmpT z .ne (z_varb z 8 8) (z_varb z 6 7)) (snd_orW (z_cmpT z .eq (z_b (z_bi1 z .len 17 25 (call_len_data z.gx) (z_varb z 8 8))) (z_b snd_int)) (pw_or1 (z_cmpT z .ne (z_varb z 8 8) (z_b (z_tupRg2 z 15 30 12 27 (z_idx z (z_varb z 8 8) snd_int) (z_bop z .add (z_b (z_idx z (z_varb z 8 8) snd_int)) (z_b (z_bi1 z .len 17 25 (call_len_data z.gx) (z_varb z 8 8)))))))))).pt
  (snd_cons (snd_ret snd_bl)
  snd_nil)
  snd_nil)
  (snd_cons (z_for z w (z_r1 z 12 27 snd_int) (z_gb z w 9 9)
  (snd_cons (z_asg z w 7 6 (z_bop z .add (z_b snd_int) (z_b (z_bop z .mod (z_b (z_biT1 z .int 13 23 call_int_data (z_b (z_idx z (z_varb z 1 1) (z_bop z .add (z_b (z_bop z .add (z_b snd_int) (z_b (z_bop z .mul (z_b snd_int) (z_varb z 2 2))))) (z_varb z 9 9)))))) (z_b (z_bop z .sub (z_varb z 3 3) (z_b snd_int)))))))
  (snd_cons (z_asg z w 10 10 (z_call z 23 18 16 (z_ac (z_var z 3 3) (z_ac (z_var z 4 4) (z_ac (z_var z 7 6) z_an)))))
  (snd_cons (snd_ite (snd_orW (snd_notnT (z_b (z_call z 10 19 3 (z_ac (z_var z 3 3) (z_ac (z_var z 4 4) (z_ac (z_var z 10 10) z_an)))))) (snd_orW (z_cmpT z .ne (z_b (z_cmp z .eq (z_b (z_call z 12 20 5 (z_ac (z_var z 3 3) (z_ac (z_var z 4 4) (z_ac (z_var z 10 10) z_an))))) (z_varb z 5 5))) (z_b (z_cmp z .mem (z_varb z 7 6) (z_varb z 8 8)))) (pw_or1 (z_cmpT z .lt (z_b (z_call z 12 20 5 (z_ac (z_var z 3 3) (z_ac (z_var z 4 4) (z_ac (z_var z 10 10) z_an))))) (z_varb z 5 5))))).pt
  (snd_cons (snd_ret snd_bl)
  snd_nil)
  snd_nil)
  snd_nil))))
  (snd_cons (snd_ite (snd_orW (z_cmpT z .ne (z_b (z_call z 18 16 11 (z_ac (z_var z 3 3) (z_ac snd_int z_an)))) (z_b (z_tup z_an))) (pw_or1 (z_cmpT z .ne (z_b (z_call z 18 16 11 (z_ac snd_int (z_ac (z_var z 4 4) z_an)))) (z_b (z_tup z_an))))).pt
  (snd_cons (snd_ret snd_bl)
  snd_nil)
  snd_nil)
  snd_nil))))))))
  (snd_cons (snd_ret (snd_and (z_cmp z .eq (z_b (z_call z 18 16 11 (z_ac snd_int (z_ac snd_int z_an)))) (z_b (z_tup (z_ac snd_int z_an)))) (snd_and (z_cmp z .eq (z_b (z_call z 18 16 11 (z_ac snd_int (z_ac snd_int z_an)))) (z_b (z_tup (z_ac snd_int z_an)))) (pe_one (z_cmp z .eq (z_b (z_call z 18 16 11 (z_ac snd_int (z_ac snd_int z_an)))) (z_b (z_tup (z_ac snd_int (z_ac snd_int z_an)))))))))
  snd_nil)))
end
def rwT : Nat → Option Rw
  | 0 => some ⟨st0, nm0, ["value", "least", "most"], ⟨3, 3, bd0⟩, false⟩
  | 1 => some ⟨st1, nm1, ["many", "places"], ⟨2, 2, bd1⟩, false⟩
  | 2 => some ⟨st2, nm2, ["self", "many", "places"], ⟨3, 3, bd2⟩, true⟩
  | 3 => some ⟨st3, nm3, ["self"], ⟨1, 1, bd3⟩, true⟩
  | 4 => some ⟨st4, nm4, ["self"], ⟨1, 1, bd4⟩, true⟩
  | 5 => some ⟨st5, nm5, ["self", "state"], ⟨2, 2, bd5⟩, true⟩
  | 6 => some ⟨st6, nm6, ["self", "state"], ⟨2, 2, bd6⟩, true⟩
  | 7 => some ⟨st7, nm7, ["self"], ⟨1, 1, bd7⟩, true⟩
  | 8 => some ⟨st8, nm8, ["self", "move"], ⟨2, 2, bd8⟩, true⟩
  | 9 => some ⟨st9, nm9, ["many", "places", "plan"], ⟨3, 6, bd9⟩, false⟩
  | 10 => some ⟨st10, nm10, ["many", "places", "value"], ⟨3, 3, bd10⟩, false⟩
  | 11 => some ⟨st11, nm11, ["many", "places", "plan"], ⟨3, 5, bd11⟩, false⟩
  | 12 => some ⟨st12, nm12, ["many", "places", "plan"], ⟨3, 3, bd12⟩, false⟩
  | 13 => some ⟨st13, nm13, ["places", "times"], ⟨2, 2, bd13⟩, false⟩
  | 14 => some ⟨st14, nm14, ["many", "places"], ⟨2, 3, bd14⟩, false⟩
  | 15 => some ⟨st15, nm15, ["many", "places"], ⟨2, 3, bd15⟩, false⟩
  | 16 => some ⟨st16, nm16, ["many", "places"], ⟨2, 2, bd16⟩, false⟩
  | 17 => some ⟨st17, nm17, ["many", "places"], ⟨2, 5, bd17⟩, false⟩
  | 18 => some ⟨st18, nm18, ["many", "places"], ⟨2, 2, bd18⟩, false⟩
  | 19 => some ⟨st19, nm19, ["begin", "many"], ⟨2, 4, bd19⟩, false⟩
  | 20 => some ⟨st20, nm20, ["many", "places"], ⟨2, 9, bd20⟩, false⟩
  | 21 => some ⟨st21, nm21, ["script", "many"], ⟨2, 7, bd21⟩, false⟩
  | 22 => some ⟨st22, nm22, ["plan", "by"], ⟨2, 3, bd22⟩, false⟩
  | 23 => some ⟨st23, nm23, ["many", "places", "state"], ⟨3, 4, bd23⟩, false⟩
  | 24 => some ⟨st24, nm24, ["many", "places", "state"], ⟨3, 7, bd24⟩, false⟩
  | 25 => some ⟨st25, nm25, ["script"], ⟨1, 11, bd25⟩, false⟩
  | _ => none
def glT : Nat → Option D
  | 0 => some (.int 1000)
  | 1 => some (.tuple [(.str "form")])
  | 2 => some (.tuple [(.str "end")])
  | 3 => some (.str "step")
  | 4 => some (.str "keep")
  | 5 => some (.str "drop")
  | 6 => some (.str "take")
  | 7 => some (.str "undo")
  | 8 => some (.int 400)
  | _ => none
def methT : Nat → Nat → Option Nat
  | 4, 0 => some 6
  | 4, 1 => some 5
  | 4, 2 => some 3
  | 4, 3 => some 7
  | 4, 4 => some 4
  | 4, 5 => some 8
  | _, _ => none
def initT : Nat → Option Nat
  | 4 => some 2
  | _ => none
def foT : Nat → Nat → Bool
  | 4, 0 => true
  | 4, 1 => true
  | 4, 2 => true
  | 4, 3 => true
  | 4, 4 => true
  | _, _ => false
def fldAll : List Str := fldT_0
def fnmT (i : Nat) : Str := fldAll.getD i ""
theorem injT (i j : Nat) (hi : i < fldAll.length) (hj : j < fldAll.length) (h : fnmT i = fnmT j) : i = j := nodup_inj (by decide) hi hj h
def pgT (wf : Nat) : Pg := ⟨fnT, glT, methT, initT, foT, subT, wf⟩
def faT_0 : List He.Fa := [.glo "is_whole", .glo "check_numbers", .glo "walked_by", .glo "steps_fault", .glo "_times_by", .glo "steps_of", .glo "reach_by", .glo "times_by", .glo "fewest_by", .glo "fewest_steps", .glo "keeps_by", .glo "first_keeps", .glo "_lone_moves", .glo "best_plan", .glo "_law_draws", .glo "_law_moved", .glo "_law_by", .glo "_law_cleared", .glo "law", .free "abs", .free "bool", .free "enumerate", .free "int", .free "isinstance", .free "len"]
def faT_1 : List He.Fa := [.free "list", .free "range", .free "str", .free "sum", .free "tuple", .int "MOST_STEPS" 1000, .str "STEP" "step", .str "KEEP" "keep", .str "DROP" "drop", .str "TAKE" "take", .str "UNDO" "undo", .int "MOST_PLANNED" 400, .glo "Walk", .cls "Walk", .mkr "Walk", .meth "Walk" "take_state", .meth "Walk" "drop_state", .meth "Walk" "go_step", .meth "Walk" "undo_step", .meth "Walk" "keep_here", .meth "Walk" "make_move", .noat "Walk" "places", .noat "Walk" "left", .noat "Walk" "here", .noat "Walk" "kept"]
def faT_2 : List He.Fa := [.noat "Walk" "times", .glo "FORM", .glo "END", .glo "BadNumber", .exc "BadNumber", .glo "BadPlan", .exc "BadPlan", .glo "TooMany", .exc "TooMany", .exm "BadNumber" "BadNumber" true, .exm "BadNumber" "BadPlan" false, .exm "BadNumber" "TooMany" false, .exm "BadPlan" "BadNumber" false, .exm "BadPlan" "BadPlan" true, .exm "BadPlan" "TooMany" false, .exm "TooMany" "BadNumber" false, .exm "TooMany" "BadPlan" false, .exm "TooMany" "TooMany" true]
def faT : List He.Fa := faT_0 ++ faT_1 ++ faT_2
def dnT_0 : List He.DefD := [ddOf ("is_whole", none) "is_whole" "is_whole" st0, ddOf ("check_numbers", none) "check_numbers" "check_numbers" st1, ddOf ("Walk", some "__init__") "__init__" "Walk.__init__" st2, ddOf ("Walk", some "go_step") "go_step" "Walk.go_step" st3, ddOf ("Walk", some "keep_here") "keep_here" "Walk.keep_here" st4, ddOf ("Walk", some "drop_state") "drop_state" "Walk.drop_state" st5, ddOf ("Walk", some "take_state") "take_state" "Walk.take_state" st6, ddOf ("Walk", some "undo_step") "undo_step" "Walk.undo_step" st7, ddOf ("Walk", some "make_move") "make_move" "Walk.make_move" st8, ddOf ("walked_by", none) "walked_by" "walked_by" st9, ddOf ("steps_fault", none) "steps_fault" "steps_fault" st10, ddOf ("_times_by", none) "_times_by" "_times_by" st11, ddOf ("steps_of", none) "steps_of" "steps_of" st12, ddOf ("reach_by", none) "reach_by" "reach_by" st13, ddOf ("times_by", none) "times_by" "times_by" st14, ddOf ("fewest_by", none) "fewest_by" "fewest_by" st15, ddOf ("fewest_steps", none) "fewest_steps" "fewest_steps" st16, ddOf ("keeps_by", none) "keeps_by" "keeps_by" st17, ddOf ("first_keeps", none) "first_keeps" "first_keeps" st18, ddOf ("_lone_moves", none) "_lone_moves" "_lone_moves" st19, ddOf ("best_plan", none) "best_plan" "best_plan" st20, ddOf ("_law_draws", none) "_law_draws" "_law_draws" st21, ddOf ("_law_moved", none) "_law_moved" "_law_moved" st22, ddOf ("_law_by", none) "_law_by" "_law_by" st23, ddOf ("_law_cleared", none) "_law_cleared" "_law_cleared" st24]
def dnT_1 : List He.DefD := [ddOf ("law", none) "law" "law" st25]
def dnT : List He.DefD := dnT_0 ++ dnT_1
def lkL (K : PySem.W.Frag) : List Bool := [isB K "comb" "math.comb", He.tupB K "FORM" [.str "form"], He.tupB K "END" [.str "end"]]
def exT (K : PySem.W.Frag) : Bool := (lkL K).all id
abbrev rT : PySem.W.OpenRow := PySem.W.OpenLaw.row PySem.Challenge.rw_fewplaces_k45_main_what_to_keep_next
abbrev hkT : PySem.W.Hook := hookM 5 faT dnT exT
def looT_0 : List Str := ["PlaceError", "BadPlan", "TooMany", "BadNumber", "is_whole", "MOST_STEPS", "FORM", "END", "STEP", "KEEP", "DROP", "TAKE", "UNDO", "check_numbers", "Walk", "walked_by", "steps_fault", "_times_by", "steps_of", "MOST_PLANNED", "reach_by", "times_by", "fewest_by", "fewest_steps", "keeps_by"]
def looT_1 : List Str := ["first_keeps", "_lone_moves", "best_plan", "_law_draws", "_law_moved", "_law_by", "_law_cleared"]
def looT : List Str := looT_0 ++ looT_1
abbrev qvT : Program := PySem.W.view rT.prog [0, 38]
def obT (s : PySem.W.SharedT) : AlM := obsM 5 faT dnT exT (HandSHeadRun.getT s)
theorem obT_eq (s : PySem.W.SharedT) : obT s = hkT.obs s.abs := obsM_eq (HandSHeadRun.getT_eq s)
end Lw

set_option autoImplicit false
set_option linter.all false
set_option Elab.async false
set_option maxRecDepth 100000
set_option maxHeartbeats 4000000
namespace Lw
open PySem PySem.Spec PyProof.Rows L2
open Gt
theorem run_f (w : World) : HandSHeadRun.RunEqI rT qvT hkT obT 20000 looT (w.withFollow "special-get-raises" false) := by
  delta HandSHeadRun.RunEqI
  kernel_rfl
theorem run_t (w : World) : HandSHeadRun.RunEqI rT qvT hkT obT 20000 looT (w.withFollow "special-get-raises" true) := by
  delta HandSHeadRun.RunEqI
  kernel_rfl
theorem run_a (w : World) : HandSHeadRun.RunEqI rT qvT hkT obT 20000 looT w := PySem.W.byRow2 "special-get-raises" (P := fun w => HandSHeadRun.RunEqI rT qvT hkT obT 20000 looT w) run_f run_t w
def adT (K : PySem.W.Frag) : Nat → Addr
  | 0 => He.fAd K ("is_whole", none)
  | 1 => He.fAd K ("check_numbers", none)
  | 2 => He.fAd K ("Walk", some "__init__")
  | 3 => He.fAd K ("Walk", some "go_step")
  | 4 => He.fAd K ("Walk", some "keep_here")
  | 5 => He.fAd K ("Walk", some "drop_state")
  | 6 => He.fAd K ("Walk", some "take_state")
  | 7 => He.fAd K ("Walk", some "undo_step")
  | 8 => He.fAd K ("Walk", some "make_move")
  | 9 => He.fAd K ("walked_by", none)
  | 10 => He.fAd K ("steps_fault", none)
  | 11 => He.fAd K ("_times_by", none)
  | 12 => He.fAd K ("steps_of", none)
  | 13 => He.fAd K ("reach_by", none)
  | 14 => He.fAd K ("times_by", none)
  | 15 => He.fAd K ("fewest_by", none)
  | 16 => He.fAd K ("fewest_steps", none)
  | 17 => He.fAd K ("keeps_by", none)
  | 18 => He.fAd K ("first_keeps", none)
  | 19 => He.fAd K ("_lone_moves", none)
  | 20 => He.fAd K ("best_plan", none)
  | 21 => He.fAd K ("_law_draws", none)
  | 22 => He.fAd K ("_law_moved", none)
  | 23 => He.fAd K ("_law_by", none)
  | 24 => He.fAd K ("_law_cleared", none)
  | 25 => He.fAd K ("law", none)
  | _ => 0
theorem bn0 (kV doc pm : Value) (an : Option Addr) (cdv ct : Value) (us : List Value) (hl : us.length = 3) : bindArgs (PySem.W.fnOf "is_whole" "is_whole" (C8.fnArgs st0) (C8.fnBody st0) (C8.fnScope st0) .none kV doc pm an cdv ct) ⟨us, []⟩ = pure ((["value", "least", "most"] : List Str).zip us) := match us, hl with | [_, _, _], _ => rfl
theorem bn1 (kV doc pm : Value) (an : Option Addr) (cdv ct : Value) (us : List Value) (hl : us.length = 2) : bindArgs (PySem.W.fnOf "check_numbers" "check_numbers" (C8.fnArgs st1) (C8.fnBody st1) (C8.fnScope st1) .none kV doc pm an cdv ct) ⟨us, []⟩ = pure ((["many", "places"] : List Str).zip us) := match us, hl with | [_, _], _ => rfl
theorem bn2 (kV doc pm : Value) (an : Option Addr) (cdv ct : Value) (us : List Value) (hl : us.length = 3) : bindArgs (PySem.W.fnOf "__init__" "Walk.__init__" (C8.fnArgs st2) (C8.fnBody st2) (C8.fnScope st2) .none kV doc pm an cdv ct) ⟨us, []⟩ = pure ((["self", "many", "places"] : List Str).zip us) := match us, hl with | [_, _, _], _ => rfl
theorem bn3 (kV doc pm : Value) (an : Option Addr) (cdv ct : Value) (us : List Value) (hl : us.length = 1) : bindArgs (PySem.W.fnOf "go_step" "Walk.go_step" (C8.fnArgs st3) (C8.fnBody st3) (C8.fnScope st3) .none kV doc pm an cdv ct) ⟨us, []⟩ = pure ((["self"] : List Str).zip us) := match us, hl with | [_], _ => rfl
theorem bn4 (kV doc pm : Value) (an : Option Addr) (cdv ct : Value) (us : List Value) (hl : us.length = 1) : bindArgs (PySem.W.fnOf "keep_here" "Walk.keep_here" (C8.fnArgs st4) (C8.fnBody st4) (C8.fnScope st4) .none kV doc pm an cdv ct) ⟨us, []⟩ = pure ((["self"] : List Str).zip us) := match us, hl with | [_], _ => rfl
theorem bn5 (kV doc pm : Value) (an : Option Addr) (cdv ct : Value) (us : List Value) (hl : us.length = 2) : bindArgs (PySem.W.fnOf "drop_state" "Walk.drop_state" (C8.fnArgs st5) (C8.fnBody st5) (C8.fnScope st5) .none kV doc pm an cdv ct) ⟨us, []⟩ = pure ((["self", "state"] : List Str).zip us) := match us, hl with | [_, _], _ => rfl
theorem bn6 (kV doc pm : Value) (an : Option Addr) (cdv ct : Value) (us : List Value) (hl : us.length = 2) : bindArgs (PySem.W.fnOf "take_state" "Walk.take_state" (C8.fnArgs st6) (C8.fnBody st6) (C8.fnScope st6) .none kV doc pm an cdv ct) ⟨us, []⟩ = pure ((["self", "state"] : List Str).zip us) := match us, hl with | [_, _], _ => rfl
theorem bn7 (kV doc pm : Value) (an : Option Addr) (cdv ct : Value) (us : List Value) (hl : us.length = 1) : bindArgs (PySem.W.fnOf "undo_step" "Walk.undo_step" (C8.fnArgs st7) (C8.fnBody st7) (C8.fnScope st7) .none kV doc pm an cdv ct) ⟨us, []⟩ = pure ((["self"] : List Str).zip us) := match us, hl with | [_], _ => rfl
theorem bn8 (kV doc pm : Value) (an : Option Addr) (cdv ct : Value) (us : List Value) (hl : us.length = 2) : bindArgs (PySem.W.fnOf "make_move" "Walk.make_move" (C8.fnArgs st8) (C8.fnBody st8) (C8.fnScope st8) .none kV doc pm an cdv ct) ⟨us, []⟩ = pure ((["self", "move"] : List Str).zip us) := match us, hl with | [_, _], _ => rfl
theorem bn9 (kV doc pm : Value) (an : Option Addr) (cdv ct : Value) (us : List Value) (hl : us.length = 3) : bindArgs (PySem.W.fnOf "walked_by" "walked_by" (C8.fnArgs st9) (C8.fnBody st9) (C8.fnScope st9) .none kV doc pm an cdv ct) ⟨us, []⟩ = pure ((["many", "places", "plan"] : List Str).zip us) := match us, hl with | [_, _, _], _ => rfl
theorem bn10 (kV doc pm : Value) (an : Option Addr) (cdv ct : Value) (us : List Value) (hl : us.length = 3) : bindArgs (PySem.W.fnOf "steps_fault" "steps_fault" (C8.fnArgs st10) (C8.fnBody st10) (C8.fnScope st10) .none kV doc pm an cdv ct) ⟨us, []⟩ = pure ((["many", "places", "value"] : List Str).zip us) := match us, hl with | [_, _, _], _ => rfl
theorem bn11 (kV doc pm : Value) (an : Option Addr) (cdv ct : Value) (us : List Value) (hl : us.length = 3) : bindArgs (PySem.W.fnOf "_times_by" "_times_by" (C8.fnArgs st11) (C8.fnBody st11) (C8.fnScope st11) .none kV doc pm an cdv ct) ⟨us, []⟩ = pure ((["many", "places", "plan"] : List Str).zip us) := match us, hl with | [_, _, _], _ => rfl
theorem bn12 (kV doc pm : Value) (an : Option Addr) (cdv ct : Value) (us : List Value) (hl : us.length = 3) : bindArgs (PySem.W.fnOf "steps_of" "steps_of" (C8.fnArgs st12) (C8.fnBody st12) (C8.fnScope st12) .none kV doc pm an cdv ct) ⟨us, []⟩ = pure ((["many", "places", "plan"] : List Str).zip us) := match us, hl with | [_, _, _], _ => rfl
theorem bn13 (kV doc pm : Value) (an : Option Addr) (cdv ct : Value) (us : List Value) (hl : us.length = 2) : bindArgs (PySem.W.fnOf "reach_by" "reach_by" (C8.fnArgs st13) (C8.fnBody st13) (C8.fnScope st13) .none kV doc pm an cdv ct) ⟨us, []⟩ = pure ((["places", "times"] : List Str).zip us) := match us, hl with | [_, _], _ => rfl
theorem bn14 (kV doc pm : Value) (an : Option Addr) (cdv ct : Value) (us : List Value) (hl : us.length = 2) : bindArgs (PySem.W.fnOf "times_by" "times_by" (C8.fnArgs st14) (C8.fnBody st14) (C8.fnScope st14) .none kV doc pm an cdv ct) ⟨us, []⟩ = pure ((["many", "places"] : List Str).zip us) := match us, hl with | [_, _], _ => rfl
theorem bn15 (kV doc pm : Value) (an : Option Addr) (cdv ct : Value) (us : List Value) (hl : us.length = 2) : bindArgs (PySem.W.fnOf "fewest_by" "fewest_by" (C8.fnArgs st15) (C8.fnBody st15) (C8.fnScope st15) .none kV doc pm an cdv ct) ⟨us, []⟩ = pure ((["many", "places"] : List Str).zip us) := match us, hl with | [_, _], _ => rfl
theorem bn16 (kV doc pm : Value) (an : Option Addr) (cdv ct : Value) (us : List Value) (hl : us.length = 2) : bindArgs (PySem.W.fnOf "fewest_steps" "fewest_steps" (C8.fnArgs st16) (C8.fnBody st16) (C8.fnScope st16) .none kV doc pm an cdv ct) ⟨us, []⟩ = pure ((["many", "places"] : List Str).zip us) := match us, hl with | [_, _], _ => rfl
theorem bn17 (kV doc pm : Value) (an : Option Addr) (cdv ct : Value) (us : List Value) (hl : us.length = 2) : bindArgs (PySem.W.fnOf "keeps_by" "keeps_by" (C8.fnArgs st17) (C8.fnBody st17) (C8.fnScope st17) .none kV doc pm an cdv ct) ⟨us, []⟩ = pure ((["many", "places"] : List Str).zip us) := match us, hl with | [_, _], _ => rfl
theorem bn18 (kV doc pm : Value) (an : Option Addr) (cdv ct : Value) (us : List Value) (hl : us.length = 2) : bindArgs (PySem.W.fnOf "first_keeps" "first_keeps" (C8.fnArgs st18) (C8.fnBody st18) (C8.fnScope st18) .none kV doc pm an cdv ct) ⟨us, []⟩ = pure ((["many", "places"] : List Str).zip us) := match us, hl with | [_, _], _ => rfl
theorem bn19 (kV doc pm : Value) (an : Option Addr) (cdv ct : Value) (us : List Value) (hl : us.length = 2) : bindArgs (PySem.W.fnOf "_lone_moves" "_lone_moves" (C8.fnArgs st19) (C8.fnBody st19) (C8.fnScope st19) .none kV doc pm an cdv ct) ⟨us, []⟩ = pure ((["begin", "many"] : List Str).zip us) := match us, hl with | [_, _], _ => rfl
theorem bn20 (kV doc pm : Value) (an : Option Addr) (cdv ct : Value) (us : List Value) (hl : us.length = 2) : bindArgs (PySem.W.fnOf "best_plan" "best_plan" (C8.fnArgs st20) (C8.fnBody st20) (C8.fnScope st20) .none kV doc pm an cdv ct) ⟨us, []⟩ = pure ((["many", "places"] : List Str).zip us) := match us, hl with | [_, _], _ => rfl
theorem bn21 (kV doc pm : Value) (an : Option Addr) (cdv ct : Value) (us : List Value) (hl : us.length = 2) : bindArgs (PySem.W.fnOf "_law_draws" "_law_draws" (C8.fnArgs st21) (C8.fnBody st21) (C8.fnScope st21) .none kV doc pm an cdv ct) ⟨us, []⟩ = pure ((["script", "many"] : List Str).zip us) := match us, hl with | [_, _], _ => rfl
theorem bn22 (kV doc pm : Value) (an : Option Addr) (cdv ct : Value) (us : List Value) (hl : us.length = 2) : bindArgs (PySem.W.fnOf "_law_moved" "_law_moved" (C8.fnArgs st22) (C8.fnBody st22) (C8.fnScope st22) .none kV doc pm an cdv ct) ⟨us, []⟩ = pure ((["plan", "by"] : List Str).zip us) := match us, hl with | [_, _], _ => rfl
theorem bn23 (kV doc pm : Value) (an : Option Addr) (cdv ct : Value) (us : List Value) (hl : us.length = 3) : bindArgs (PySem.W.fnOf "_law_by" "_law_by" (C8.fnArgs st23) (C8.fnBody st23) (C8.fnScope st23) .none kV doc pm an cdv ct) ⟨us, []⟩ = pure ((["many", "places", "state"] : List Str).zip us) := match us, hl with | [_, _, _], _ => rfl
theorem bn24 (kV doc pm : Value) (an : Option Addr) (cdv ct : Value) (us : List Value) (hl : us.length = 3) : bindArgs (PySem.W.fnOf "_law_cleared" "_law_cleared" (C8.fnArgs st24) (C8.fnBody st24) (C8.fnScope st24) .none kV doc pm an cdv ct) ⟨us, []⟩ = pure ((["many", "places", "state"] : List Str).zip us) := match us, hl with | [_, _, _], _ => rfl
theorem bn25 (kV doc pm : Value) (an : Option Addr) (cdv ct : Value) (us : List Value) (hl : us.length = 1) : bindArgs (PySem.W.fnOf "law" "law" (C8.fnArgs st25) (C8.fnBody st25) (C8.fnScope st25) .none kV doc pm an cdv ct) ⟨us, []⟩ = pure ((["script"] : List Str).zip us) := match us, hl with | [_], _ => rfl
def caT (K : PySem.W.Frag) : Nat → Addr
  | 3 => He.ga K "BadNumber"
  | 1 => He.ga K "BadPlan"
  | 2 => He.ga K "TooMany"
  | 4 => He.ga K "Walk"
  | _ => 0
theorem subT_c {c : Nat} (h : subT c c = true) : c = 3 ∨ c = 1 ∨ c = 2 := by
  unfold subT at h
  split at h <;> simp_all
theorem foT_inv {c y : Nat} (h : foT c y = true) : (c = 4 ∧ y = 0) ∨ (c = 4 ∧ y = 1) ∨ (c = 4 ∧ y = 2) ∨ (c = 4 ∧ y = 3) ∨ (c = 4 ∧ y = 4) := by
  unfold foT at h
  split at h <;> simp_all
theorem methT_inv {c m f : Nat} (h : methT c m = some f) : (c = 4 ∧ m = 0 ∧ f = 6) ∨ (c = 4 ∧ m = 1 ∧ f = 5) ∨ (c = 4 ∧ m = 2 ∧ f = 3) ∨ (c = 4 ∧ m = 3 ∧ f = 7) ∨ (c = 4 ∧ m = 4 ∧ f = 4) ∨ (c = 4 ∧ m = 5 ∧ f = 8) := by
  unfold methT at h
  split at h <;> simp_all
theorem all_of {prog : Program} {w : World} {K : PySem.W.Frag} {h : Heap} {mg : Str → Option Value} {wf : Nat} (X : K.In h) (N : h.Ns mainGlobals mg) (c : SaysM faT dnT exT K) :
    All ⟨prog, w, K, caT K, fnmT, fldAll.length, injT⟩ (lawK (adT K)) (pgT wf) mg := by
  refine ⟨fun f a n b hf => ?_, fun i x u hi => ?_, fun g x d hg => ?_, fun i x k hi => ?_, fun k j hk hj => ?_, fun k hk => ?_, fun i f hi => fn_at hi, fun k y hk => ?_, fun m mn n hm => ?_, fun i x k f n hi => ?_⟩
  · match f with
    | 0 =>
      cases hf
      obtain ⟨fd, F⟩ := c.d.def_ 0 (d := ddOf ("is_whole", none) "is_whole" "is_whole" st0) rfl
      exact ⟨⟨st0, nm0, ["value", "least", "most"], ⟨3, 3, bd0⟩, false⟩, rfl, rfl, rfl, rwOk_of (G := ⟨prog, w, K, caT K, fnmT, fldAll.length, injT⟩) (r := ⟨st0, nm0, ["value", "least", "most"], ⟨3, 3, bd0⟩, false⟩) (at_ := ("is_whole", none)) F bn0 (by decide +kernel) fun C W X z w => so0 z w⟩
    | 1 =>
      cases hf
      obtain ⟨fd, F⟩ := c.d.def_ 1 (d := ddOf ("check_numbers", none) "check_numbers" "check_numbers" st1) rfl
      exact ⟨⟨st1, nm1, ["many", "places"], ⟨2, 2, bd1⟩, false⟩, rfl, rfl, rfl, rwOk_of (G := ⟨prog, w, K, caT K, fnmT, fldAll.length, injT⟩) (r := ⟨st1, nm1, ["many", "places"], ⟨2, 2, bd1⟩, false⟩) (at_ := ("check_numbers", none)) F bn1 (by decide +kernel) fun C W X z w => so1 z w⟩
    | 2 =>
      cases hf
      obtain ⟨fd, F⟩ := c.d.def_ 2 (d := ddOf ("Walk", some "__init__") "__init__" "Walk.__init__" st2) rfl
      exact ⟨⟨st2, nm2, ["self", "many", "places"], ⟨3, 3, bd2⟩, true⟩, rfl, rfl, rfl, rwOk_of (G := ⟨prog, w, K, caT K, fnmT, fldAll.length, injT⟩) (r := ⟨st2, nm2, ["self", "many", "places"], ⟨3, 3, bd2⟩, true⟩) (at_ := ("Walk", some "__init__")) F bn2 (by decide +kernel) fun C W X z w => so2 z w⟩
    | 3 =>
      cases hf
      obtain ⟨fd, F⟩ := c.d.def_ 3 (d := ddOf ("Walk", some "go_step") "go_step" "Walk.go_step" st3) rfl
      exact ⟨⟨st3, nm3, ["self"], ⟨1, 1, bd3⟩, true⟩, rfl, rfl, rfl, rwOk_of (G := ⟨prog, w, K, caT K, fnmT, fldAll.length, injT⟩) (r := ⟨st3, nm3, ["self"], ⟨1, 1, bd3⟩, true⟩) (at_ := ("Walk", some "go_step")) F bn3 (by decide +kernel) fun C W X z w => so3 z w⟩
    | 4 =>
      cases hf
      obtain ⟨fd, F⟩ := c.d.def_ 4 (d := ddOf ("Walk", some "keep_here") "keep_here" "Walk.keep_here" st4) rfl
      exact ⟨⟨st4, nm4, ["self"], ⟨1, 1, bd4⟩, true⟩, rfl, rfl, rfl, rwOk_of (G := ⟨prog, w, K, caT K, fnmT, fldAll.length, injT⟩) (r := ⟨st4, nm4, ["self"], ⟨1, 1, bd4⟩, true⟩) (at_ := ("Walk", some "keep_here")) F bn4 (by decide +kernel) fun C W X z w => so4 z w⟩
    | 5 =>
      cases hf
      obtain ⟨fd, F⟩ := c.d.def_ 5 (d := ddOf ("Walk", some "drop_state") "drop_state" "Walk.drop_state" st5) rfl
      exact ⟨⟨st5, nm5, ["self", "state"], ⟨2, 2, bd5⟩, true⟩, rfl, rfl, rfl, rwOk_of (G := ⟨prog, w, K, caT K, fnmT, fldAll.length, injT⟩) (r := ⟨st5, nm5, ["self", "state"], ⟨2, 2, bd5⟩, true⟩) (at_ := ("Walk", some "drop_state")) F bn5 (by decide +kernel) fun C W X z w => so5 z w⟩
    | 6 =>
      cases hf
      obtain ⟨fd, F⟩ := c.d.def_ 6 (d := ddOf ("Walk", some "take_state") "take_state" "Walk.take_state" st6) rfl
      exact ⟨⟨st6, nm6, ["self", "state"], ⟨2, 2, bd6⟩, true⟩, rfl, rfl, rfl, rwOk_of (G := ⟨prog, w, K, caT K, fnmT, fldAll.length, injT⟩) (r := ⟨st6, nm6, ["self", "state"], ⟨2, 2, bd6⟩, true⟩) (at_ := ("Walk", some "take_state")) F bn6 (by decide +kernel) fun C W X z w => so6 z w⟩
    | 7 =>
      cases hf
      obtain ⟨fd, F⟩ := c.d.def_ 7 (d := ddOf ("Walk", some "undo_step") "undo_step" "Walk.undo_step" st7) rfl
      exact ⟨⟨st7, nm7, ["self"], ⟨1, 1, bd7⟩, true⟩, rfl, rfl, rfl, rwOk_of (G := ⟨prog, w, K, caT K, fnmT, fldAll.length, injT⟩) (r := ⟨st7, nm7, ["self"], ⟨1, 1, bd7⟩, true⟩) (at_ := ("Walk", some "undo_step")) F bn7 (by decide +kernel) fun C W X z w => so7 z w⟩
    | 8 =>
      cases hf
      obtain ⟨fd, F⟩ := c.d.def_ 8 (d := ddOf ("Walk", some "make_move") "make_move" "Walk.make_move" st8) rfl
      exact ⟨⟨st8, nm8, ["self", "move"], ⟨2, 2, bd8⟩, true⟩, rfl, rfl, rfl, rwOk_of (G := ⟨prog, w, K, caT K, fnmT, fldAll.length, injT⟩) (r := ⟨st8, nm8, ["self", "move"], ⟨2, 2, bd8⟩, true⟩) (at_ := ("Walk", some "make_move")) F bn8 (by decide +kernel) fun C W X z w => so8 z w⟩
    | 9 =>
      cases hf
      obtain ⟨fd, F⟩ := c.d.def_ 9 (d := ddOf ("walked_by", none) "walked_by" "walked_by" st9) rfl
      exact ⟨⟨st9, nm9, ["many", "places", "plan"], ⟨3, 6, bd9⟩, false⟩, rfl, rfl, rfl, rwOk_of (G := ⟨prog, w, K, caT K, fnmT, fldAll.length, injT⟩) (r := ⟨st9, nm9, ["many", "places", "plan"], ⟨3, 6, bd9⟩, false⟩) (at_ := ("walked_by", none)) F bn9 (by decide +kernel) fun C W X z w => so9 z w⟩
    | 10 =>
      cases hf
      obtain ⟨fd, F⟩ := c.d.def_ 10 (d := ddOf ("steps_fault", none) "steps_fault" "steps_fault" st10) rfl
      exact ⟨⟨st10, nm10, ["many", "places", "value"], ⟨3, 3, bd10⟩, false⟩, rfl, rfl, rfl, rwOk_of (G := ⟨prog, w, K, caT K, fnmT, fldAll.length, injT⟩) (r := ⟨st10, nm10, ["many", "places", "value"], ⟨3, 3, bd10⟩, false⟩) (at_ := ("steps_fault", none)) F bn10 (by decide +kernel) fun C W X z w => so10 z w⟩
    | 11 =>
      cases hf
      obtain ⟨fd, F⟩ := c.d.def_ 11 (d := ddOf ("_times_by", none) "_times_by" "_times_by" st11) rfl
      exact ⟨⟨st11, nm11, ["many", "places", "plan"], ⟨3, 5, bd11⟩, false⟩, rfl, rfl, rfl, rwOk_of (G := ⟨prog, w, K, caT K, fnmT, fldAll.length, injT⟩) (r := ⟨st11, nm11, ["many", "places", "plan"], ⟨3, 5, bd11⟩, false⟩) (at_ := ("_times_by", none)) F bn11 (by decide +kernel) fun C W X z w => so11 z w⟩
    | 12 =>
      cases hf
      obtain ⟨fd, F⟩ := c.d.def_ 12 (d := ddOf ("steps_of", none) "steps_of" "steps_of" st12) rfl
      exact ⟨⟨st12, nm12, ["many", "places", "plan"], ⟨3, 3, bd12⟩, false⟩, rfl, rfl, rfl, rwOk_of (G := ⟨prog, w, K, caT K, fnmT, fldAll.length, injT⟩) (r := ⟨st12, nm12, ["many", "places", "plan"], ⟨3, 3, bd12⟩, false⟩) (at_ := ("steps_of", none)) F bn12 (by decide +kernel) fun C W X z w => so12 z w⟩
    | 13 =>
      cases hf
      obtain ⟨fd, F⟩ := c.d.def_ 13 (d := ddOf ("reach_by", none) "reach_by" "reach_by" st13) rfl
      exact ⟨⟨st13, nm13, ["places", "times"], ⟨2, 2, bd13⟩, false⟩, rfl, rfl, rfl, rwOk_of (G := ⟨prog, w, K, caT K, fnmT, fldAll.length, injT⟩) (r := ⟨st13, nm13, ["places", "times"], ⟨2, 2, bd13⟩, false⟩) (at_ := ("reach_by", none)) F bn13 (by decide +kernel) fun C W X z w => so13 z w⟩
    | 14 =>
      cases hf
      obtain ⟨fd, F⟩ := c.d.def_ 14 (d := ddOf ("times_by", none) "times_by" "times_by" st14) rfl
      exact ⟨⟨st14, nm14, ["many", "places"], ⟨2, 3, bd14⟩, false⟩, rfl, rfl, rfl, rwOk_of (G := ⟨prog, w, K, caT K, fnmT, fldAll.length, injT⟩) (r := ⟨st14, nm14, ["many", "places"], ⟨2, 3, bd14⟩, false⟩) (at_ := ("times_by", none)) F bn14 (by decide +kernel) fun C W X z w => so14 z w⟩
    | 15 =>
      cases hf
      obtain ⟨fd, F⟩ := c.d.def_ 15 (d := ddOf ("fewest_by", none) "fewest_by" "fewest_by" st15) rfl
      exact ⟨⟨st15, nm15, ["many", "places"], ⟨2, 3, bd15⟩, false⟩, rfl, rfl, rfl, rwOk_of (G := ⟨prog, w, K, caT K, fnmT, fldAll.length, injT⟩) (r := ⟨st15, nm15, ["many", "places"], ⟨2, 3, bd15⟩, false⟩) (at_ := ("fewest_by", none)) F bn15 (by decide +kernel) fun C W X z w => so15 z w⟩
    | 16 =>
      cases hf
      obtain ⟨fd, F⟩ := c.d.def_ 16 (d := ddOf ("fewest_steps", none) "fewest_steps" "fewest_steps" st16) rfl
      exact ⟨⟨st16, nm16, ["many", "places"], ⟨2, 2, bd16⟩, false⟩, rfl, rfl, rfl, rwOk_of (G := ⟨prog, w, K, caT K, fnmT, fldAll.length, injT⟩) (r := ⟨st16, nm16, ["many", "places"], ⟨2, 2, bd16⟩, false⟩) (at_ := ("fewest_steps", none)) F bn16 (by decide +kernel) fun C W X z w => so16 z w⟩
    | 17 =>
      cases hf
      obtain ⟨fd, F⟩ := c.d.def_ 17 (d := ddOf ("keeps_by", none) "keeps_by" "keeps_by" st17) rfl
      exact ⟨⟨st17, nm17, ["many", "places"], ⟨2, 5, bd17⟩, false⟩, rfl, rfl, rfl, rwOk_of (G := ⟨prog, w, K, caT K, fnmT, fldAll.length, injT⟩) (r := ⟨st17, nm17, ["many", "places"], ⟨2, 5, bd17⟩, false⟩) (at_ := ("keeps_by", none)) F bn17 (by decide +kernel) fun C W X z w => so17 z w⟩
    | 18 =>
      cases hf
      obtain ⟨fd, F⟩ := c.d.def_ 18 (d := ddOf ("first_keeps", none) "first_keeps" "first_keeps" st18) rfl
      exact ⟨⟨st18, nm18, ["many", "places"], ⟨2, 2, bd18⟩, false⟩, rfl, rfl, rfl, rwOk_of (G := ⟨prog, w, K, caT K, fnmT, fldAll.length, injT⟩) (r := ⟨st18, nm18, ["many", "places"], ⟨2, 2, bd18⟩, false⟩) (at_ := ("first_keeps", none)) F bn18 (by decide +kernel) fun C W X z w => so18 z w⟩
    | 19 =>
      cases hf
      obtain ⟨fd, F⟩ := c.d.def_ 19 (d := ddOf ("_lone_moves", none) "_lone_moves" "_lone_moves" st19) rfl
      exact ⟨⟨st19, nm19, ["begin", "many"], ⟨2, 4, bd19⟩, false⟩, rfl, rfl, rfl, rwOk_of (G := ⟨prog, w, K, caT K, fnmT, fldAll.length, injT⟩) (r := ⟨st19, nm19, ["begin", "many"], ⟨2, 4, bd19⟩, false⟩) (at_ := ("_lone_moves", none)) F bn19 (by decide +kernel) fun C W X z w => so19 z w⟩
    | 20 =>
      cases hf
      obtain ⟨fd, F⟩ := c.d.def_ 20 (d := ddOf ("best_plan", none) "best_plan" "best_plan" st20) rfl
      exact ⟨⟨st20, nm20, ["many", "places"], ⟨2, 9, bd20⟩, false⟩, rfl, rfl, rfl, rwOk_of (G := ⟨prog, w, K, caT K, fnmT, fldAll.length, injT⟩) (r := ⟨st20, nm20, ["many", "places"], ⟨2, 9, bd20⟩, false⟩) (at_ := ("best_plan", none)) F bn20 (by decide +kernel) fun C W X z w => so20 z w⟩
    | 21 =>
      cases hf
      obtain ⟨fd, F⟩ := c.d.def_ 21 (d := ddOf ("_law_draws", none) "_law_draws" "_law_draws" st21) rfl
      exact ⟨⟨st21, nm21, ["script", "many"], ⟨2, 7, bd21⟩, false⟩, rfl, rfl, rfl, rwOk_of (G := ⟨prog, w, K, caT K, fnmT, fldAll.length, injT⟩) (r := ⟨st21, nm21, ["script", "many"], ⟨2, 7, bd21⟩, false⟩) (at_ := ("_law_draws", none)) F bn21 (by decide +kernel) fun C W X z w => so21 z w⟩
    | 22 =>
      cases hf
      obtain ⟨fd, F⟩ := c.d.def_ 22 (d := ddOf ("_law_moved", none) "_law_moved" "_law_moved" st22) rfl
      exact ⟨⟨st22, nm22, ["plan", "by"], ⟨2, 3, bd22⟩, false⟩, rfl, rfl, rfl, rwOk_of (G := ⟨prog, w, K, caT K, fnmT, fldAll.length, injT⟩) (r := ⟨st22, nm22, ["plan", "by"], ⟨2, 3, bd22⟩, false⟩) (at_ := ("_law_moved", none)) F bn22 (by decide +kernel) fun C W X z w => so22 z w⟩
    | 23 =>
      cases hf
      obtain ⟨fd, F⟩ := c.d.def_ 23 (d := ddOf ("_law_by", none) "_law_by" "_law_by" st23) rfl
      exact ⟨⟨st23, nm23, ["many", "places", "state"], ⟨3, 4, bd23⟩, false⟩, rfl, rfl, rfl, rwOk_of (G := ⟨prog, w, K, caT K, fnmT, fldAll.length, injT⟩) (r := ⟨st23, nm23, ["many", "places", "state"], ⟨3, 4, bd23⟩, false⟩) (at_ := ("_law_by", none)) F bn23 (by decide +kernel) fun C W X z w => so23 z w⟩
    | 24 =>
      cases hf
      obtain ⟨fd, F⟩ := c.d.def_ 24 (d := ddOf ("_law_cleared", none) "_law_cleared" "_law_cleared" st24) rfl
      exact ⟨⟨st24, nm24, ["many", "places", "state"], ⟨3, 7, bd24⟩, false⟩, rfl, rfl, rfl, rwOk_of (G := ⟨prog, w, K, caT K, fnmT, fldAll.length, injT⟩) (r := ⟨st24, nm24, ["many", "places", "state"], ⟨3, 7, bd24⟩, false⟩) (at_ := ("_law_cleared", none)) F bn24 (by decide +kernel) fun C W X z w => so24 z w⟩
    | 25 =>
      cases hf
      obtain ⟨fd, F⟩ := c.d.def_ 25 (d := ddOf ("law", none) "law" "law" st25) rfl
      exact ⟨⟨st25, nm25, ["script"], ⟨1, 11, bd25⟩, false⟩, rfl, rfl, rfl, rwOk_of (G := ⟨prog, w, K, caT K, fnmT, fldAll.length, injT⟩) (r := ⟨st25, nm25, ["script"], ⟨1, 11, bd25⟩, false⟩) (at_ := ("law", none)) F bn25 (by decide +kernel) fun C W X z w => so25 z w⟩
    | n + 26 => cases hf
  · match i with
    | 0 => cases hi; exact ⟨He.glo_ok X N (c.d.fact 0 (f := .glo "is_whole") rfl), by decide, by decide⟩
    | 1 => cases hi; exact ⟨He.glo_ok X N (c.d.fact 1 (f := .glo "check_numbers") rfl), by decide, by decide⟩
    | 2 => cases hi; exact ⟨He.glo_ok X N (c.d.fact 2 (f := .glo "walked_by") rfl), by decide, by decide⟩
    | 3 => cases hi; exact ⟨He.glo_ok X N (c.d.fact 3 (f := .glo "steps_fault") rfl), by decide, by decide⟩
    | 4 => cases hi; exact ⟨He.glo_ok X N (c.d.fact 4 (f := .glo "_times_by") rfl), by decide, by decide⟩
    | 5 => cases hi; exact ⟨He.glo_ok X N (c.d.fact 5 (f := .glo "steps_of") rfl), by decide, by decide⟩
    | 6 => cases hi; exact ⟨He.glo_ok X N (c.d.fact 6 (f := .glo "reach_by") rfl), by decide, by decide⟩
    | 7 => cases hi; exact ⟨He.glo_ok X N (c.d.fact 7 (f := .glo "times_by") rfl), by decide, by decide⟩
    | 8 => cases hi; exact ⟨He.glo_ok X N (c.d.fact 8 (f := .glo "fewest_by") rfl), by decide, by decide⟩
    | 9 => cases hi; exact ⟨He.glo_ok X N (c.d.fact 9 (f := .glo "fewest_steps") rfl), by decide, by decide⟩
    | 10 => cases hi; exact ⟨He.glo_ok X N (c.d.fact 10 (f := .glo "keeps_by") rfl), by decide, by decide⟩
    | 11 => cases hi; exact ⟨He.glo_ok X N (c.d.fact 11 (f := .glo "first_keeps") rfl), by decide, by decide⟩
    | 12 => cases hi; exact ⟨He.glo_ok X N (c.d.fact 12 (f := .glo "_lone_moves") rfl), by decide, by decide⟩
    | 13 => cases hi; exact ⟨He.glo_ok X N (c.d.fact 13 (f := .glo "best_plan") rfl), by decide, by decide⟩
    | 14 => cases hi; exact ⟨He.glo_ok X N (c.d.fact 14 (f := .glo "_law_draws") rfl), by decide, by decide⟩
    | 15 => cases hi; exact ⟨He.glo_ok X N (c.d.fact 15 (f := .glo "_law_moved") rfl), by decide, by decide⟩
    | 16 => cases hi; exact ⟨He.glo_ok X N (c.d.fact 16 (f := .glo "_law_by") rfl), by decide, by decide⟩
    | 17 => cases hi; exact ⟨He.glo_ok X N (c.d.fact 17 (f := .glo "_law_cleared") rfl), by decide, by decide⟩
    | 18 => cases hi; exact ⟨He.glo_ok X N (c.d.fact 18 (f := .glo "law") rfl), by decide, by decide⟩
    | 19 => cases hi; exact ⟨He.free_ok X N (c.d.fact 19 (f := .free "abs") rfl), by decide, by decide⟩
    | 20 => cases hi; exact ⟨He.free_ok X N (c.d.fact 20 (f := .free "bool") rfl), by decide, by decide⟩
    | 21 => cases hi; exact ⟨isB_ok X N (look_at c.x 0 rfl), by decide, by decide⟩
    | 22 => cases hi; exact ⟨He.free_ok X N (c.d.fact 21 (f := .free "enumerate") rfl), by decide, by decide⟩
    | 23 => cases hi; exact ⟨He.free_ok X N (c.d.fact 22 (f := .free "int") rfl), by decide, by decide⟩
    | 24 => cases hi; exact ⟨He.free_ok X N (c.d.fact 23 (f := .free "isinstance") rfl), by decide, by decide⟩
    | 25 => cases hi; exact ⟨He.free_ok X N (c.d.fact 24 (f := .free "len") rfl), by decide, by decide⟩
    | 26 => cases hi; exact ⟨He.free_ok X N (c.d.fact 25 (f := .free "list") rfl), by decide, by decide⟩
    | 27 => cases hi; exact ⟨He.free_ok X N (c.d.fact 26 (f := .free "range") rfl), by decide, by decide⟩
    | 28 => cases hi; exact ⟨He.free_ok X N (c.d.fact 27 (f := .free "str") rfl), by decide, by decide⟩
    | 29 => cases hi; exact ⟨He.free_ok X N (c.d.fact 28 (f := .free "sum") rfl), by decide, by decide⟩
    | 30 => cases hi; exact ⟨He.free_ok X N (c.d.fact 29 (f := .free "tuple") rfl), by decide, by decide⟩
    | n + 31 => cases hi
  · match g with
    | 0 => cases hg; obtain ⟨t, e⟩ := He.int_ok X N (c.d.fact 30 (f := .int "MOST_STEPS" 1000) rfl); exact ⟨rfl, by decide, .int 1000, _, e, ⟨t, rfl⟩, fun _ => .int _⟩
    | 1 => cases hg; exact ⟨rfl, by decide, .ref (He.ga K "FORM"), _, He.glo_ok X N (c.d.fact 51 (f := .glo "FORM") rfl), rfl, fun Hf => .tup (He.tupB_ok (look_at c.x 1 rfl) Hf) (.cons (.str _) .nil)⟩
    | 2 => cases hg; exact ⟨rfl, by decide, .ref (He.ga K "END"), _, He.glo_ok X N (c.d.fact 52 (f := .glo "END") rfl), rfl, fun Hf => .tup (He.tupB_ok (look_at c.x 2 rfl) Hf) (.cons (.str _) .nil)⟩
    | 3 => cases hg; obtain ⟨t, e⟩ := He.str_ok X N (c.d.fact 31 (f := .str "STEP" "step") rfl); exact ⟨rfl, by decide, .str "step", _, e, ⟨t, rfl⟩, fun _ => .str _⟩
    | 4 => cases hg; obtain ⟨t, e⟩ := He.str_ok X N (c.d.fact 32 (f := .str "KEEP" "keep") rfl); exact ⟨rfl, by decide, .str "keep", _, e, ⟨t, rfl⟩, fun _ => .str _⟩
    | 5 => cases hg; obtain ⟨t, e⟩ := He.str_ok X N (c.d.fact 33 (f := .str "DROP" "drop") rfl); exact ⟨rfl, by decide, .str "drop", _, e, ⟨t, rfl⟩, fun _ => .str _⟩
    | 6 => cases hg; obtain ⟨t, e⟩ := He.str_ok X N (c.d.fact 34 (f := .str "TAKE" "take") rfl); exact ⟨rfl, by decide, .str "take", _, e, ⟨t, rfl⟩, fun _ => .str _⟩
    | 7 => cases hg; obtain ⟨t, e⟩ := He.str_ok X N (c.d.fact 35 (f := .str "UNDO" "undo") rfl); exact ⟨rfl, by decide, .str "undo", _, e, ⟨t, rfl⟩, fun _ => .str _⟩
    | 8 => cases hg; obtain ⟨t, e⟩ := He.int_ok X N (c.d.fact 36 (f := .int "MOST_PLANNED" 400) rfl); exact ⟨rfl, by decide, .int 400, _, e, ⟨t, rfl⟩, fun _ => .int _⟩
    | n + 9 => cases hg
  · match i with
    | 0 => cases hi; exact ⟨He.glo_ok X N (c.d.fact 53 (f := .glo "BadNumber") rfl), by decide, by decide⟩
    | 1 => cases hi; exact ⟨He.glo_ok X N (c.d.fact 55 (f := .glo "BadPlan") rfl), by decide, by decide⟩
    | 2 => cases hi; exact ⟨He.glo_ok X N (c.d.fact 57 (f := .glo "TooMany") rfl), by decide, by decide⟩
    | n + 3 => cases hi
  · rcases subT_c hk with rfl | rfl | rfl <;> rcases subT_c hj with rfl | rfl | rfl
    · exact He.exm_ok (c.d.fact 59 (f := .exm "BadNumber" "BadNumber" true) rfl)
    · exact He.exm_ok (c.d.fact 60 (f := .exm "BadNumber" "BadPlan" false) rfl)
    · exact He.exm_ok (c.d.fact 61 (f := .exm "BadNumber" "TooMany" false) rfl)
    · exact He.exm_ok (c.d.fact 62 (f := .exm "BadPlan" "BadNumber" false) rfl)
    · exact He.exm_ok (c.d.fact 63 (f := .exm "BadPlan" "BadPlan" true) rfl)
    · exact He.exm_ok (c.d.fact 64 (f := .exm "BadPlan" "TooMany" false) rfl)
    · exact He.exm_ok (c.d.fact 65 (f := .exm "TooMany" "BadNumber" false) rfl)
    · exact He.exm_ok (c.d.fact 66 (f := .exm "TooMany" "BadPlan" false) rfl)
    · exact He.exm_ok (c.d.fact 67 (f := .exm "TooMany" "TooMany" true) rfl)
  · rcases subT_c hk with rfl | rfl | rfl
    · exact He.exc_ok (c.d.fact 54 (f := .exc "BadNumber") rfl)
    · exact He.exc_ok (c.d.fact 56 (f := .exc "BadPlan") rfl)
    · exact He.exc_ok (c.d.fact 58 (f := .exc "TooMany") rfl)
  · rcases foT_inv hk with ⟨rfl, rfl⟩ | ⟨rfl, rfl⟩ | ⟨rfl, rfl⟩ | ⟨rfl, rfl⟩ | ⟨rfl, rfl⟩
    · exact ⟨(show 0 < fldAll.length by decide), He.noat_ok (c.d.fact 46 (f := .noat "Walk" "places") rfl)⟩
    · exact ⟨(show 1 < fldAll.length by decide), He.noat_ok (c.d.fact 47 (f := .noat "Walk" "left") rfl)⟩
    · exact ⟨(show 2 < fldAll.length by decide), He.noat_ok (c.d.fact 48 (f := .noat "Walk" "here") rfl)⟩
    · exact ⟨(show 3 < fldAll.length by decide), He.noat_ok (c.d.fact 49 (f := .noat "Walk" "kept") rfl)⟩
    · exact ⟨(show 4 < fldAll.length by decide), He.noat_ok (c.d.fact 50 (f := .noat "Walk" "times") rfl)⟩
  · match m with
    | 0 =>
      cases hm
      refine ⟨(show ∀ i, i < fldAll.length → fnmT i ≠ "take_state" by decide), fun k f h => ?_⟩
      rcases methT_inv h with ⟨rfl, h2, rfl⟩ | ⟨rfl, h2, rfl⟩ | ⟨rfl, h2, rfl⟩ | ⟨rfl, h2, rfl⟩ | ⟨rfl, h2, rfl⟩ | ⟨rfl, h2, rfl⟩
      · exact ⟨_, He.meth_ok (c.d.fact 40 (f := .meth "Walk" "take_state") rfl), rfl⟩
      · exact absurd h2 (by decide)
      · exact absurd h2 (by decide)
      · exact absurd h2 (by decide)
      · exact absurd h2 (by decide)
      · exact absurd h2 (by decide)
    | 1 =>
      cases hm
      refine ⟨(show ∀ i, i < fldAll.length → fnmT i ≠ "drop_state" by decide), fun k f h => ?_⟩
      rcases methT_inv h with ⟨rfl, h2, rfl⟩ | ⟨rfl, h2, rfl⟩ | ⟨rfl, h2, rfl⟩ | ⟨rfl, h2, rfl⟩ | ⟨rfl, h2, rfl⟩ | ⟨rfl, h2, rfl⟩
      · exact absurd h2 (by decide)
      · exact ⟨_, He.meth_ok (c.d.fact 41 (f := .meth "Walk" "drop_state") rfl), rfl⟩
      · exact absurd h2 (by decide)
      · exact absurd h2 (by decide)
      · exact absurd h2 (by decide)
      · exact absurd h2 (by decide)
    | 2 =>
      cases hm
      refine ⟨(show ∀ i, i < fldAll.length → fnmT i ≠ "go_step" by decide), fun k f h => ?_⟩
      rcases methT_inv h with ⟨rfl, h2, rfl⟩ | ⟨rfl, h2, rfl⟩ | ⟨rfl, h2, rfl⟩ | ⟨rfl, h2, rfl⟩ | ⟨rfl, h2, rfl⟩ | ⟨rfl, h2, rfl⟩
      · exact absurd h2 (by decide)
      · exact absurd h2 (by decide)
      · exact ⟨_, He.meth_ok (c.d.fact 42 (f := .meth "Walk" "go_step") rfl), rfl⟩
      · exact absurd h2 (by decide)
      · exact absurd h2 (by decide)
      · exact absurd h2 (by decide)
    | 3 =>
      cases hm
      refine ⟨(show ∀ i, i < fldAll.length → fnmT i ≠ "undo_step" by decide), fun k f h => ?_⟩
      rcases methT_inv h with ⟨rfl, h2, rfl⟩ | ⟨rfl, h2, rfl⟩ | ⟨rfl, h2, rfl⟩ | ⟨rfl, h2, rfl⟩ | ⟨rfl, h2, rfl⟩ | ⟨rfl, h2, rfl⟩
      · exact absurd h2 (by decide)
      · exact absurd h2 (by decide)
      · exact absurd h2 (by decide)
      · exact ⟨_, He.meth_ok (c.d.fact 43 (f := .meth "Walk" "undo_step") rfl), rfl⟩
      · exact absurd h2 (by decide)
      · exact absurd h2 (by decide)
    | 4 =>
      cases hm
      refine ⟨(show ∀ i, i < fldAll.length → fnmT i ≠ "keep_here" by decide), fun k f h => ?_⟩
      rcases methT_inv h with ⟨rfl, h2, rfl⟩ | ⟨rfl, h2, rfl⟩ | ⟨rfl, h2, rfl⟩ | ⟨rfl, h2, rfl⟩ | ⟨rfl, h2, rfl⟩ | ⟨rfl, h2, rfl⟩
      · exact absurd h2 (by decide)
      · exact absurd h2 (by decide)
      · exact absurd h2 (by decide)
      · exact absurd h2 (by decide)
      · exact ⟨_, He.meth_ok (c.d.fact 44 (f := .meth "Walk" "keep_here") rfl), rfl⟩
      · exact absurd h2 (by decide)
    | 5 =>
      cases hm
      refine ⟨(show ∀ i, i < fldAll.length → fnmT i ≠ "make_move" by decide), fun k f h => ?_⟩
      rcases methT_inv h with ⟨rfl, h2, rfl⟩ | ⟨rfl, h2, rfl⟩ | ⟨rfl, h2, rfl⟩ | ⟨rfl, h2, rfl⟩ | ⟨rfl, h2, rfl⟩ | ⟨rfl, h2, rfl⟩
      · exact absurd h2 (by decide)
      · exact absurd h2 (by decide)
      · exact absurd h2 (by decide)
      · exact absurd h2 (by decide)
      · exact absurd h2 (by decide)
      · exact ⟨_, He.meth_ok (c.d.fact 45 (f := .meth "Walk" "make_move") rfl), rfl⟩
    | n + 6 => cases hm
  · match i with
    | 0 => cases hi; exact ⟨He.glo_ok X N (c.d.fact 37 (f := .glo "Walk") rfl), by decide, rfl, He.cls_ok (c.d.fact 38 (f := .cls "Walk") rfl), _, He.mkr_ok (c.d.fact 39 (f := .mkr "Walk") rfl), rfl⟩
    | n + 1 => cases hi
def lawF : Nat := 25
end Lw

set_option autoImplicit false
set_option linter.all false
set_option Elab.async false
set_option maxRecDepth 100000
set_option maxHeartbeats 4000000
namespace Lw
open PySem PySem.Spec PyProof.Rows L2
open Gt
def wfT : Nat := 1000000
abbrev PG : Pg := pgT wfT
theorem lw_g0 : ∀ n : Nat, (cfOf PG n).glb 0 = some (.int 1000) := fun _ => (rfl)
theorem lw_g1 : ∀ n : Nat, (cfOf PG n).glb 1 = some (.tuple [(.str "form")]) := fun _ => (rfl)
theorem lw_g2 : ∀ n : Nat, (cfOf PG n).glb 2 = some (.tuple [(.str "end")]) := fun _ => (rfl)
theorem lw_g3 : ∀ n : Nat, (cfOf PG n).glb 3 = some (.str "step") := fun _ => (rfl)
theorem lw_g4 : ∀ n : Nat, (cfOf PG n).glb 4 = some (.str "keep") := fun _ => (rfl)
theorem lw_g5 : ∀ n : Nat, (cfOf PG n).glb 5 = some (.str "drop") := fun _ => (rfl)
theorem lw_g6 : ∀ n : Nat, (cfOf PG n).glb 6 = some (.str "take") := fun _ => (rfl)
theorem lw_g7 : ∀ n : Nat, (cfOf PG n).glb 7 = some (.str "undo") := fun _ => (rfl)
theorem lw_g8 : ∀ n : Nat, (cfOf PG n).glb 8 = some (.int 400) := fun _ => (rfl)
theorem lw_m4_0 : ∀ n : Nat, (cfOf PG n).meth 4 0 = some 6 := fun _ => (rfl)
theorem lw_m4_1 : ∀ n : Nat, (cfOf PG n).meth 4 1 = some 5 := fun _ => (rfl)
theorem lw_m4_2 : ∀ n : Nat, (cfOf PG n).meth 4 2 = some 3 := fun _ => (rfl)
theorem lw_m4_3 : ∀ n : Nat, (cfOf PG n).meth 4 3 = some 7 := fun _ => (rfl)
theorem lw_m4_4 : ∀ n : Nat, (cfOf PG n).meth 4 4 = some 4 := fun _ => (rfl)
theorem lw_m4_5 : ∀ n : Nat, (cfOf PG n).meth 4 5 = some 8 := fun _ => (rfl)
theorem lw_i4 : ∀ n : Nat, (cfOf PG n).init 4 = some 2 := fun _ => (rfl)
theorem lw_f4_0 : ∀ n : Nat, (cfOf PG n).fo 4 0 = true := fun _ => (rfl)
theorem lw_f4_1 : ∀ n : Nat, (cfOf PG n).fo 4 1 = true := fun _ => (rfl)
theorem lw_f4_2 : ∀ n : Nat, (cfOf PG n).fo 4 2 = true := fun _ => (rfl)
theorem lw_f4_3 : ∀ n : Nat, (cfOf PG n).fo 4 3 = true := fun _ => (rfl)
theorem lw_f4_4 : ∀ n : Nat, (cfOf PG n).fo 4 4 = true := fun _ => (rfl)
theorem lw_wf : ∀ n : Nat, (cfOf PG n).wf = wfT := fun _ => (rfl)
theorem lw_sub : PG.sub = subT := (rfl)
theorem lw_pwf : PG.wf = wfT := (rfl)
theorem q_0_0 : decide ((Str.ofString "step") = Str.ofString "step") = true := by decide
theorem q_0_1 : decide ((Str.ofString "step") = Str.ofString "keep") = false := by decide
theorem q_0_2 : decide ((Str.ofString "step") = Str.ofString "drop") = false := by decide
theorem q_0_3 : decide ((Str.ofString "step") = Str.ofString "take") = false := by decide
theorem q_0_4 : decide ((Str.ofString "step") = Str.ofString "undo") = false := by decide
theorem q_0_5 : decide ((Str.ofString "step") = Str.ofString "form") = false := by decide
theorem q_0_6 : decide ((Str.ofString "step") = Str.ofString "end") = false := by decide
theorem q_0_7 : decide ((Str.ofString "step") = Str.ofString "back") = false := by decide
theorem q_0_8 : decide ((Str.ofString "step") = Str.ofString "move") = false := by decide
theorem q_1_0 : decide ((Str.ofString "keep") = Str.ofString "step") = false := by decide
theorem q_1_1 : decide ((Str.ofString "keep") = Str.ofString "keep") = true := by decide
theorem q_1_2 : decide ((Str.ofString "keep") = Str.ofString "drop") = false := by decide
theorem q_1_3 : decide ((Str.ofString "keep") = Str.ofString "take") = false := by decide
theorem q_1_4 : decide ((Str.ofString "keep") = Str.ofString "undo") = false := by decide
theorem q_1_5 : decide ((Str.ofString "keep") = Str.ofString "form") = false := by decide
theorem q_1_6 : decide ((Str.ofString "keep") = Str.ofString "end") = false := by decide
theorem q_1_7 : decide ((Str.ofString "keep") = Str.ofString "back") = false := by decide
theorem q_1_8 : decide ((Str.ofString "keep") = Str.ofString "move") = false := by decide
theorem q_2_0 : decide ((Str.ofString "drop") = Str.ofString "step") = false := by decide
theorem q_2_1 : decide ((Str.ofString "drop") = Str.ofString "keep") = false := by decide
theorem q_2_2 : decide ((Str.ofString "drop") = Str.ofString "drop") = true := by decide
theorem q_2_3 : decide ((Str.ofString "drop") = Str.ofString "take") = false := by decide
theorem q_2_4 : decide ((Str.ofString "drop") = Str.ofString "undo") = false := by decide
theorem q_2_5 : decide ((Str.ofString "drop") = Str.ofString "form") = false := by decide
theorem q_2_6 : decide ((Str.ofString "drop") = Str.ofString "end") = false := by decide
theorem q_2_7 : decide ((Str.ofString "drop") = Str.ofString "back") = false := by decide
theorem q_2_8 : decide ((Str.ofString "drop") = Str.ofString "move") = false := by decide
theorem q_3_0 : decide ((Str.ofString "take") = Str.ofString "step") = false := by decide
theorem q_3_1 : decide ((Str.ofString "take") = Str.ofString "keep") = false := by decide
theorem q_3_2 : decide ((Str.ofString "take") = Str.ofString "drop") = false := by decide
theorem q_3_3 : decide ((Str.ofString "take") = Str.ofString "take") = true := by decide
theorem q_3_4 : decide ((Str.ofString "take") = Str.ofString "undo") = false := by decide
theorem q_3_5 : decide ((Str.ofString "take") = Str.ofString "form") = false := by decide
theorem q_3_6 : decide ((Str.ofString "take") = Str.ofString "end") = false := by decide
theorem q_3_7 : decide ((Str.ofString "take") = Str.ofString "back") = false := by decide
theorem q_3_8 : decide ((Str.ofString "take") = Str.ofString "move") = false := by decide
theorem q_4_0 : decide ((Str.ofString "undo") = Str.ofString "step") = false := by decide
theorem q_4_1 : decide ((Str.ofString "undo") = Str.ofString "keep") = false := by decide
theorem q_4_2 : decide ((Str.ofString "undo") = Str.ofString "drop") = false := by decide
theorem q_4_3 : decide ((Str.ofString "undo") = Str.ofString "take") = false := by decide
theorem q_4_4 : decide ((Str.ofString "undo") = Str.ofString "undo") = true := by decide
theorem q_4_5 : decide ((Str.ofString "undo") = Str.ofString "form") = false := by decide
theorem q_4_6 : decide ((Str.ofString "undo") = Str.ofString "end") = false := by decide
theorem q_4_7 : decide ((Str.ofString "undo") = Str.ofString "back") = false := by decide
theorem q_4_8 : decide ((Str.ofString "undo") = Str.ofString "move") = false := by decide
theorem q_5_0 : decide ((Str.ofString "form") = Str.ofString "step") = false := by decide
theorem q_5_1 : decide ((Str.ofString "form") = Str.ofString "keep") = false := by decide
theorem q_5_2 : decide ((Str.ofString "form") = Str.ofString "drop") = false := by decide
theorem q_5_3 : decide ((Str.ofString "form") = Str.ofString "take") = false := by decide
theorem q_5_4 : decide ((Str.ofString "form") = Str.ofString "undo") = false := by decide
theorem q_5_5 : decide ((Str.ofString "form") = Str.ofString "form") = true := by decide
theorem q_5_6 : decide ((Str.ofString "form") = Str.ofString "end") = false := by decide
theorem q_5_7 : decide ((Str.ofString "form") = Str.ofString "back") = false := by decide
theorem q_5_8 : decide ((Str.ofString "form") = Str.ofString "move") = false := by decide
theorem q_6_0 : decide ((Str.ofString "end") = Str.ofString "step") = false := by decide
theorem q_6_1 : decide ((Str.ofString "end") = Str.ofString "keep") = false := by decide
theorem q_6_2 : decide ((Str.ofString "end") = Str.ofString "drop") = false := by decide
theorem q_6_3 : decide ((Str.ofString "end") = Str.ofString "take") = false := by decide
theorem q_6_4 : decide ((Str.ofString "end") = Str.ofString "undo") = false := by decide
theorem q_6_5 : decide ((Str.ofString "end") = Str.ofString "form") = false := by decide
theorem q_6_6 : decide ((Str.ofString "end") = Str.ofString "end") = true := by decide
theorem q_6_7 : decide ((Str.ofString "end") = Str.ofString "back") = false := by decide
theorem q_6_8 : decide ((Str.ofString "end") = Str.ofString "move") = false := by decide
theorem q_7_0 : decide ((Str.ofString "back") = Str.ofString "step") = false := by decide
theorem q_7_1 : decide ((Str.ofString "back") = Str.ofString "keep") = false := by decide
theorem q_7_2 : decide ((Str.ofString "back") = Str.ofString "drop") = false := by decide
theorem q_7_3 : decide ((Str.ofString "back") = Str.ofString "take") = false := by decide
theorem q_7_4 : decide ((Str.ofString "back") = Str.ofString "undo") = false := by decide
theorem q_7_5 : decide ((Str.ofString "back") = Str.ofString "form") = false := by decide
theorem q_7_6 : decide ((Str.ofString "back") = Str.ofString "end") = false := by decide
theorem q_7_7 : decide ((Str.ofString "back") = Str.ofString "back") = true := by decide
theorem q_7_8 : decide ((Str.ofString "back") = Str.ofString "move") = false := by decide
theorem q_8_0 : decide ((Str.ofString "move") = Str.ofString "step") = false := by decide
theorem q_8_1 : decide ((Str.ofString "move") = Str.ofString "keep") = false := by decide
theorem q_8_2 : decide ((Str.ofString "move") = Str.ofString "drop") = false := by decide
theorem q_8_3 : decide ((Str.ofString "move") = Str.ofString "take") = false := by decide
theorem q_8_4 : decide ((Str.ofString "move") = Str.ofString "undo") = false := by decide
theorem q_8_5 : decide ((Str.ofString "move") = Str.ofString "form") = false := by decide
theorem q_8_6 : decide ((Str.ofString "move") = Str.ofString "end") = false := by decide
theorem q_8_7 : decide ((Str.ofString "move") = Str.ofString "back") = false := by decide
theorem q_8_8 : decide ((Str.ofString "move") = Str.ofString "move") = true := by decide
local macro_rules
  | `(tactic| push_cast [$ts,*]) => `(tactic| simp (disch := omega) only [szK, dcT, dcF, o_mod, o_fdiv, mulL, mulR, ix_intsI, l_bind_ok, l_bind_exc, l_bind_no, l_cond_t, l_cond_f, l_cnd_t, l_cnd_f, l_if_t, l_if_f, l_dB_dat, l_dB_lst, l_dB_dct, l_opB_s, l_opB_n, l_tB, l_finB, l_insB, l_sq_nx, l_sq_brk, l_sq_cnt, l_sq_ret, l_sq_exc, l_sq_no, l_tr_nx, l_tr_exc, l_tr_no, l_bor_dat, l_own_dat, l_sh_dat, l_fz_dat, l_put_dat, l_bor_fin, l_own_fin, l_sh_fin, l_fz_fin, l_put_fin, l_bor_tpo, l_own_tpo, l_sh_tpo, l_fz_tpo, l_put_tpo, l_bor_lst, l_own_lst, l_bor_dct, l_own_dct, l_bor_ins, l_own_ins, l_fz_un, l_fz_lst, l_fz_dct, l_fz_ins, l_fzs_n, l_fzs_c, l_put_lst, l_put_dct, l_neg, l_not, l_nn_none, l_nn_bool, l_nn_int, l_nn_str, l_nn_list, l_nn_tuple, l_nn_dict, l_nn_lst, l_nn_dct, l_nn_fin, l_nn_ins, l_nn_tpo, l_is_int_none, l_is_int_bool, l_is_int_int, l_is_int_str, l_is_int_list, l_is_int_tuple, l_is_int_dict, l_is_bool_none, l_is_bool_bool, l_is_bool_int, l_is_bool_str, l_is_bool_list, l_is_bool_tuple, l_is_bool_dict, l_is_str_none, l_is_str_bool, l_is_str_int, l_is_str_str, l_is_str_list, l_is_str_tuple, l_is_str_dict, l_is_tup_none, l_is_tup_bool, l_is_tup_int, l_is_tup_str, l_is_tup_list, l_is_tup_tuple, l_is_tup_dict, l_is_lst_none, l_is_lst_bool, l_is_lst_int, l_is_lst_str, l_is_lst_list, l_is_lst_tuple, l_is_lst_dict, l_co_s, l_co_n, l_mkT_s, l_mkT_n, l_dsOf_n, l_dsOf_dat, l_dsOf_lst, l_dsOf_dct, l_dsOf_fin, l_dsOf_tpo, l_dsOf_ins, l_dsOf_un, l_ofB, l_ofO, l_ofO_n, l_ofD, l_ofC_ok, l_ofC_exc, l_ofC_no, l_evo_u, l_evo_i, l_gd0, l_gds, l_st0, l_sts, l_fld_fin, l_fld_ins, l_al_n, l_al_c, l_ap_n, l_ap_c, l_gp_v, l_gp_f, l_sp_v, l_sp_f, l_si, l_pl_v, l_pl_f, ↓l_b_v, ↓l_b_f, ↓l_b_non, ↓l_b_bl, ↓l_b_int, ↓l_b_str, ↓l_b_glb, ↓l_b_tup, ↓l_b_lst, ↓l_b_dct, ↓l_b_bop, ↓l_b_neg, ↓l_b_cmp, ↓l_b_chn, ↓l_b_isn, ↓l_b_notn, ↓l_b_and, ↓l_b_or, ↓l_b_not, ↓l_b_ife, ↓l_b_idx, ↓l_b_slc, ↓l_b_rev, ↓l_b_call, ↓l_b_new, ↓l_b_meth, ↓l_b_bi, ↓l_b_isi, ↓l_b_bs, ↓l_b_mt, ↓l_b_lc, ↓l_b_lci, ↓l_b_dc, ↓l_b_dci, ↓l_b_mu, ↓l_b_mex, ↓l_b_cax, ↓l_b_fm, ↓l_b_ff, ↓l_b_fi, ↓l_b_fc, l_o_add, l_o_sub, l_o_mul, l_o_addS, l_o_addL, l_o_addT, l_a_add, l_a_sub, l_a_mul, l_c_lt, l_c_le, l_c_gt, l_c_ge, l_c_eq, l_c_ne, l_c_eqS, l_c_neS, l_c_eqNN, l_c_memD, l_c_nmemD, l_c_memL, l_c_nmemL, l_c_memT, l_c_nmemT, l_ixL0, l_ixL1, l_ixL2, l_ixT0, l_ixT1, l_ixT2, l_ixO_d, l_ixO_l, l_ixO_c, l_ixO_t, l_ixD_d, l_len_l, l_len_t, l_len_d, l_bi_int, l_bi_max, l_bi_min, ↓l_e_nil, ↓l_e_non, ↓l_e_bl, ↓l_e_int, ↓l_e_str, ↓l_e_glb, ↓l_e_var, ↓l_e_tup, ↓l_e_lst, ↓l_e_dct, ↓l_e_bop, ↓l_e_neg, ↓l_e_cmp, ↓l_e_chn, ↓l_e_isn, ↓l_e_notn, ↓l_e_and, ↓l_e_or, ↓l_e_not, ↓l_e_ife, ↓l_e_idx, ↓l_e_slc, ↓l_e_rev, ↓l_e_fld, ↓l_e_call, ↓l_e_new, ↓l_e_meth, ↓l_e_bi1, ↓l_e_bi2, ↓l_e_bi3, ↓l_e_isi, ↓l_e_bsE, ↓l_e_bsV, ↓l_e_bsI_range1, ↓l_e_bsI_range2, ↓l_e_bsI_range3, ↓l_e_bsI_zip, ↓l_e_bsI_enum, ↓l_e_bsI_items, ↓l_e_bsI_combs, ↓l_e_mt, ↓l_e_mu, ↓l_e_mex, ↓l_e_cax, ↓l_es_n, ↓l_es_c, ↓l_ew_n, ↓l_ew_c, ↓l_ej_e, ↓l_ej_i, ↓l_ei_e, ↓l_ei_i, l_seq_list, l_seq_tuple, l_ls_list_list, l_ls_list_tuple, l_ls_tuple_list, l_ls_tuple_tuple, l_ls_sorted_list, l_ls_sorted_tuple, l_ls_sum_list, l_ls_sum_tuple, l_ls_min_list, l_ls_min_tuple, l_ls_max_list, l_ls_max_tuple, l_ls_all_list, l_ls_all_tuple, l_ls_any_list, l_ls_any_tuple, l_ls_dict_list, l_bs_list, l_bs_tuple, l_bs_sum, l_bs_all, l_bs_any, l_vals, l_omap, l_omapn, l_mty_append, l_mty_extend, l_mty_pop, l_mty_remove, l_mty_dpop, l_mty_dpopD, l_mu_app, l_mu_ext, l_mu_extT, l_mtt_index_list, l_mtt_count_list, l_mtt_count_tuple, l_mtt_get1_dict, l_mtt_get2_dict, l_mt_get1, l_mt_get2, ↓l_x_asg, ↓l_x_own, ↓l_x_frz, ↓l_x_unp, ↓l_x_unpO, l_unpR, l_so_n, l_so_c, ↓l_x_par, ↓l_lh_n, ↓l_lh_c, ↓l_lh_a, ↓l_lh_o, ↓l_lh_f, ↓l_lh_fo, ↓l_x_setI, l_isC_l, l_isC_d, l_setR, l_setRo_d, l_setRo_l, ↓l_x_setF, ↓l_x_ownF, l_pF_dat, l_oF_dat, l_pF_lst, l_oF_lst, l_pF_dct, l_oF_dct, l_pF_fin, l_oF_fin, l_pF_tpo, l_oF_tpo, l_fRo, l_augR, ↓l_x_augV, l_augFR, ↓l_x_augF, l_augIR, ↓l_x_augI, ↓l_x_ex, ↓l_x_ret, ↓l_x_retM, l_rM_dat, l_rM_lst, l_rM_dct, l_rM_ins, l_rM_fin, ↓l_x_retN, ↓l_x_ite, ↓l_x_whl, ↓l_x_for, ↓l_x_brk, ↓l_x_cnt, ↓l_x_pass, ↓l_x_rai, ↓l_x_tri, ↓l_xs_n, ↓l_xs_c, l_fin_ret, l_fin_nx, l_fin_exc, l_newR, l_newRe, l_mexR, l_caxR, l_cf_call, l_cf_wf, l_ts_v, l_ts_t, l_tss_n, l_tss_c, l_obind, l_rngS, l_tu_nx, l_tu_cnt, l_tu_brk, l_tu_ret, l_tu_exc, ↓l_bind_ok, ↓l_bind_exc, ↓l_bind_no, ↓l_cond_t, ↓l_cond_f, ↓l_cnd_t, ↓l_cnd_f, ↓l_if_t, ↓l_if_f, ↓l_dB_dat, ↓l_dB_lst, ↓l_dB_dct, ↓l_opB_s, ↓l_opB_n, ↓l_tB, ↓l_finB, ↓l_insB, ↓l_sq_nx, ↓l_sq_brk, ↓l_sq_cnt, ↓l_sq_ret, ↓l_sq_exc, ↓l_sq_no, ↓l_tr_nx, ↓l_tr_exc, ↓l_tr_no, ↓l_evo_u, ↓l_evo_i, ↓l_tu_nx, ↓l_tu_cnt, ↓l_tu_brk, ↓l_tu_ret, ↓l_tu_exc, lw_g0, lw_g1, lw_g2, lw_g3, lw_g4, lw_g5, lw_g6, lw_g7, lw_g8, lw_m4_0, lw_m4_1, lw_m4_2, lw_m4_3, lw_m4_4, lw_m4_5, lw_i4, lw_f4_0, lw_f4_1, lw_f4_2, lw_f4_3, lw_f4_4, lw_wf, lw_sub, lw_pwf, q_0_0, q_0_1, q_0_2, q_0_3, q_0_4, q_0_5, q_0_6, q_0_7, q_0_8, q_1_0, q_1_1, q_1_2, q_1_3, q_1_4, q_1_5, q_1_6, q_1_7, q_1_8, q_2_0, q_2_1, q_2_2, q_2_3, q_2_4, q_2_5, q_2_6, q_2_7, q_2_8, q_3_0, q_3_1, q_3_2, q_3_3, q_3_4, q_3_5, q_3_6, q_3_7, q_3_8, q_4_0, q_4_1, q_4_2, q_4_3, q_4_4, q_4_5, q_4_6, q_4_7, q_4_8, q_5_0, q_5_1, q_5_2, q_5_3, q_5_4, q_5_5, q_5_6, q_5_7, q_5_8, q_6_0, q_6_1, q_6_2, q_6_3, q_6_4, q_6_5, q_6_6, q_6_7, q_6_8, q_7_0, q_7_1, q_7_2, q_7_3, q_7_4, q_7_5, q_7_6, q_7_7, q_7_8, q_8_0, q_8_1, q_8_2, q_8_3, q_8_4, q_8_5, q_8_6, q_8_7, q_8_8, List.replicate_zero, List.replicate_succ, List.append_nil, List.cons_append, List.nil_append, List.take_succ_cons, List.take_zero, Bool.false_eq_true, Bool.not_true, Bool.not_false, Bool.and_true, Bool.true_and, Bool.and_false, Bool.false_and, Bool.or_true, Bool.true_or, Bool.or_false, Bool.false_or, Option.some.injEq, List.length_cons, List.length_nil, decide_true, decide_false, List.map_cons, List.map_nil, reduceCtorEq, List.length_append, List.length_replicate, List.length_map, Nat.reduceAdd, Nat.reduceSub, Nat.reduceEqDiff, Nat.reduceBEq, Int.reduceNeg, Int.toNat_natCast, Option.getD_some, Option.getD_none, $ts,*])
  | `(tactic| push_cast [$ts,*] at $l:term ⊢) => `(tactic| simp (disch := omega) only [szK, dcT, dcF, o_mod, o_fdiv, mulL, mulR, ix_intsI, l_bind_ok, l_bind_exc, l_bind_no, l_cond_t, l_cond_f, l_cnd_t, l_cnd_f, l_if_t, l_if_f, l_dB_dat, l_dB_lst, l_dB_dct, l_opB_s, l_opB_n, l_tB, l_finB, l_insB, l_sq_nx, l_sq_brk, l_sq_cnt, l_sq_ret, l_sq_exc, l_sq_no, l_tr_nx, l_tr_exc, l_tr_no, l_bor_dat, l_own_dat, l_sh_dat, l_fz_dat, l_put_dat, l_bor_fin, l_own_fin, l_sh_fin, l_fz_fin, l_put_fin, l_bor_tpo, l_own_tpo, l_sh_tpo, l_fz_tpo, l_put_tpo, l_bor_lst, l_own_lst, l_bor_dct, l_own_dct, l_bor_ins, l_own_ins, l_fz_un, l_fz_lst, l_fz_dct, l_fz_ins, l_fzs_n, l_fzs_c, l_put_lst, l_put_dct, l_neg, l_not, l_nn_none, l_nn_bool, l_nn_int, l_nn_str, l_nn_list, l_nn_tuple, l_nn_dict, l_nn_lst, l_nn_dct, l_nn_fin, l_nn_ins, l_nn_tpo, l_is_int_none, l_is_int_bool, l_is_int_int, l_is_int_str, l_is_int_list, l_is_int_tuple, l_is_int_dict, l_is_bool_none, l_is_bool_bool, l_is_bool_int, l_is_bool_str, l_is_bool_list, l_is_bool_tuple, l_is_bool_dict, l_is_str_none, l_is_str_bool, l_is_str_int, l_is_str_str, l_is_str_list, l_is_str_tuple, l_is_str_dict, l_is_tup_none, l_is_tup_bool, l_is_tup_int, l_is_tup_str, l_is_tup_list, l_is_tup_tuple, l_is_tup_dict, l_is_lst_none, l_is_lst_bool, l_is_lst_int, l_is_lst_str, l_is_lst_list, l_is_lst_tuple, l_is_lst_dict, l_co_s, l_co_n, l_mkT_s, l_mkT_n, l_dsOf_n, l_dsOf_dat, l_dsOf_lst, l_dsOf_dct, l_dsOf_fin, l_dsOf_tpo, l_dsOf_ins, l_dsOf_un, l_ofB, l_ofO, l_ofO_n, l_ofD, l_ofC_ok, l_ofC_exc, l_ofC_no, l_evo_u, l_evo_i, l_gd0, l_gds, l_st0, l_sts, l_fld_fin, l_fld_ins, l_al_n, l_al_c, l_ap_n, l_ap_c, l_gp_v, l_gp_f, l_sp_v, l_sp_f, l_si, l_pl_v, l_pl_f, ↓l_b_v, ↓l_b_f, ↓l_b_non, ↓l_b_bl, ↓l_b_int, ↓l_b_str, ↓l_b_glb, ↓l_b_tup, ↓l_b_lst, ↓l_b_dct, ↓l_b_bop, ↓l_b_neg, ↓l_b_cmp, ↓l_b_chn, ↓l_b_isn, ↓l_b_notn, ↓l_b_and, ↓l_b_or, ↓l_b_not, ↓l_b_ife, ↓l_b_idx, ↓l_b_slc, ↓l_b_rev, ↓l_b_call, ↓l_b_new, ↓l_b_meth, ↓l_b_bi, ↓l_b_isi, ↓l_b_bs, ↓l_b_mt, ↓l_b_lc, ↓l_b_lci, ↓l_b_dc, ↓l_b_dci, ↓l_b_mu, ↓l_b_mex, ↓l_b_cax, ↓l_b_fm, ↓l_b_ff, ↓l_b_fi, ↓l_b_fc, l_o_add, l_o_sub, l_o_mul, l_o_addS, l_o_addL, l_o_addT, l_a_add, l_a_sub, l_a_mul, l_c_lt, l_c_le, l_c_gt, l_c_ge, l_c_eq, l_c_ne, l_c_eqS, l_c_neS, l_c_eqNN, l_c_memD, l_c_nmemD, l_c_memL, l_c_nmemL, l_c_memT, l_c_nmemT, l_ixL0, l_ixL1, l_ixL2, l_ixT0, l_ixT1, l_ixT2, l_ixO_d, l_ixO_l, l_ixO_c, l_ixO_t, l_ixD_d, l_len_l, l_len_t, l_len_d, l_bi_int, l_bi_max, l_bi_min, ↓l_e_nil, ↓l_e_non, ↓l_e_bl, ↓l_e_int, ↓l_e_str, ↓l_e_glb, ↓l_e_var, ↓l_e_tup, ↓l_e_lst, ↓l_e_dct, ↓l_e_bop, ↓l_e_neg, ↓l_e_cmp, ↓l_e_chn, ↓l_e_isn, ↓l_e_notn, ↓l_e_and, ↓l_e_or, ↓l_e_not, ↓l_e_ife, ↓l_e_idx, ↓l_e_slc, ↓l_e_rev, ↓l_e_fld, ↓l_e_call, ↓l_e_new, ↓l_e_meth, ↓l_e_bi1, ↓l_e_bi2, ↓l_e_bi3, ↓l_e_isi, ↓l_e_bsE, ↓l_e_bsV, ↓l_e_bsI_range1, ↓l_e_bsI_range2, ↓l_e_bsI_range3, ↓l_e_bsI_zip, ↓l_e_bsI_enum, ↓l_e_bsI_items, ↓l_e_bsI_combs, ↓l_e_mt, ↓l_e_mu, ↓l_e_mex, ↓l_e_cax, ↓l_es_n, ↓l_es_c, ↓l_ew_n, ↓l_ew_c, ↓l_ej_e, ↓l_ej_i, ↓l_ei_e, ↓l_ei_i, l_seq_list, l_seq_tuple, l_ls_list_list, l_ls_list_tuple, l_ls_tuple_list, l_ls_tuple_tuple, l_ls_sorted_list, l_ls_sorted_tuple, l_ls_sum_list, l_ls_sum_tuple, l_ls_min_list, l_ls_min_tuple, l_ls_max_list, l_ls_max_tuple, l_ls_all_list, l_ls_all_tuple, l_ls_any_list, l_ls_any_tuple, l_ls_dict_list, l_bs_list, l_bs_tuple, l_bs_sum, l_bs_all, l_bs_any, l_vals, l_omap, l_omapn, l_mty_append, l_mty_extend, l_mty_pop, l_mty_remove, l_mty_dpop, l_mty_dpopD, l_mu_app, l_mu_ext, l_mu_extT, l_mtt_index_list, l_mtt_count_list, l_mtt_count_tuple, l_mtt_get1_dict, l_mtt_get2_dict, l_mt_get1, l_mt_get2, ↓l_x_asg, ↓l_x_own, ↓l_x_frz, ↓l_x_unp, ↓l_x_unpO, l_unpR, l_so_n, l_so_c, ↓l_x_par, ↓l_lh_n, ↓l_lh_c, ↓l_lh_a, ↓l_lh_o, ↓l_lh_f, ↓l_lh_fo, ↓l_x_setI, l_isC_l, l_isC_d, l_setR, l_setRo_d, l_setRo_l, ↓l_x_setF, ↓l_x_ownF, l_pF_dat, l_oF_dat, l_pF_lst, l_oF_lst, l_pF_dct, l_oF_dct, l_pF_fin, l_oF_fin, l_pF_tpo, l_oF_tpo, l_fRo, l_augR, ↓l_x_augV, l_augFR, ↓l_x_augF, l_augIR, ↓l_x_augI, ↓l_x_ex, ↓l_x_ret, ↓l_x_retM, l_rM_dat, l_rM_lst, l_rM_dct, l_rM_ins, l_rM_fin, ↓l_x_retN, ↓l_x_ite, ↓l_x_whl, ↓l_x_for, ↓l_x_brk, ↓l_x_cnt, ↓l_x_pass, ↓l_x_rai, ↓l_x_tri, ↓l_xs_n, ↓l_xs_c, l_fin_ret, l_fin_nx, l_fin_exc, l_newR, l_newRe, l_mexR, l_caxR, l_cf_call, l_cf_wf, l_ts_v, l_ts_t, l_tss_n, l_tss_c, l_obind, l_rngS, l_tu_nx, l_tu_cnt, l_tu_brk, l_tu_ret, l_tu_exc, ↓l_bind_ok, ↓l_bind_exc, ↓l_bind_no, ↓l_cond_t, ↓l_cond_f, ↓l_cnd_t, ↓l_cnd_f, ↓l_if_t, ↓l_if_f, ↓l_dB_dat, ↓l_dB_lst, ↓l_dB_dct, ↓l_opB_s, ↓l_opB_n, ↓l_tB, ↓l_finB, ↓l_insB, ↓l_sq_nx, ↓l_sq_brk, ↓l_sq_cnt, ↓l_sq_ret, ↓l_sq_exc, ↓l_sq_no, ↓l_tr_nx, ↓l_tr_exc, ↓l_tr_no, ↓l_evo_u, ↓l_evo_i, ↓l_tu_nx, ↓l_tu_cnt, ↓l_tu_brk, ↓l_tu_ret, ↓l_tu_exc, lw_g0, lw_g1, lw_g2, lw_g3, lw_g4, lw_g5, lw_g6, lw_g7, lw_g8, lw_m4_0, lw_m4_1, lw_m4_2, lw_m4_3, lw_m4_4, lw_m4_5, lw_i4, lw_f4_0, lw_f4_1, lw_f4_2, lw_f4_3, lw_f4_4, lw_wf, lw_sub, lw_pwf, q_0_0, q_0_1, q_0_2, q_0_3, q_0_4, q_0_5, q_0_6, q_0_7, q_0_8, q_1_0, q_1_1, q_1_2, q_1_3, q_1_4, q_1_5, q_1_6, q_1_7, q_1_8, q_2_0, q_2_1, q_2_2, q_2_3, q_2_4, q_2_5, q_2_6, q_2_7, q_2_8, q_3_0, q_3_1, q_3_2, q_3_3, q_3_4, q_3_5, q_3_6, q_3_7, q_3_8, q_4_0, q_4_1, q_4_2, q_4_3, q_4_4, q_4_5, q_4_6, q_4_7, q_4_8, q_5_0, q_5_1, q_5_2, q_5_3, q_5_4, q_5_5, q_5_6, q_5_7, q_5_8, q_6_0, q_6_1, q_6_2, q_6_3, q_6_4, q_6_5, q_6_6, q_6_7, q_6_8, q_7_0, q_7_1, q_7_2, q_7_3, q_7_4, q_7_5, q_7_6, q_7_7, q_7_8, q_8_0, q_8_1, q_8_2, q_8_3, q_8_4, q_8_5, q_8_6, q_8_7, q_8_8, List.replicate_zero, List.replicate_succ, List.append_nil, List.cons_append, List.nil_append, List.take_succ_cons, List.take_zero, Bool.false_eq_true, Bool.not_true, Bool.not_false, Bool.and_true, Bool.true_and, Bool.and_false, Bool.false_and, Bool.or_true, Bool.true_or, Bool.or_false, Bool.false_or, Option.some.injEq, List.length_cons, List.length_nil, decide_true, decide_false, List.map_cons, List.map_nil, reduceCtorEq, List.length_append, List.length_replicate, List.length_map, Nat.reduceAdd, Nat.reduceSub, Nat.reduceEqDiff, Nat.reduceBEq, Int.reduceNeg, Int.toNat_natCast, Option.getD_some, Option.getD_none, $ts,*] at $l:term ⊢)

def isW (d : D) (a b : Int) : Bool := match d with | .int i => decide (a ≤ i) && decide (i ≤ b) | _ => false
theorem is_whole_ok (n : Nat) (d : D) (a b : Int) : callF PG (n+1) 0 [.dat d, .dat (.int a), .dat (.int b)] = .ok (.dat (.bool (isW d a b))) [.dat d, .dat (.int a), .dat (.int b)] := by
  rw [(callF_at (P := PG) (fn := ⟨3, 3, bd0⟩) rfl rfl)]
  cases d with
  | int i =>
    push_cast [l_bind_no, bd0, isW]
    cases decide (a ≤ i) <;> push_cast [l_bind_no]
  | _ => push_cast [l_bind_no, bd0, isW]
theorem check_numbers_ok (n : Nat) (d e : D) : callF PG (n+2) 1 [.dat d, .dat e] = if (isW d 1 1000 && isW e 1 1000) = true then .ok (.dat .none) [.dat d, .dat e] else .exc 3 [] [.dat d, .dat e] := by
  rw [(callF_at (P := PG) (fn := ⟨2, 2, bd1⟩) rfl rfl)]
  push_cast [l_bind_no, bd1, is_whole_ok]
  cases isW d 1 1000 <;> push_cast [l_bind_no, is_whole_ok]
  cases isW e 1 1000 <;> push_cast [l_bind_no]
theorem l_comb (i j : Int) : biD .comb [.int i, .int j] = if (decide (0 ≤ i) && decide (0 ≤ j) && decide (i < 2 ^ 64) && decide (j ≤ 9000 ∨ i ≤ 18000)) = true then some (.int (PySem.W.mcComb i j)) else none := by
  simp only [biD]
theorem l_comb2 (i j : Nat) (h : i ≤ 18000) : biD .comb [.int i, .int j] = some (.int (ch i j : Nat)) := by
  have e : (decide (0 ≤ (i : Int)) && decide (0 ≤ (j : Int)) && decide ((i : Int) < 2 ^ 64) && decide ((j : Int) ≤ 9000 ∨ (i : Int) ≤ 18000)) = true := by
    simp only [Bool.and_eq_true, decide_eq_true_eq]
    omega
  rw [l_comb, if_pos e, comb_ch]
theorem reach_by_ok (n s t : Nat) (h : s + t ≤ 18000) : callF PG (n+1) 13 [.dat (.int s), .dat (.int t)] = .ok (.dat (.int (ch (s + t) s : Nat))) [.dat (.int s), .dat (.int t)] := by
  rw [(callF_at (P := PG) (fn := ⟨2, 2, bd13⟩) rfl rfl)]
  have e := l_comb2 (s + t) s h
  rw [Int.natCast_add] at e
  push_cast [l_bind_no, bd13, e]
theorem times_lp (n m s : Nat) (hs : 1 ≤ s) (hm : s + m ≤ 17000) : ∀ (d t : Nat), t + d = tb m s → ∀ w, d < w → whlN (cfOf PG (n+1)) subT (.cmp .lt (.call 13 [(.var 1), (.var 2)]) (.var 0)) [(.augV 2 .add (.int 1))] w [.dat (.int m), .dat (.int s), .dat (.int t)] = .ok .nx [.dat (.int m), .dat (.int s), .dat (.int (tb m s))]
  | d, t, h, 0, hw => by omega
  | d, t, h, w + 1, hw => by
    have le := tb_le m hs
    rw [whl_c]
    push_cast [l_bind_no, reach_by_ok n s t (by omega)]
    cases d with
    | zero =>
      have := tb_ge m hs
      have e : decide (((ch (s + t) s : Nat) : Int) < (m : Int)) = false := decide_eq_false (by rw [show t = tb m s by omega]; omega)
      push_cast [l_bind_no, e]
      rw [show t = tb m s by omega]
    | succ d =>
      have := tb_lt m hs t (by omega)
      have e : decide (((ch (s + t) s : Nat) : Int) < (m : Int)) = true := decide_eq_true (by omega)
      push_cast [l_bind_no, e]
      exact times_lp n m s hs hm d (t + 1) (by omega) w (by omega)
theorem times_by_ok (n m s : Nat) (hs : 1 ≤ s) (hm : s + m ≤ 17000) : callF PG (n+2) 14 [.dat (.int m), .dat (.int s)] = .ok (.dat (.int (tb m s))) [.dat (.int m), .dat (.int s)] := by
  rw [(callF_at (P := PG) (fn := ⟨2, 3, bd14⟩) rfl rfl)]
  have le := tb_le m hs
  have e := times_lp n m s hs hm (tb m s) 0 (by omega) wfT (by unfold wfT; omega)
  push_cast [l_bind_no, bd14]
  rw [show (0 : Int) = ((0 : Nat) : Int) from rfl, e]
  push_cast [l_bind_no]
theorem fewest_by_ok (n m s : Nat) (hs : 1 ≤ s) (hm : s + m ≤ 16000) : callF PG (n+3) 15 [.dat (.int m), .dat (.int s)] = .ok (.dat (.int (fS m s))) [.dat (.int m), .dat (.int s)] := by
  rw [(callF_at (P := PG) (fn := ⟨2, 3, bd15⟩) rfl rfl)]
  have le := tb_le m hs
  have e := l_comb2 (s + tb m s) (s + 1) (by omega)
  rw [Int.natCast_add, Int.natCast_add] at e
  have e2 : mulOk (tb m s) m = true := by
    unfold mulOk
    rw [Bool.or_eq_true, Bool.or_eq_true]
    exact .inl (.inl (decide_eq_true (by omega)))
  push_cast [l_bind_no, bd15, times_by_ok n m s hs (by omega), e2, show (1 : Int) = ((1 : Nat) : Int) from rfl, e, fS, gS]
theorem fewest_steps_ok (n m s : Nat) (hs : 1 ≤ s) (hs2 : s ≤ 1000) (hm : 1 ≤ m) (hm2 : m ≤ 1000) : callF PG (n+4) 16 [.dat (.int m), .dat (.int s)] = .ok (.dat (.int (fS m s))) [.dat (.int m), .dat (.int s)] := by
  rw [(callF_at (P := PG) (fn := ⟨2, 2, bd16⟩) rfl rfl)]
  have e1 : isW (.int m) 1 1000 = true := by simp [isW]; omega
  have e2 : isW (.int s) 1 1000 = true := by simp [isW]; omega
  push_cast [l_bind_no, bd16, check_numbers_ok (n+1), e1, e2, fewest_by_ok n m s hs (by omega)]
def keepP (n s k : Nat) : Bool := decide ((k : Int) + fS (n - k) (s - 1) + fS k s = fS n s)
def keepsL (n s : Nat) : List Nat := if n = 1 ∨ s = 1 then [] else (List.range' 1 (n - 1)).filter (keepP n s)
theorem keeps_lp (n m s : Nat) (hs : 2 ≤ s) (hm : s + m ≤ 16000) : ∀ (d k : Nat) (acc : List D) (o : O), 1 ≤ k → k + d = m → acc.length < k → ∃ o', forX (cfOf PG (n+3)) subT (.v 4) [(.ite (.cmp .eq (.bop .add (.bop .add (.var 4) (.call 15 [(.bop .sub (.var 0) (.var 4)), (.bop .sub (.var 1) (.int 1))])) (.call 15 [(.var 4), (.var 1)])) (.var 2)) [(.ex (.mu .append (.v 3) [(.var 4)]))] [])] (rangeD (k : Nat) 1 d) [.dat (.int m), .dat (.int s), .dat (.int (fS m s)), .lst acc, o] =
    .ok .nx [.dat (.int m), .dat (.int s), .dat (.int (fS m s)), .lst (acc ++ ((List.range' k d).filter (keepP m s)).map nD), o']
  | 0, k, acc, o, hk, hd, ha => ⟨o, by rw [rangeD_z, for_n]; simp⟩
  | d + 1, k, acc, o, hk, hd, ha => by
    have e1 : (m : Int) - (k : Int) = ((m - k : Nat) : Int) := by omega
    have e2 : (s : Int) - (1 : Int) = ((s - 1 : Nat) : Int) := by omega
    have e3 : (k : Int) + 1 = ((k + 1 : Nat) : Int) := by omega
    rw [rangeD_s, for_c, e3]
    have ih := keeps_lp n m s hs hm d (k + 1)
    push_cast [l_bind_no, e1, e2, fewest_by_ok n (m - k) (s - 1) (by omega) (by omega), fewest_by_ok n k s (by omega) (by omega)]
    rw [show List.range' k (d + 1) = k :: List.range' (k + 1) d from rfl, List.filter_cons]
    rw [show keepP m s k = decide ((k : Int) + fS (m - k) (s - 1) + fS k s = fS m s) from rfl]
    cases decide ((k : Int) + fS (m - k) (s - 1) + fS k s = fS m s) with
    | true =>
      push_cast [l_bind_no, szK (show acc.length + 1 ≤ 16000000 by omega)]
      obtain ⟨o', e⟩ := ih (acc ++ [nD k]) (.dat (nD k)) (by omega) (by omega) (by simp; omega)
      rw [List.append_assoc] at e
      exact ⟨o', e⟩
    | false =>
      push_cast [l_bind_no]
      exact ih acc (.dat (nD k)) (by omega) (by omega) (by omega)
theorem keeps_by_ok (n m s : Nat) (hs : 1 ≤ s) (h1 : 1 ≤ m) (hm : s + m ≤ 16000) : callF PG (n+4) 17 [.dat (.int m), .dat (.int s)] = .ok (.dat (.tuple ((keepsL m s).map nD))) [.dat (.int m), .dat (.int s)] := by
  rw [(callF_at (P := PG) (fn := ⟨2, 5, bd17⟩) rfl rfl)]
  push_cast [l_bind_no, bd17]
  by_cases c1 : m = 1
  · subst c1
    have e : decide (((1 : Nat) : Int) = 1) = true := by decide
    push_cast [l_bind_no, e]
    rfl
  · have e : decide ((m : Int) = 1) = false := decide_eq_false (by omega)
    by_cases c2 : s = 1
    · subst c2
      have e' : decide (((1 : Nat) : Int) = 1) = true := by decide
      push_cast [l_bind_no, e, e']
      simp [keepsL]
    · have e' : decide ((s : Int) = 1) = false := decide_eq_false (by omega)
      obtain ⟨o', el⟩ := keeps_lp n m s (by omega) hm (m - 1) 1 [] .un (by omega) (by omega) (by simp)
      rw [List.nil_append] at el
      have er := rng2 1 m (by omega) (by omega)
      rw [show ((1 : Nat) : Int) = 1 from rfl] at er el
      push_cast [l_bind_no, e, e', fewest_by_ok n m s hs hm, er, el]
      rw [keepsL, if_neg (by omega)]
/-! moves -/
def mvStep : D := .tuple [.str "step"]
def mvKeep : D := .tuple [.str "keep"]
def mvUndo : D := .tuple [.str "undo"]
def mvTake (k : Nat) : D := .tuple [.str "take", .int k]
def mvDrop (k : Nat) : D := .tuple [.str "drop", .int k]
/-- so many steps down from here, each undone -/
def loneL (b : Nat) : Nat → List D
  | 0 => []
  | n + 1 => List.replicate n mvStep ++ [mvUndo] ++ (if 0 < n then [mvTake b] else []) ++ loneL b n
theorem loneL_len (b : Nat) : ∀ n, 2 * (loneL b n).length ≤ n * (n + 3)
  | 0 => by simp [loneL]
  | n + 1 => by
    have ih := loneL_len b n
    have e : (n + 1) * (n + 1 + 3) = n * (n + 3) + (2 * n + 4) := by
      rw [Nat.add_mul, Nat.mul_add n (n + 1) 3, Nat.mul_add n n 3, Nat.mul_add n n 1]; omega
    rw [loneL, List.length_append, List.length_append, List.length_append, List.length_replicate]
    split
    · simp; omega
    · simp; omega
theorem rep_flat (n : Nat) (d : D) : (List.replicate n [d]).flatten = List.replicate n d := by
  induction n with
  | zero => rfl
  | succ n ih => rw [List.replicate_succ, List.flatten_cons, ih, List.replicate_succ]; rfl
theorem mul_list (d : D) (k : Nat) (h : k ≤ 16000000) : bopD .mul (.list [d]) (.int k) = some (.lst (List.replicate k d)) := by
  have e1 : decide ((k : Int) < 2 ^ 62) = true := decide_eq_true (by omega)
  have e2 : decide (-(2 ^ 62) ≤ (k : Int)) = true := decide_eq_true (by omega)
  have e3 : szOk ([d].length * (k : Int).toNat) = true := by rw [Int.toNat_natCast]; exact szK (by simp; omega)
  rw [bopD, e1, e2, e3, Int.toNat_natCast, rep_flat]
  rfl
theorem lone_lp (n b m : Nat) (hm : m ≤ 1000) : ∀ (k : Nat) (acc : List D) (o : O), k ≤ m → acc.length + 2000 * k ≤ 16000000 → ∃ o', forX (cfOf PG (n+3)) subT (.v 3) [(.ex (.mu .extend (.v 2) [(.bop .add (.bop .mul (.lst [(.tup [(.glb 3)])]) (.var 3)) (.lst [(.tup [(.glb 7)])]))])), (.ite (.cmp .gt (.var 3) (.int 0)) [(.ex (.mu .append (.v 2) [(.tup [(.glb 6), (.var 0)])]))] [])] (rangeD ((k : Int) - 1) (-1) k) [.dat (.int b), .dat (.int m), .lst acc, o] =
    .ok .nx [.dat (.int b), .dat (.int m), .lst (acc ++ loneL b k), o']
  | 0, acc, o, hk, ha => ⟨o, by rw [rangeD_z, for_n, loneL, List.append_nil]⟩
  | k + 1, acc, o, hk, ha => by
    have e1 : (((k + 1 : Nat) : Int) - 1) = (k : Int) := by omega
    have e2 : (k : Int) + -1 = (k : Int) - 1 := by omega
    rw [e1, rangeD_s, for_c, e2]
    have e3 := mul_list (.tuple [.str "step"]) k (by omega)
    push_cast [l_bind_no, e3]
    by_cases c : 0 < k
    · have e : decide ((0 : Int) < (k : Int)) = true := decide_eq_true (by omega)
      push_cast [l_bind_no, e]
      obtain ⟨o', h⟩ := lone_lp n b m hm k (acc ++ (List.replicate k (.tuple [.str "step"]) ++ [.tuple [.str "undo"]]) ++ [.tuple [.str "take", .int b]]) (.dat (nD k)) (by omega) (by simp; omega)
      refine ⟨o', h.trans ?_⟩
      rw [loneL, if_pos c]
      simp [mvStep, mvUndo, mvTake]
    · have e : decide ((0 : Int) < (k : Int)) = false := decide_eq_false (by omega)
      push_cast [l_bind_no, e]
      obtain ⟨o', h⟩ := lone_lp n b m hm k (acc ++ (List.replicate k (.tuple [.str "step"]) ++ [.tuple [.str "undo"]])) (.dat (nD k)) (by omega) (by simp; omega)
      refine ⟨o', h.trans ?_⟩
      rw [loneL, if_neg c]
      simp [mvStep, mvUndo]
theorem lone_ok (n b m : Nat) (hm : m ≤ 1000) : callF PG (n+4) 19 [.dat (.int b), .dat (.int m)] = .ok (.lst (loneL b m)) [.dat (.int b), .dat (.int m)] := by
  rw [(callF_at (P := PG) (fn := ⟨2, 4, bd19⟩) rfl rfl)]
  obtain ⟨o', e⟩ := lone_lp n b m hm m [] .un (Nat.le_refl _) (by simp; omega)
  rw [List.nil_append] at e
  push_cast [l_bind_no, bd19, rng3 m (by omega), e]
theorem mu_popL (W : List D) (y : D) : muD .pop (.lst (W ++ [y])) [] = some (.dat y, .lst W) := by
  simp only [muD, List.getLast?_concat, List.dropLast_concat]
theorem pos_s (n : Nat) : decide ((0 : Int) < ((n + 1 : Nat) : Int)) = true := decide_eq_true (by omega)
theorem pos_s2 (n : Nat) : decide ((0 : Int) < ((n : Nat) : Int) + 1) = true := decide_eq_true (by omega)
def lastK (n s : Nat) : Nat := (keepsL n s).getLastD 0
theorem keepsL_last {n s : Nat} (hs : 2 ≤ s) (hn : 2 ≤ n) : ∃ l, keepsL n s = l ++ [lastK n s] ∧ 1 ≤ lastK n s ∧ lastK n s < n ∧ fS n s = lastK n s + fS (n - lastK n s) (s - 1) + fS (lastK n s) s := by
  obtain ⟨k, k1, k2, k3⟩ := fS_some (n := n) (s := s) hs hn
  have hk : k ∈ keepsL n s := by
    unfold keepsL
    rw [if_neg (by omega), List.mem_filter]
    refine ⟨List.mem_range'.mpr ⟨k - 1, by omega, by omega⟩, ?_⟩
    unfold keepP
    exact decide_eq_true k3.symm
  have hne : keepsL n s ≠ [] := fun e => by rw [e] at hk; cases hk
  have e : keepsL n s = (keepsL n s).dropLast ++ [(keepsL n s).getLast hne] := (List.dropLast_concat_getLast hne).symm
  have e2 : lastK n s = (keepsL n s).getLast hne := by
    unfold lastK
    rw [List.getLastD_eq_getLast?, List.getLast?_eq_getLast hne]; rfl
  have hm : lastK n s ∈ keepsL n s := by rw [e2]; exact List.getLast_mem hne
  rw [← e2] at e
  unfold keepsL at hm
  rw [if_neg (by omega), List.mem_filter] at hm
  obtain ⟨h1, h2⟩ := hm
  obtain ⟨i, h3, h4⟩ := List.mem_range'.mp h1
  unfold keepP at h2
  exact ⟨_, e, by omega, by omega, (of_decide_eq_true h2).symm⟩
def bpL : Nat → Nat → Nat → Nat → List D
  | 0, _, _, _ => []
  | f + 1, b, n, s => if n = 1 ∨ s = 1 then loneL b n else
    List.replicate (lastK n s) mvStep ++ [mvKeep] ++ bpL f (b + lastK n s) (n - lastK n s) (s - 1) ++ [mvDrop (b + lastK n s), mvTake b] ++ bpL f b (lastK n s) s
def cst : Nat → Nat → Nat → Nat
  | 0, _, _ => 0
  | f + 1, n, s => if n = 1 ∨ s = 1 then 1 else cst f (lastK n s) s + 1 + cst f (n - lastK n s) (s - 1) + 1
theorem sq_split {j k : Nat} (hj : 1 ≤ j) (hk : 1 ≤ k) : k + 3 + 3 * (j * j) + 3 * (k * k) ≤ 3 * ((j + k) * (j + k)) := by
  have e : (j + k) * (j + k) = j * j + k * k + 2 * (j * k) := by
    rw [Nat.add_mul, Nat.mul_add, Nat.mul_add, Nat.mul_comm k j]; omega
  have h1 : k ≤ j * k := Nat.le_mul_of_pos_left k hj
  omega
theorem bpL_len : ∀ (f b n s : Nat), 1 ≤ n → n ≤ f → 1 ≤ s → (bpL f b n s).length ≤ 3 * (n * n)
  | 0, b, n, s, h1, h2, hs => by omega
  | f + 1, b, n, s, h1, h2, hs => by
    rw [bpL]
    split
    · have := loneL_len b n
      have e : n * (n + 3) = n * n + 3 * n := by rw [Nat.mul_add]; omega
      have : n ≤ n * n := Nat.le_mul_of_pos_left n h1
      omega
    · rename_i c
      obtain ⟨l, e, k1, k2, _⟩ := keepsL_last (n := n) (s := s) (by omega) (by omega)
      have a := bpL_len f (b + lastK n s) (n - lastK n s) (s - 1) (by omega) (by omega) (by omega)
      have c := bpL_len f b (lastK n s) s (by omega) (by omega) (by omega)
      have q := sq_split (j := n - lastK n s) (k := lastK n s) (by omega) (by omega)
      rw [show n - lastK n s + lastK n s = n by omega] at q
      simp only [List.length_append, List.length_replicate, List.length_cons, List.length_nil]
      omega
theorem cst_le : ∀ (f n s : Nat), 1 ≤ n → n ≤ f → 1 ≤ s → cst f n s ≤ 3 * n - 2
  | 0, n, s, h1, h2, hs => by omega
  | f + 1, n, s, h1, h2, hs => by
    rw [cst]
    split
    · omega
    · obtain ⟨l, e, k1, k2, _⟩ := keepsL_last (n := n) (s := s) (by omega) (by omega)
      have a := cst_le f (n - lastK n s) (s - 1) (by omega) (by omega) (by omega)
      have c := cst_le f (lastK n s) s (by omega) (by omega) (by omega)
      omega
def itU (b n s : Nat) : D := .tuple [.str "undo", .int b, .int n, .int s]
def itB (b c s : Nat) : D := .tuple [.str "back", .int b, .int c, .int s]
def SB (M P : D) (acc W : List D) (o4 o5 o6 o7 o8 : O) : St := [.dat M, .dat P, .lst acc, .lst W, o4, o5, o6, o7, o8]
abbrev whP (q w : Nat) (s : St) : R Fl := whlN (cfOf PG (q+4)) subT (.cmp .gt (.bi .len [(.var 3)]) (.int 0)) [(.unp (.t [(.v 4), (.v 5), (.v 6), (.v 7)]) (.mu .pop (.v 3) [])), (.ite (.cmp .eq (.var 4) (.str "back")) [(.ex (.mu .extend (.v 2) [(.lst [(.tup [(.glb 5), (.var 6)]), (.tup [(.glb 6), (.var 5)])])]))] [(.ite (.or (.cmp .eq (.var 6) (.int 1)) (.cmp .eq (.var 7) (.int 1))) [(.ex (.mu .extend (.v 2) [(.call 19 [(.var 5), (.var 6)])]))] [(.asg 8 (.idx (.call 17 [(.var 6), (.var 7)]) (.neg (.int 1)))), (.ex (.mu .extend (.v 2) [(.bop .add (.bop .mul (.lst [(.tup [(.glb 3)])]) (.var 8)) (.lst [(.tup [(.glb 4)])]))])), (.ex (.mu .append (.v 3) [(.tup [(.str "undo"), (.var 5), (.var 8), (.var 7)])])), (.ex (.mu .append (.v 3) [(.tup [(.str "back"), (.var 5), (.bop .add (.var 5) (.var 8)), (.var 7)])])), (.ex (.mu .append (.v 3) [(.tup [(.str "undo"), (.bop .add (.var 5) (.var 8)), (.bop .sub (.var 6) (.var 8)), (.bop .sub (.var 7) (.int 1))])]))])])] w s
theorem s_ub : decide ((Str.ofString "undo") = Str.ofString "back") = false := by decide
theorem s_bb : decide ((Str.ofString "back") = Str.ofString "back") = true := by decide
theorem back_lp (q : Nat) (M P : D) (acc W : List D) (b c r : Nat) (o4 o5 o6 o7 o8 : O) (w : Nat) (h : acc.length ≤ 15000000) : ∃ o4' o5' o6' o7' o8', whP q (w + 1) (SB M P acc (W ++ [itB b c r]) o4 o5 o6 o7 o8) = whP q w (SB M P (acc ++ [mvDrop c, mvTake b]) W o4' o5' o6' o7' o8') := by
  unfold whP SB itB
  rw [whl_c]
  push_cast [l_bind_no, pos_s, mu_popL, s_bb]
  exact ⟨_, _, _, _, _, rfl⟩
theorem undo_lone (q : Nat) (M P : D) (acc W : List D) (b n s : Nat) (o4 o5 o6 o7 o8 : O) (w : Nat) (hc : n = 1 ∨ s = 1) (hn : n ≤ 1000) (h : acc.length + 3 * (n * n) ≤ 16000000) (h1 : 1 ≤ n) : ∃ o4' o5' o6' o7' o8', whP q (w + 1) (SB M P acc (W ++ [itU b n s]) o4 o5 o6 o7 o8) = whP q w (SB M P (acc ++ loneL b n) W o4' o5' o6' o7' o8') := by
  unfold whP SB itU
  rw [whl_c]
  have hl := loneL_len b n
  have e : n * (n + 3) = n * n + 3 * n := by rw [Nat.mul_add]; omega
  have : n ≤ n * n := Nat.le_mul_of_pos_left n h1
  have hz : szOk (acc.length + (loneL b n).length) = true := szK (by omega)
  rcases hc with rfl | rfl
  · have e1 : decide (((1 : Nat) : Int) = 1) = true := by decide
    push_cast [l_bind_no, pos_s, mu_popL, s_ub, e1, lone_ok q b 1 (by omega), hz]
    exact ⟨_, _, _, _, _, rfl⟩
  · have e1 : decide (((1 : Nat) : Int) = 1) = true := by decide
    cases hd : decide ((n : Int) = 1) with
    | true =>
      push_cast [l_bind_no, pos_s, mu_popL, s_ub, e1, hd, lone_ok q b n hn, hz]
      exact ⟨_, _, _, _, _, rfl⟩
    | false =>
      push_cast [l_bind_no, pos_s, mu_popL, s_ub, e1, hd, lone_ok q b n hn, hz]
      exact ⟨_, _, _, _, _, rfl⟩
theorem undo_split (q : Nat) (M P : D) (acc W : List D) (b n s : Nat) (o4 o5 o6 o7 o8 : O) (w : Nat) (hn : 2 ≤ n) (hs : 2 ≤ s) (hn2 : n ≤ 1000) (hs2 : s ≤ 1000) (h : acc.length + n + 1 ≤ 16000000) (h2 : W.length + 3 ≤ 16000000) : ∃ o4' o5' o6' o7' o8', whP q (w + 1) (SB M P acc (W ++ [itU b n s]) o4 o5 o6 o7 o8) =
    whP q w (SB M P (acc ++ (List.replicate (lastK n s) mvStep ++ [mvKeep])) (W ++ [itU b (lastK n s) s] ++ [itB b (b + lastK n s) s] ++ [itU (b + lastK n s) (n - lastK n s) (s - 1)]) o4' o5' o6' o7' o8') := by
  obtain ⟨l, e, k1, k2, _⟩ := keepsL_last (n := n) (s := s) hs hn
  have e1 : decide ((n : Int) = 1) = false := decide_eq_false (by omega)
  have e2 : decide ((s : Int) = 1) = false := decide_eq_false (by omega)
  have e3 : idxD (.tuple ((keepsL n s).map nD)) (.int (-1)) = some (nD (lastK n s)) := by
    have : (keepsL n s).map nD = l.map nD ++ [nD (lastK n s)] := by
      conv => lhs; rw [e]
      rw [List.map_append]; rfl
    rw [this]; exact ix_last _ _
  have e4 := mul_list (.tuple [.str "step"]) (lastK n s) (by omega)
  have e5 : (b : Int) + (lastK n s : Int) = ((b + lastK n s : Nat) : Int) := by omega
  have e6 : (n : Int) - (lastK n s : Int) = ((n - lastK n s : Nat) : Int) := by omega
  have e7 : (s : Int) - (1 : Int) = ((s - 1 : Nat) : Int) := by omega
  unfold whP SB itU itB
  rw [whl_c]
  push_cast [l_bind_no, pos_s, mu_popL, s_ub, e1, e2, keeps_by_ok q n s (by omega) (by omega) (by omega), e3, e4, e5, e6, e7]
  exact ⟨_, _, _, _, _, rfl⟩
theorem bp_lp (q : Nat) (M P : D) : ∀ (f b n s : Nat) (acc W : List D) (o4 o5 o6 o7 o8 : O) (w : Nat), 1 ≤ n → n ≤ f → n ≤ 1000 → 1 ≤ s → s ≤ 1000 → acc.length + 3 * (n * n) ≤ 15000000 → W.length + 3 * n ≤ 15000000 →
    ∃ o4' o5' o6' o7' o8', whP q (w + cst f n s) (SB M P acc (W ++ [itU b n s]) o4 o5 o6 o7 o8) = whP q w (SB M P (acc ++ bpL f b n s) W o4' o5' o6' o7' o8')
  | 0, b, n, s, acc, W, o4, o5, o6, o7, o8, w, h1, h2, _, _, _, _, _ => by omega
  | f + 1, b, n, s, acc, W, o4, o5, o6, o7, o8, w, h1, h2, h3, h4, h5, h6, h7 => by
    rw [cst, bpL]
    by_cases c : n = 1 ∨ s = 1
    · rw [if_pos c, if_pos c]
      exact undo_lone q M P acc W b n s o4 o5 o6 o7 o8 w c h3 (by omega) h1
    · rw [if_neg c, if_neg c]
      obtain ⟨l, e, k1, k2, _⟩ := keepsL_last (n := n) (s := s) (by omega) (by omega)
      have sp := sq_split (j := n - lastK n s) (k := lastK n s) (by omega) (by omega)
      rw [show n - lastK n s + lastK n s = n by omega] at sp
      have hl := bpL_len f (b + lastK n s) (n - lastK n s) (s - 1) (by omega) (by omega) (by omega)
      have nn : n ≤ n * n := Nat.le_mul_of_pos_left n h1
      obtain ⟨p4, p5, p6, p7, p8, a1⟩ := undo_split q M P acc W b n s o4 o5 o6 o7 o8 (w + cst f (lastK n s) s + 1 + cst f (n - lastK n s) (s - 1)) (by omega) (by omega) h3 h5 (by omega) (by omega)
      obtain ⟨q4, q5, q6, q7, q8, a2⟩ := bp_lp q M P f (b + lastK n s) (n - lastK n s) (s - 1) (acc ++ (List.replicate (lastK n s) mvStep ++ [mvKeep])) (W ++ [itU b (lastK n s) s] ++ [itB b (b + lastK n s) s]) p4 p5 p6 p7 p8 (w + cst f (lastK n s) s + 1) (by omega) (by omega) (by omega) (by omega) (by omega) (by simp only [List.length_append, List.length_replicate, List.length_cons, List.length_nil]; omega) (by simp only [List.length_append, List.length_cons, List.length_nil]; omega)
      obtain ⟨r4, r5, r6, r7, r8, a3⟩ := back_lp q M P (acc ++ (List.replicate (lastK n s) mvStep ++ [mvKeep]) ++ bpL f (b + lastK n s) (n - lastK n s) (s - 1)) (W ++ [itU b (lastK n s) s]) b (b + lastK n s) s q4 q5 q6 q7 q8 (w + cst f (lastK n s) s) (by simp only [List.length_append, List.length_replicate, List.length_cons, List.length_nil]; omega)
      obtain ⟨t4, t5, t6, t7, t8, a4⟩ := bp_lp q M P f b (lastK n s) s (acc ++ (List.replicate (lastK n s) mvStep ++ [mvKeep]) ++ bpL f (b + lastK n s) (n - lastK n s) (s - 1) ++ [mvDrop (b + lastK n s), mvTake b]) W r4 r5 r6 r7 r8 w (by omega) (by omega) (by omega) (by omega) (by omega) (by simp only [List.length_append, List.length_replicate, List.length_cons, List.length_nil]; omega) (by omega)
      refine ⟨t4, t5, t6, t7, t8, ?_⟩
      rw [show w + (cst f (lastK n s) s + 1 + cst f (n - lastK n s) (s - 1) + 1) = w + cst f (lastK n s) s + 1 + cst f (n - lastK n s) (s - 1) + 1 by omega, a1, a2, a3, a4]
      congr 2
      simp only [List.append_assoc]
theorem best_plan_ok (q n s : Nat) (h1 : 1 ≤ n) (h2 : n ≤ 400) (h3 : 1 ≤ s) (h4 : s ≤ 1000) : callF PG (q+5) 20 [.dat (.int n), .dat (.int s)] = .ok (.dat (.tuple (bpL n 0 n s))) [.dat (.int n), .dat (.int s)] := by
  rw [(callF_at (P := PG) (fn := ⟨2, 9, bd20⟩) rfl rfl)]
  have e1 : isW (.int n) 1 1000 = true := by simp [isW]; omega
  have e2 : isW (.int s) 1 1000 = true := by simp [isW]; omega
  have e3 : decide ((400 : Int) < (n : Int)) = false := decide_eq_false (by omega)
  have nn : n * n ≤ 400 * 400 := Nat.mul_le_mul h2 h2
  have hc := cst_le n n s h1 (Nat.le_refl _) h3
  obtain ⟨r4, r5, r6, r7, r8, e4⟩ := bp_lp q (.int n) (.int s) n 0 n s [] [] .un .un .un .un .un (1000000 - cst n n s) h1 (Nat.le_refl _) (by omega) h3 h4 (by simp; omega) (by simp; omega)
  rw [show 1000000 - cst n n s + cst n n s = wfT from by unfold wfT; omega, List.nil_append, List.nil_append] at e4
  have e5 : whP q (1000000 - cst n n s) (SB (.int n) (.int s) (bpL n 0 n s) [] r4 r5 r6 r7 r8) = .ok .nx (SB (.int n) (.int s) (bpL n 0 n s) [] r4 r5 r6 r7 r8) := by
    rw [show 1000000 - cst n n s = (999999 - cst n n s) + 1 by omega]
    unfold whP SB
    rw [whl_c]
    push_cast [l_bind_no, show decide ((0 : Int) < ((0 : Nat) : Int)) = false from by decide]
  have e6 := e4.trans e5
  unfold whP SB itU at e6
  rw [show ((0 : Nat) : Int) = 0 from rfl] at e6
  push_cast [l_bind_no, bd20, check_numbers_ok (q+2), e1, e2, e3, e6]
/-! the walk -/
def tget : List (Nat × Nat) → Nat → Nat
  | [], _ => 0
  | (a, c) :: r, k => if a = k then c else tget r k
def tinc : List (Nat × Nat) → Nat → List (Nat × Nat)
  | [], k => [(k, 1)]
  | (a, c) :: r, k => if a = k then (a, c + 1) :: r else (a, c) :: tinc r k
def tmG (p : Nat × Nat) : Nat × D := (p.1, nD p.2)
theorem tget_ok (k : Nat) : ∀ tm : List (Nat × Nat), (nlook (tm.map tmG) k).getD (.int 0) = nD (tget tm k)
  | [] => rfl
  | (a, c) :: r => by
    rw [List.map_cons, tget]
    show (if a = k then some (nD c) else nlook (r.map tmG) k).getD (.int 0) = _
    by_cases h : a = k
    · rw [if_pos h, if_pos h]; rfl
    · rw [if_neg h, if_neg h]; exact tget_ok k r
theorem tinc_ok (k : Nat) : ∀ tm : List (Nat × Nat), nput (tm.map tmG) k (nD (tget tm k + 1)) = (tinc tm k).map tmG
  | [] => rfl
  | (a, c) :: r => by
    rw [List.map_cons, tget, tinc]
    show (if a = k then (a, _) :: r.map tmG else (a, nD c) :: nput (r.map tmG) k _) = _
    by_cases h : a = k
    · rw [if_pos h, if_pos h, if_pos h]; rfl
    · rw [if_neg h, if_neg h, if_neg h, tinc_ok k r]; rfl
structure Ws where
  left : Nat
  here : Nat
  kept : List Nat
  tm : List (Nat × Nat)
def kG (k : Nat) : Nat × D := (k, .bool true)
def wkO (p : Int) (w : Ws) : O := .ins 4 [(0, .dat (.int p)), (1, .dat (.int w.left)), (2, .dat (.int w.here)), (3, .dct (ndict (w.kept.map kG))), (4, .dct (ndict (w.tm.map tmG)))]
theorem kG_keys (l : List Nat) : nkeys (l.map kG) = l := by unfold nkeys; rw [List.map_map]; exact List.map_id' l
theorem tmG_keys (l : List (Nat × Nat)) : nkeys (l.map tmG) = l.map (·.1) := by unfold nkeys; rw [List.map_map]; rfl
theorem init_ok (q n : Nat) (p : Int) : callF PG (q+1) 2 [.ins 4 [], .dat (.int n), .dat (.int p)] = .ok (.dat .none) [wkO p ⟨n, 0, [0], []⟩, .dat (.int n), .dat (.int p)] := by
  rw [(callF_at (P := PG) (fn := ⟨3, 3, bd2⟩) rfl rfl)]
  have e : dputs [] [(PyData.int 0, PyData.bool true)] = some [(PyData.int 0, PyData.bool true)] := by rfl
  have e0 : dputs [] [] = some [] := rfl
  push_cast [l_bind_no, bd2, pairUp, e, e0]
  rfl
structure WsOk (w : Ws) : Prop where
  k : w.kept.Nodup
  t : (w.tm.map (·.1)).Nodup
  l : w.kept.length ≤ 15000000
  m : w.tm.length ≤ 15000000
theorem go_ok (q : Nat) (p : Int) (w : Ws) (ok : WsOk w) : callF PG (q+1) 3 [wkO p w] = if w.left ≤ w.here then .ok (.dat (.bool false)) [wkO p w] else .ok (.dat (.bool true)) [wkO p { w with here := w.here + 1, tm := tinc w.tm w.here }] := by
  rw [(callF_at (P := PG) (fn := ⟨1, 1, bd3⟩) rfl rfl)]
  unfold wkO
  by_cases h : w.left ≤ w.here
  · have e : decide ((w.left : Int) ≤ w.here) = true := decide_eq_true (by omega)
    push_cast [l_bind_no, bd3, e]
    rw [if_pos h]
  · have e : decide ((w.left : Int) ≤ w.here) = false := decide_eq_false (by omega)
    have e1 := kOk_n (w.tm.map tmG) w.here
    have e2 := dget_n (w.tm.map tmG) w.here
    have e3 : dputO (ndict (w.tm.map tmG)) (nD w.here) (nD (tget w.tm w.here + 1)) = some (ndict ((tinc w.tm w.here).map tmG)) := by
      rw [dputO_n (by rw [tmG_keys]; exact ok.t) _ _ (by rw [List.length_map]; have := ok.m; omega), tinc_ok]
    have e4 : ((tget w.tm w.here : Nat) : Int) + 1 = ((tget w.tm w.here + 1 : Nat) : Int) := by omega
    push_cast [l_bind_no, bd3, e, e1, e2, tget_ok, e4, e3]
    rw [if_neg h]
    rfl
theorem keep_ok (q : Nat) (p : Int) (w : Ws) (ok : WsOk w) : callF PG (q+1) 4 [wkO p w] = if w.here ∈ w.kept ∨ p ≤ w.kept.length then .ok (.dat (.bool false)) [wkO p w] else .ok (.dat (.bool true)) [wkO p { w with kept := w.kept ++ [w.here] }] := by
  rw [(callF_at (P := PG) (fn := ⟨1, 1, bd4⟩) rfl rfl)]
  unfold wkO
  have e1 := kOk_n (w.kept.map kG) w.here
  have e2 := dhas_n (w.kept.map kG) w.here
  rw [kG_keys] at e2
  have e3 := ndict_len (w.kept.map kG)
  rw [List.length_map] at e3
  by_cases h : w.here ∈ w.kept
  · push_cast [l_bind_no, bd4, e1, e2, decide_eq_true h]
    rw [if_pos (.inl h)]
  · by_cases h2 : p ≤ w.kept.length
    · push_cast [l_bind_no, bd4, e1, e2, decide_eq_false h, e3, decide_eq_true h2]
      rw [if_pos (.inr h2)]
    · have e4 : dputO (ndict (w.kept.map kG)) (nD w.here) (.bool true) = some (ndict ((w.kept ++ [w.here]).map kG)) := by
        rw [dputO_n (by rw [kG_keys]; exact ok.k) _ _ (by rw [List.length_map]; have := ok.l; omega), nput_new (by rw [kG_keys]; exact h), List.map_append]; rfl
      push_cast [l_bind_no, bd4, e1, e2, decide_eq_false h, e3, decide_eq_false h2, e4]
      rw [if_neg (by rintro (x | x); exact h x; exact h2 x)]
theorem undo_ok (q : Nat) (p : Int) (w : Ws) : callF PG (q+1) 7 [wkO p w] = if w.here + 1 = w.left then .ok (.dat (.bool true)) [wkO p { w with left := w.left - 1 }] else .ok (.dat (.bool false)) [wkO p w] := by
  rw [(callF_at (P := PG) (fn := ⟨1, 1, bd7⟩) rfl rfl)]
  unfold wkO
  by_cases h : w.here + 1 = w.left
  · have e : decide ((w.here : Int) = (w.left : Int) - 1) = true := decide_eq_true (by omega)
    have e2 : (w.left : Int) - 1 = ((w.left - 1 : Nat) : Int) := by omega
    push_cast [l_bind_no, bd7, e]
    rw [if_pos h, e2]
  · have e : decide ((w.here : Int) = (w.left : Int) - 1) = false := decide_eq_false (by omega)
    push_cast [l_bind_no, bd7, e]
    rw [if_neg h]
theorem take_ok (q : Nat) (p : Int) (w : Ws) (k : Nat) : callF PG (q+1) 6 [wkO p w, .dat (.int k)] = if k ∈ w.kept then .ok (.dat (.bool true)) [wkO p { w with here := k }, .dat (.int k)] else .ok (.dat (.bool false)) [wkO p w, .dat (.int k)] := by
  rw [(callF_at (P := PG) (fn := ⟨2, 2, bd6⟩) rfl rfl)]
  unfold wkO
  have e1 := kOk_n (w.kept.map kG) k
  have e2 := dhas_n (w.kept.map kG) k
  rw [kG_keys] at e2
  by_cases h : k ∈ w.kept
  · push_cast [l_bind_no, bd6, e1, e2, decide_eq_true h]
    rw [if_pos h]
  · push_cast [l_bind_no, bd6, e1, e2, decide_eq_false h]
    rw [if_neg h]
theorem kG_look (l : List Nat) (k : Nat) : nlook (l.map kG) k = if k ∈ l then some (.bool true) else none := by
  induction l with
  | nil => rfl
  | cons a r ih =>
    rw [List.map_cons]
    show (if a = k then some (PyData.bool true) else nlook (r.map kG) k) = _
    rw [ih]
    by_cases h : a = k
    · rw [if_pos h, if_pos (by simp [h])]
    · rw [if_neg h]
      by_cases h2 : k ∈ r
      · rw [if_pos h2, if_pos (by simp [h2])]
      · rw [if_neg h2, if_neg (by simp [h2]; exact fun e => h e.symm)]
theorem kG_out (l : List Nat) (k : Nat) : dout (ndict (l.map kG)) (nD k) = ndict ((l.filter fun a => !decide (a = k)).map kG) := by
  rw [dout_n, List.filter_map]; rfl
theorem drop_ok (q : Nat) (p : Int) (w : Ws) (k : Nat) : callF PG (q+1) 5 [wkO p w, .dat (.int k)] = if k ∈ w.kept then .ok (.dat (.bool true)) [wkO p { w with kept := w.kept.filter fun a => !decide (a = k) }, .dat (.int k)] else .ok (.dat (.bool false)) [wkO p w, .dat (.int k)] := by
  rw [(callF_at (P := PG) (fn := ⟨2, 2, bd5⟩) rfl rfl)]
  unfold wkO
  have e1 := kOk_n (w.kept.map kG) k
  have e2 := dget_n (w.kept.map kG) k
  rw [kG_look] at e2
  have e3 : muD .dpopD (.dct (ndict (w.kept.map kG))) [nD k, .bool false] = if k ∈ w.kept then some (.dat (.bool true), .dct (ndict ((w.kept.filter fun a => !decide (a = k)).map kG))) else some (.dat (.bool false), .dct (ndict (w.kept.map kG))) := by
    simp only [muD, e1, e2, kG_out]
    by_cases h : k ∈ w.kept
    · simp only [if_pos h]; rfl
    · simp only [if_neg h]; rfl
  by_cases h : k ∈ w.kept
  · rw [if_pos h] at e3
    push_cast [l_bind_no, bd5, e3]
    rw [if_pos h]
  · rw [if_neg h] at e3
    push_cast [l_bind_no, bd5, e3]
    rw [if_neg h]
inductive Mv where
  | step | keep | undo
  | take (k : Nat)
  | drop (k : Nat)
def Mv.d : Mv → D
  | .step => .tuple [.str "step"]
  | .keep => .tuple [.str "keep"]
  | .undo => .tuple [.str "undo"]
  | .take k => .tuple [.str "take", .int k]
  | .drop k => .tuple [.str "drop", .int k]
def Mv.small : Mv → Prop
  | .take k => k ≤ 1000
  | .drop k => k ≤ 1000
  | _ => True
def mvS (p : Int) (w : Ws) : Mv → Option Ws
  | .step => if w.left ≤ w.here then none else some { w with here := w.here + 1, tm := tinc w.tm w.here }
  | .keep => if w.here ∈ w.kept ∨ p ≤ w.kept.length then none else some { w with kept := w.kept ++ [w.here] }
  | .undo => if w.here + 1 = w.left then some { w with left := w.left - 1 } else none
  | .take k => if k ∈ w.kept then some { w with here := k } else none
  | .drop k => if k ∈ w.kept then some { w with kept := w.kept.filter fun a => !decide (a = k) } else none
theorem is_whole_nat (k : Nat) (h : k ≤ 1000) : isW (.int k) 0 1000 = true := by simp [isW]; omega
theorem make_ok (q : Nat) (p : Int) (w : Ws) (ok : WsOk w) (m : Mv) (hm : m.small) : callF PG (q+2) 8 [wkO p w, .dat m.d] = match mvS p w m with
    | some w' => .ok (.dat (.bool true)) [wkO p w', .dat m.d]
    | none => .ok (.dat (.bool false)) [wkO p w, .dat m.d] := by
  rw [(callF_at (P := PG) (fn := ⟨2, 2, bd8⟩) rfl rfl)]
  have e1 := go_ok q p w ok
  have e2 := keep_ok q p w ok
  have e3 := undo_ok q p w
  unfold wkO at e1 e2 e3 ⊢
  cases m with
  | step =>
    by_cases h : w.left ≤ w.here
    · rw [if_pos h] at e1
      push_cast [l_bind_no, bd8, Mv.d, e1, mvS]
      rw [if_pos h]
    · rw [if_neg h] at e1
      push_cast [l_bind_no, bd8, Mv.d, e1, mvS]
      rw [if_neg h]
  | keep =>
    by_cases h : w.here ∈ w.kept ∨ p ≤ w.kept.length
    · rw [if_pos h] at e2
      push_cast [l_bind_no, bd8, Mv.d, e2, mvS]
      rw [if_pos h]
    · rw [if_neg h] at e2
      push_cast [l_bind_no, bd8, Mv.d, e2, mvS]
      rw [if_neg h]
  | undo =>
    by_cases h : w.here + 1 = w.left
    · rw [if_pos h] at e3
      push_cast [l_bind_no, bd8, Mv.d, e3, mvS]
      rw [if_pos h]
    · rw [if_neg h] at e3
      push_cast [l_bind_no, bd8, Mv.d, e3, mvS]
      rw [if_neg h]
  | take k =>
    have e4 := take_ok q p w k
    unfold wkO at e4
    by_cases h : k ∈ w.kept
    · rw [if_pos h] at e4
      push_cast [l_bind_no, bd8, Mv.d, e4, mvS, is_whole_ok, is_whole_nat k hm]
      rw [if_pos h]
    · rw [if_neg h] at e4
      push_cast [l_bind_no, bd8, Mv.d, e4, mvS, is_whole_ok, is_whole_nat k hm]
      rw [if_neg h]
  | drop k =>
    have e4 := drop_ok q p w k
    unfold wkO at e4
    by_cases h : k ∈ w.kept
    · rw [if_pos h] at e4
      push_cast [l_bind_no, bd8, Mv.d, e4, mvS, is_whole_ok, is_whole_nat k hm]
      rw [if_pos h]
    · rw [if_neg h] at e4
      push_cast [l_bind_no, bd8, Mv.d, e4, mvS, is_whole_ok, is_whole_nat k hm]
      rw [if_neg h]
def wkF (p : Int) (w : Ws) : O := .fin 4 [(0, .dat (.int p)), (1, .dat (.int w.left)), (2, .dat (.int w.here)), (3, .dat (.dict (ndict (w.kept.map kG)))), (4, .dat (.dict (ndict (w.tm.map tmG))))]
theorem fz_wk (p : Int) (w : Ws) : fz (wkO p w) = wkF p w := by
  unfold wkO wkF
  simp only [fz, fzs]
def runM (p : Int) : Ws → List Mv → Nat → Option Nat × Ws
  | w, [], _ => (none, w)
  | w, m :: ms, i => match mvS p w m with
    | some w' => runM p w' ms (i + 1)
    | none => (some i, w)
structure WsN (w : Ws) (n : Nat) : Prop where
  k : w.kept.Nodup
  t : (w.tm.map (·.1)).Nodup
  l : w.kept.length ≤ n
  m : w.tm.length ≤ n
theorem tinc_keys (k : Nat) : ∀ tm : List (Nat × Nat), (tinc tm k).map (·.1) = if k ∈ tm.map (·.1) then tm.map (·.1) else tm.map (·.1) ++ [k]
  | [] => rfl
  | (a, c) :: r => by
    rw [tinc]
    by_cases h : a = k
    · subst h; rw [if_pos rfl, if_pos (by simp)]; rfl
    · rw [if_neg h, List.map_cons, tinc_keys k r]
      by_cases h2 : k ∈ r.map (·.1)
      · rw [if_pos h2, if_pos (by simp only [List.map_cons, List.mem_cons]; exact .inr h2)]; rfl
      · rw [if_neg h2, if_neg (by simp only [List.map_cons, List.mem_cons, not_or]; exact ⟨fun e => h e.symm, h2⟩)]; rfl
theorem nodup_add {l : List Nat} {k : Nat} (h : l.Nodup) (q : k ∉ l) : (l ++ [k]).Nodup := by
  rw [List.nodup_append]
  exact ⟨h, by simp, fun a ha b hb => by simp at hb; subst hb; exact fun e => q (e ▸ ha)⟩
theorem WsN.go {p : Int} {w w' : Ws} {n : Nat} {m : Mv} (ok : WsN w n) (h : mvS p w m = some w') : WsN w' (n + 1) := by
  cases m with
  | step =>
    rw [mvS] at h
    split at h
    · cases h
    · cases h
      refine ⟨ok.k, ?_, Nat.le_succ_of_le ok.l, ?_⟩
      · show ((tinc w.tm w.here).map (·.1)).Nodup
        rw [tinc_keys]
        split
        · exact ok.t
        · rename_i q; exact nodup_add ok.t q
      · show (tinc w.tm w.here).length ≤ n + 1
        have e := congrArg List.length (tinc_keys w.here w.tm)
        rw [List.length_map] at e
        have := ok.m
        split at e
        · rw [List.length_map] at e; omega
        · rw [List.length_append, List.length_map] at e; simp at e; omega
  | keep =>
    rw [mvS] at h
    split at h
    · cases h
    · rename_i q
      cases h
      exact ⟨nodup_add ok.k fun x => q (.inl x), ok.t, by show (w.kept ++ [w.here]).length ≤ _; have := ok.l; simp; omega, Nat.le_succ_of_le ok.m⟩
  | undo =>
    rw [mvS] at h
    split at h
    · cases h; exact ⟨ok.k, ok.t, Nat.le_succ_of_le ok.l, Nat.le_succ_of_le ok.m⟩
    · cases h
  | take k =>
    rw [mvS] at h
    split at h
    · cases h; exact ⟨ok.k, ok.t, Nat.le_succ_of_le ok.l, Nat.le_succ_of_le ok.m⟩
    · cases h
  | drop k =>
    rw [mvS] at h
    split at h
    · cases h
      exact ⟨ok.k.sublist List.filter_sublist, ok.t, Nat.le_trans (List.length_filter_le _ _) (Nat.le_succ_of_le ok.l), Nat.le_succ_of_le ok.m⟩
    · cases h
theorem walk_lp (q : Nat) (p : Int) (a b c : D) : ∀ (ms : List Mv) (w : Ws) (i n : Nat) (o4 o5 : O), WsN w n → n + ms.length ≤ 15000000 → (∀ m ∈ ms, m.small) → ∃ o4' o5',
    forX (cfOf PG (q+2)) subT (.t [(.v 4), (.v 5)]) [(.ite (.not (.mex 5 (.v 3) [(.var 5)])) [(.frz 3), (.ret (.tup [(.tup [(.str "move"), (.var 4)]), (.var 3)]))] [])] (enumD i (ms.map Mv.d)) [.dat a, .dat b, .dat c, wkO p w, o4, o5] = match runM p w ms i with
      | (none, w') => .ok .nx [.dat a, .dat b, .dat c, wkO p w', o4', o5']
      | (some j, w') => .ok (.ret (.tpo [.dat (.tuple [.str "move", .int j]), wkF p w'])) [.dat a, .dat b, .dat c, wkF p w', o4', o5']
  | [], w, i, n, o4, o5, ok, hn, hs => ⟨o4, o5, by rw [runM]; exact for_n _ _ _ _ _⟩
  | m :: ms, w, i, n, o4, o5, ok, hn, hs => by
    rw [List.length_cons] at hn
    have e1 := make_ok q p w ⟨ok.k, ok.t, by have := ok.l; omega, by have := ok.m; omega⟩ m (hs m (.head _))
    rw [List.map_cons, enumD, for_c, runM]
    have ew := fz_wk p w
    unfold wkO at e1 ew
    cases h : mvS p w m with
    | none =>
      rw [h] at e1
      refine ⟨.dat (nD i), .dat m.d, ?_⟩
      unfold wkO
      simp only [] at e1
      push_cast [l_bind_no, e1, ew]
      unfold wkF
      push_cast [l_bind_no]
    | some w' =>
      rw [h] at e1
      obtain ⟨p4, p5, ih⟩ := walk_lp q p a b c ms w' (i + 1) (n + 1) (.dat (nD i)) (.dat m.d) (ok.go h) (by omega) fun x hx => hs x (.tail _ hx)
      refine ⟨p4, p5, ?_⟩
      rw [← ih]
      unfold wkO at ih ⊢
      simp only [] at e1
      push_cast [l_bind_no, e1]
def flD (r : Option Nat × Ws) : D := match r with
  | (some j, _) => .tuple [.str "move", .int j]
  | (none, w) => if w.left = 0 then .none else .tuple [.str "end"]
theorem walked_ok (q n : Nat) (p : Int) (ms : List Mv) (hm : ms.length ≤ 14000000) (hs : ∀ m ∈ ms, m.small) : callF PG (q+3) 9 [.dat (.int n), .dat (.int p), .dat (.tuple (ms.map Mv.d))] =
    .ok (.tpo [.dat (flD (runM p ⟨n, 0, [0], []⟩ ms 0)), wkF p (runM p ⟨n, 0, [0], []⟩ ms 0).2]) [.dat (.int n), .dat (.int p), .dat (.tuple (ms.map Mv.d))] := by
  rw [(callF_at (P := PG) (fn := ⟨3, 6, bd9⟩) rfl rfl)]
  have e1 := init_ok (q+1) n p
  obtain ⟨o4, o5, e2⟩ := walk_lp q p (.int n) (.int p) (.tuple (ms.map Mv.d)) ms ⟨n, 0, [0], []⟩ 0 1 .un .un ⟨by simp, by simp, by simp, by simp⟩ (by omega) hs
  have e3 : itrD .enum [.tuple (ms.map Mv.d)] = some (enumD 0 (ms.map Mv.d)) := rfl
  unfold wkO at e1
  push_cast [l_bind_no, bd9, e1, e3]
  have e4 : wkO p ⟨n, 0, [0], []⟩ = .ins 4 [(0, .dat (.int p)), (1, .dat (.int n)), (2, .dat (.int ((0 : Nat) : Int))), (3, .dct (ndict ([0].map kG))), (4, .dct (ndict (([] : List (Nat × Nat)).map tmG)))] := rfl
  rw [e4] at e2
  push_cast [l_bind_no] at e2 ⊢
  rw [e2]
  cases h : runM p ⟨n, 0, [0], []⟩ ms 0 with
  | mk r w' =>
    cases r with
    | some j =>
      push_cast [l_bind_no, flD]
    | none =>
      have ew := fz_wk p w'
      unfold wkO wkF at *
      by_cases hl : w'.left = 0
      · push_cast [l_bind_no, flD, ew, hl, if_pos]
      · push_cast [l_bind_no, flD, ew, hl, if_neg]
theorem steps_fault_ok (q n p : Nat) (ms : List Mv) (h1 : 1 ≤ n) (h2 : n ≤ 1000) (h3 : 1 ≤ p) (h4 : p ≤ 1000) (hm : ms.length ≤ 14000000) (hs : ∀ m ∈ ms, m.small) : callF PG (q+4) 10 [.dat (.int n), .dat (.int p), .dat (.tuple (ms.map Mv.d))] =
    .ok (.dat (flD (runM p ⟨n, 0, [0], []⟩ ms 0))) [.dat (.int n), .dat (.int p), .dat (.tuple (ms.map Mv.d))] := by
  rw [(callF_at (P := PG) (fn := ⟨3, 3, bd10⟩) rfl rfl)]
  have e1 : isW (.int n) 1 1000 = true := by simp [isW]; omega
  have e2 : isW (.int p) 1 1000 = true := by simp [isW]; omega
  have e3 : ∀ (x y : O), (ixN [x, y].length (0 : Int)).bind (fun j => [x, y][j]?) = some x := fun x y => rfl
  push_cast [l_bind_no, bd10, check_numbers_ok (q+1), e1, e2, walked_ok q n p ms hm hs, l_ixO_t]
  rfl
/-- how often it goes each step, summed -/
def tmSum (tm : List (Nat × Nat)) : Nat := (tm.map (·.2)).sum
theorem times_by2_ok (q n p : Nat) (ms : List Mv) (h1 : 1 ≤ n) (h2 : n ≤ 1000) (h3 : 1 ≤ p) (h4 : p ≤ 1000) (hm : ms.length ≤ 14000000) (hs : ∀ m ∈ ms, m.small) (hr : flD (runM p ⟨n, 0, [0], []⟩ ms 0) = .none) : callF PG (q+4) 11 [.dat (.int n), .dat (.int p), .dat (.tuple (ms.map Mv.d))] =
    .ok (.lst ((runM p ⟨n, 0, [0], []⟩ ms 0).2.tm.map fun x => nD x.2)) [.dat (.int n), .dat (.int p), .dat (.tuple (ms.map Mv.d))] := by
  rw [(callF_at (P := PG) (fn := ⟨3, 5, bd11⟩) rfl rfl)]
  have e1 : isW (.int n) 1 1000 = true := by simp [isW]; omega
  have e2 : isW (.int p) 1 1000 = true := by simp [isW]; omega
  have e3 : (ndict ((runM p ⟨n, 0, [0], []⟩ ms 0).2.tm.map tmG)).map (·.2) = (runM p ⟨n, 0, [0], []⟩ ms 0).2.tm.map fun x => nD x.2 := by
    unfold ndict; rw [List.map_map, List.map_map]; rfl
  have e4 := walked_ok q n p ms hm hs
  rw [hr] at e4
  unfold wkF at e4
  push_cast [l_bind_no, bd11, check_numbers_ok (q+1), e1, e2, e4, e3]
theorem times_bad_ok (q n p : Nat) (ms : List Mv) (h1 : 1 ≤ n) (h2 : n ≤ 1000) (h3 : 1 ≤ p) (h4 : p ≤ 1000) (hm : ms.length ≤ 14000000) (hs : ∀ m ∈ ms, m.small) (hr : isNn (.dat (flD (runM p ⟨n, 0, [0], []⟩ ms 0))) = false) : callF PG (q+4) 11 [.dat (.int n), .dat (.int p), .dat (.tuple (ms.map Mv.d))] =
    .exc 1 [] [.dat (.int n), .dat (.int p), .dat (.tuple (ms.map Mv.d))] := by
  rw [(callF_at (P := PG) (fn := ⟨3, 5, bd11⟩) rfl rfl)]
  have e1 : isW (.int n) 1 1000 = true := by simp [isW]; omega
  have e2 : isW (.int p) 1 1000 = true := by simp [isW]; omega
  have e4 := walked_ok q n p ms hm hs
  unfold wkF at e4
  push_cast [l_bind_no, bd11, check_numbers_ok (q+1), e1, e2, e4, hr]
theorem numsOf_n (l : List Nat) : numsOf (l.map nD) = some (l.map fun (k : Nat) => (k : Int)) := by
  induction l with
  | nil => rfl
  | cons a r ih => rw [List.map_cons, numsOf, ih]; rfl
theorem sum_n (l : List Nat) : (l.map fun (k : Nat) => (k : Int)).sum = (l.sum : Nat) := by
  induction l with
  | nil => rfl
  | cons a r ih => rw [List.map_cons, List.sum_cons, ih, List.sum_cons]; omega
theorem steps_of_ok (q n p : Nat) (ms : List Mv) (h1 : 1 ≤ n) (h2 : n ≤ 1000) (h3 : 1 ≤ p) (h4 : p ≤ 1000) (hm : ms.length ≤ 14000000) (hs : ∀ m ∈ ms, m.small) (hr : flD (runM p ⟨n, 0, [0], []⟩ ms 0) = .none) : callF PG (q+5) 12 [.dat (.int n), .dat (.int p), .dat (.tuple (ms.map Mv.d))] =
    .ok (.dat (nD (tmSum (runM p ⟨n, 0, [0], []⟩ ms 0).2.tm))) [.dat (.int n), .dat (.int p), .dat (.tuple (ms.map Mv.d))] := by
  rw [(callF_at (P := PG) (fn := ⟨3, 3, bd12⟩) rfl rfl)]
  have e1 : ((runM p ⟨n, 0, [0], []⟩ ms 0).2.tm.map fun x => nD x.2) = ((runM p ⟨n, 0, [0], []⟩ ms 0).2.tm.map (·.2)).map nD := by rw [List.map_map]; rfl
  have e2 := times_by2_ok q n p ms h1 h2 h3 h4 hm hs hr
  rw [e1] at e2
  push_cast [l_bind_no, bd12, e2, numsOf_n, sum_n]
  rfl
/-! what best plans do -/
def loneM (b : Nat) : Nat → List Mv
  | 0 => []
  | n + 1 => List.replicate n .step ++ [.undo] ++ (if 0 < n then [.take b] else []) ++ loneM b n
def bpM : Nat → Nat → Nat → Nat → List Mv
  | 0, _, _, _ => []
  | f + 1, b, n, s => if n = 1 ∨ s = 1 then loneM b n else
    List.replicate (lastK n s) .step ++ [.keep] ++ bpM f (b + lastK n s) (n - lastK n s) (s - 1) ++ [.drop (b + lastK n s), .take b] ++ bpM f b (lastK n s) s
theorem loneM_d (b : Nat) : ∀ n, loneL b n = (loneM b n).map Mv.d
  | 0 => rfl
  | n + 1 => by
    rw [loneL, loneM, loneM_d b n]
    simp only [List.map_append, List.map_replicate, List.map_cons, List.map_nil]
    by_cases h : 0 < n
    · rw [if_pos h, if_pos h]; rfl
    · rw [if_neg h, if_neg h]; rfl
theorem bpM_d : ∀ (f b n s : Nat), bpL f b n s = (bpM f b n s).map Mv.d
  | 0, b, n, s => rfl
  | f + 1, b, n, s => by
    rw [bpL, bpM]
    split
    · exact loneM_d b n
    · rw [bpM_d f, bpM_d f]
      simp only [List.map_append, List.map_replicate, List.map_cons, List.map_nil]
      rfl
theorem runM_app (p : Int) : ∀ (xs ys : List Mv) (w w' : Ws) (i : Nat), runM p w xs i = (none, w') → runM p w (xs ++ ys) i = runM p w' ys (i + xs.length)
  | [], ys, w, w', i, h => by rw [runM] at h; cases h; rfl
  | x :: xs, ys, w, w', i, h => by
    rw [runM] at h
    rw [List.cons_append, runM]
    cases e : mvS p w x with
    | none => rw [e] at h; cases h
    | some w1 =>
      rw [e] at h
      show runM p w1 (xs ++ ys) (i + 1) = _
      rw [runM_app p xs ys w1 w' (i + 1) h, List.length_cons, show i + 1 + xs.length = i + (xs.length + 1) by omega]
/-- so many steps on -/
def stepsW : Nat → Ws → Ws
  | 0, w => w
  | k + 1, w => stepsW k { w with here := w.here + 1, tm := tinc w.tm w.here }
theorem stepsW_f : ∀ (k : Nat) (w : Ws), (stepsW k w).left = w.left ∧ (stepsW k w).here = w.here + k ∧ (stepsW k w).kept = w.kept
  | 0, w => ⟨rfl, rfl, rfl⟩
  | k + 1, w => by
    obtain ⟨a, b, c⟩ := stepsW_f k { w with here := w.here + 1, tm := tinc w.tm w.here }
    exact ⟨a, by rw [stepsW, b]; show w.here + 1 + k = _; omega, c⟩
theorem run_steps (p : Int) : ∀ (k : Nat) (w : Ws) (i : Nat), w.here + k ≤ w.left → runM p w (List.replicate k .step) i = (none, stepsW k w)
  | 0, w, i, h => rfl
  | k + 1, w, i, h => by
    rw [List.replicate_succ, runM, mvS, if_neg (by omega)]
    exact run_steps p k _ (i + 1) (by show w.here + 1 + k ≤ w.left; omega)
theorem tget_tinc (k j : Nat) : ∀ tm : List (Nat × Nat), tget (tinc tm k) j = if j = k then tget tm j + 1 else tget tm j
  | [] => by
    rw [tinc, tget, tget]
    by_cases h : k = j
    · rw [if_pos h, if_pos h.symm]
    · rw [if_neg h, if_neg fun e => h e.symm]; rfl
  | (a, c) :: r => by
    rw [tinc]
    by_cases h : a = k
    · subst h
      rw [if_pos rfl, tget, tget]
      by_cases q : a = j
      · rw [if_pos q, if_pos q.symm, if_pos q]
      · rw [if_neg q, if_neg q, if_neg fun e => q e.symm]
    · rw [if_neg h, tget, tget, tget_tinc k j r]
      by_cases q : a = j
      · rw [if_pos q, if_pos q, if_neg fun e => h (q.trans e)]
      · rw [if_neg q, if_neg q]
theorem sum_tinc (k : Nat) : ∀ tm : List (Nat × Nat), tmSum (tinc tm k) = tmSum tm + 1
  | [] => rfl
  | (a, c) :: r => by
    rw [tinc]
    have ih := sum_tinc k r
    unfold tmSum at *
    by_cases h : a = k
    · rw [if_pos h, List.map_cons, List.map_cons, List.sum_cons, List.sum_cons]
      show c + 1 + _ = c + _ + 1; omega
    · rw [if_neg h, List.map_cons, List.map_cons, List.sum_cons, List.sum_cons, ih]
      omega
theorem stepsW_sum : ∀ (k : Nat) (w : Ws), tmSum (stepsW k w).tm = tmSum w.tm + k
  | 0, w => rfl
  | k + 1, w => by
    rw [stepsW, stepsW_sum k]
    show tmSum (tinc w.tm w.here) + k = _
    rw [sum_tinc]; omega
theorem stepsW_get (j : Nat) : ∀ (k : Nat) (w : Ws), tget (stepsW k w).tm j = tget w.tm j + (if w.here ≤ j ∧ j < w.here + k then 1 else 0)
  | 0, w => by rw [if_neg (by omega)]; rfl
  | k + 1, w => by
    rw [stepsW, stepsW_get j k]
    show tget (tinc w.tm w.here) j + (if w.here + 1 ≤ j ∧ j < w.here + 1 + k then 1 else 0) = _
    rw [tget_tinc]
    by_cases h : j = w.here
    · rw [if_pos h, if_neg (by omega), if_pos (by omega)]
    · rw [if_neg h]
      by_cases h2 : w.here ≤ j ∧ j < w.here + (k + 1)
      · rw [if_pos h2, if_pos (by omega)]
      · rw [if_neg h2, if_neg (by omega)]
/-- what a plan has done from here -/
structure Done (b n s : Nat) (w w' : Ws) : Prop where
  left : w'.left = b
  here : w'.here = b
  kept : w'.kept = w.kept
  sum : (tmSum w'.tm : Int) = tmSum w.tm + fS n s
  mono : ∀ j, tget w.tm j ≤ tget w'.tm j
  most : ∀ M, (∀ j, b ≤ j → j < b + n → tget w'.tm j ≤ tget w.tm j + M) → n ≤ ch (s + M) s
theorem lone_run (p : Int) (b : Nat) : ∀ (n : Nat) (w : Ws) (i : Nat), w.left = b + n → w.here = b → b ∈ w.kept → ∃ w', runM p w (loneM b n) i = (none, w') ∧ w'.left = b ∧ w'.here = b ∧ w'.kept = w.kept ∧ tmSum w'.tm = tmSum w.tm + ch n 2 ∧ (∀ j, tget w.tm j ≤ tget w'.tm j) ∧ tget w'.tm b = tget w.tm b + (n - 1)
  | 0, w, i, h1, h2, h3 => ⟨w, rfl, h1, h2, rfl, rfl, fun _ => Nat.le_refl _, by omega⟩
  | n + 1, w, i, h1, h2, h3 => by
    obtain ⟨a1, a2, a3⟩ := stepsW_f n w
    have s1 := run_steps p n w i (by omega)
    have e2 : (ch (n + 1) 2 : Nat) = n + ch n 2 := by
      show ch n 1 + ch n 2 = _
      rw [ch_one]
    have u : mvS p (stepsW n w) .undo = some { stepsW n w with left := (stepsW n w).left - 1 } := by
      rw [mvS, if_pos (by rw [a1, a2]; omega)]
    rw [loneM]
    by_cases c : 0 < n
    · rw [if_pos c, List.append_assoc, List.append_assoc, runM_app p _ _ _ _ _ s1, List.cons_append, List.nil_append, runM, u]
      have t : mvS p { stepsW n w with left := (stepsW n w).left - 1 } (.take b) = some { stepsW n w with left := (stepsW n w).left - 1, here := b } := by
        rw [mvS, if_pos (by show b ∈ (stepsW n w).kept; rw [a3]; exact h3)]
      show ∃ w', runM p { stepsW n w with left := (stepsW n w).left - 1 } (.take b :: loneM b n) _ = _ ∧ _
      rw [runM, t]
      obtain ⟨w', r, q1, q2, q3, q4, q5, q6⟩ := lone_run p b n { stepsW n w with left := (stepsW n w).left - 1, here := b } (i + (List.replicate n Mv.step).length + 1 + 1) (by show (stepsW n w).left - 1 = _; rw [a1]; omega) rfl (by show b ∈ (stepsW n w).kept; rw [a3]; exact h3)
      refine ⟨w', r, q1, q2, q3.trans a3, ?_, fun j => ?_, ?_⟩
      · rw [q4]
        show tmSum (stepsW n w).tm + _ = _
        rw [stepsW_sum, e2]; omega
      · have := q5 j
        have g : tget (stepsW n w).tm j ≤ tget w'.tm j := this
        rw [stepsW_get] at g; omega
      · rw [q6]
        show tget (stepsW n w).tm b + _ = _
        rw [stepsW_get, if_pos (by omega)]; omega
    · have n0 : n = 0 := by omega
      subst n0
      rw [if_neg c, List.append_assoc, List.append_assoc, runM_app p _ _ _ _ _ s1, List.cons_append, List.nil_append, runM, u]
      refine ⟨_, rfl, ?_, ?_, a3, ?_, fun j => Nat.le_refl _, rfl⟩
      · show (stepsW 0 w).left - 1 = b; rw [a1]; omega
      · exact h2
      · rfl
theorem bp_done (p : Nat) : ∀ (f b n s : Nat) (w : Ws) (i : Nat), 1 ≤ n → n ≤ f → 1 ≤ s → w.left = b + n → w.here = b → b ∈ w.kept → (∀ x ∈ w.kept, x ≤ b) → w.kept.length + s ≤ p + 1 →
    ∃ w', runM p w (bpM f b n s) i = (none, w') ∧ Done b n s w w'
  | 0, b, n, s, w, i, h1, h2, _, _, _, _, _, _ => by omega
  | f + 1, b, n, s, w, i, h1, h2, hs, hl, hh, hk, hb, hp => by
    rw [bpM]
    by_cases c : n = 1 ∨ s = 1
    · rw [if_pos c]
      obtain ⟨w', r, q1, q2, q3, q4, q5, q6⟩ := lone_run p b n w i hl hh hk
      refine ⟨w', r, q1, q2, q3, ?_, q5, fun M hM => ?_⟩
      · rw [q4]
        rcases c with rfl | rfl
        · rw [fS_one hs]; show _ = _ + (0 : Int); simp [ch]
        · rw [fS_1 h1]; omega
      · have := hM b (Nat.le_refl _) (by omega)
        rw [q6] at this
        rcases c with rfl | rfl
        · exact ch_pos (by omega)
        · rw [show 1 + M = M + 1 by omega, ch_one]; omega
    · rw [if_neg c]
      obtain ⟨l, e, k1, k2, k3⟩ := keepsL_last (n := n) (s := s) (by omega) (by omega)
      generalize lastK n s = k at *
      obtain ⟨a1, a2, a3⟩ := stepsW_f k w
      have nb : b + k ∉ w.kept := fun x => by have := hb _ x; omega
      have s1 := run_steps p k w i (by omega)
      have kk : mvS p (stepsW k w) .keep = some { stepsW k w with kept := w.kept ++ [b + k] } := by
        rw [mvS, if_neg (by rw [a2, a3, hh]; rintro (x | x)
                            · exact nb x
                            · omega)]
        have q : (stepsW k w).kept ++ [(stepsW k w).here] = w.kept ++ [b + k] := by rw [a3, a2, hh]
        rw [q]
      have s2 : runM p w (List.replicate k .step ++ [.keep]) i = (none, { stepsW k w with kept := w.kept ++ [b + k] }) := by
        rw [runM_app p _ _ _ _ _ s1, runM, kk]; rfl
      obtain ⟨w2, r2, d2⟩ := bp_done p f (b + k) (n - k) (s - 1) { stepsW k w with kept := w.kept ++ [b + k] } (i + (List.replicate k Mv.step ++ [Mv.keep]).length) (by omega) (by omega) (by omega)
        (by show (stepsW k w).left = _; rw [a1]; omega) (by show (stepsW k w).here = _; rw [a2, hh]) (by show b + k ∈ w.kept ++ [b + k]; simp)
        (fun x hx => by
          have hx : x ∈ w.kept ++ [b + k] := hx
          rcases List.mem_append.mp hx with hx | hx
          · have := hb x hx; omega
          · simp at hx; omega)
        (by show (w.kept ++ [b + k]).length + _ ≤ _; rw [List.length_append, List.length_singleton]; omega)
      have k2' : w2.kept = w.kept ++ [b + k] := d2.kept
      have dr : mvS p w2 (.drop (b + k)) = some { w2 with kept := w.kept } := by
        rw [mvS, if_pos (by rw [k2']; simp), k2', List.filter_append]
        congr 2
        rw [List.filter_eq_self.mpr fun x hx => by
          have : x ≠ b + k := fun q => nb (q ▸ hx)
          simp [this]]
        simp
      have tk : mvS p { w2 with kept := w.kept } (.take b) = some { w2 with kept := w.kept, here := b } := by
        rw [mvS, if_pos (by exact hk)]
      obtain ⟨w3, r3, d3⟩ := bp_done p f b k s { w2 with kept := w.kept, here := b } (i + (List.replicate k Mv.step ++ [Mv.keep]).length + (bpM f (b + k) (n - k) (s - 1)).length + 1 + 1) (by omega) (by omega) hs
        (by show w2.left = _; rw [d2.left]) rfl hk hb hp
      refine ⟨w3, ?_, d3.left, d3.here, d3.kept, ?_, fun j => ?_, fun M hM => ?_⟩
      · rw [List.append_assoc, List.append_assoc, runM_app p _ _ _ _ _ s2, runM_app p _ _ _ _ _ r2, List.cons_append, List.cons_append, List.nil_append, runM, dr]
        show runM p { w2 with kept := w.kept } (.take b :: bpM f b k s) _ = _
        rw [runM, tk]
        exact r3
      · have x1 := d3.sum
        have x2 := d2.sum
        have x3 := stepsW_sum k w
        have x1 : (tmSum w3.tm : Int) = tmSum w2.tm + fS k s := x1
        have x2 : (tmSum w2.tm : Int) = tmSum (stepsW k w).tm + fS (n - k) (s - 1) := x2
        omega
      · have x1 : tget w2.tm j ≤ tget w3.tm j := d3.mono j
        have x2 : tget (stepsW k w).tm j ≤ tget w2.tm j := d2.mono j
        rw [stepsW_get] at x2; omega
      · have y1 : n - k ≤ ch (s - 1 + M) (s - 1) := d2.most M fun j j1 j2 => by
          have x1 : tget w2.tm j ≤ tget w3.tm j := d3.mono j
          have x2 := hM j (by omega) (by omega)
          show tget w2.tm j ≤ tget (stepsW k w).tm j + M
          rw [stepsW_get]; omega
        have y2 : 1 ≤ M ∧ k ≤ ch (s + (M - 1)) s := by
          have at_ : ∀ j, b ≤ j → j < b + k → tget w3.tm j + 1 ≤ tget w2.tm j + M := fun j j1 j2 => by
            have x2 := hM j j1 (by omega)
            have x3 : tget (stepsW k w).tm j ≤ tget w2.tm j := d2.mono j
            rw [stepsW_get, if_pos (by omega)] at x3; omega
          have m1 : 1 ≤ M := by
            have := at_ b (Nat.le_refl _) (by omega)
            have x1 : tget w2.tm b ≤ tget w3.tm b := d3.mono b
            omega
          refine ⟨m1, d3.most (M - 1) fun j j1 j2 => ?_⟩
          have := at_ j j1 j2
          show tget w3.tm j ≤ tget w2.tm j + (M - 1)
          omega
        obtain ⟨M', rfl⟩ : ∃ M', M = M' + 1 := ⟨M - 1, by omega⟩
        obtain ⟨s', rfl⟩ : ∃ s', s = s' + 1 := ⟨s - 1, by omega⟩
        rw [show s' + 1 + (M' + 1) = (s' + 1 + M') + 1 by omega, ch_s]
        have y3 := y2.2
        rw [show s' + 1 - 1 + (M' + 1) = s' + 1 + M' by omega, show s' + 1 - 1 = s' by omega] at y1
        rw [show M' + 1 - 1 = M' by omega] at y3
        omega
def Mv.isUndo : Mv → Bool
  | .undo => true
  | _ => false
/-- what is left, and what was undone -/
theorem run_left (p : Int) : ∀ (ms : List Mv) (w w' : Ws) (i : Nat), runM p w ms i = (none, w') → w'.left + (ms.filter Mv.isUndo).length = w.left
  | [], w, w', i, h => by rw [runM] at h; cases h; rfl
  | m :: ms, w, w', i, h => by
    rw [runM] at h
    cases e : mvS p w m with
    | none => rw [e] at h; cases h
    | some w1 =>
      rw [e] at h
      have ih := run_left p ms w1 w' (i + 1) h
      cases m with
      | undo =>
        rw [mvS] at e
        split at e
        · cases e
          have ih : w'.left + (ms.filter Mv.isUndo).length = w.left - 1 := ih
          rw [List.filter_cons]
          show w'.left + (if true = true then (Mv.undo :: ms.filter Mv.isUndo) else _).length = _
          rw [if_pos rfl, List.length_cons]; omega
        · cases e
      | step =>
        rw [mvS] at e
        split at e
        · cases e
        · cases e; exact ih
      | keep =>
        rw [mvS] at e
        split at e
        · cases e
        · cases e; exact ih
      | take k =>
        rw [mvS] at e
        split at e
        · cases e; exact ih
        · cases e
      | drop k =>
        rw [mvS] at e
        split at e
        · cases e; exact ih
        · cases e
theorem loneM_last (b : Nat) : ∀ n, 1 ≤ n → ∃ l, loneM b n = l ++ [.undo]
  | 0, h => by omega
  | n + 1, h => by
    rw [loneM]
    by_cases c : 0 < n
    · obtain ⟨l, e⟩ := loneM_last b n (by omega)
      rw [e]
      exact ⟨_, (List.append_assoc _ _ _).symm⟩
    · rw [if_neg c, show n = 0 by omega]
      exact ⟨[], rfl⟩
theorem bpM_last : ∀ (f b n s : Nat), 1 ≤ n → n ≤ f → 1 ≤ s → ∃ l, bpM f b n s = l ++ [.undo]
  | 0, b, n, s, h1, h2, _ => by omega
  | f + 1, b, n, s, h1, h2, hs => by
    rw [bpM]
    by_cases c : n = 1 ∨ s = 1
    · rw [if_pos c]; exact loneM_last b n h1
    · rw [if_neg c]
      obtain ⟨l, e, k1, k2, k3⟩ := keepsL_last (n := n) (s := s) (by omega) (by omega)
      obtain ⟨l', e'⟩ := bpM_last f b (lastK n s) s (by omega) (by omega) hs
      rw [e']
      exact ⟨_, (List.append_assoc _ _ _).symm⟩
theorem loneM_small (b : Nat) (hb : b ≤ 1000) : ∀ n, ∀ m ∈ loneM b n, m.small
  | 0, m, h => by cases h
  | n + 1, m, h => by
    rw [loneM] at h
    rcases List.mem_append.mp h with h | h
    · rcases List.mem_append.mp h with h | h
      · rcases List.mem_append.mp h with h | h
        · rw [(List.mem_replicate.mp h).2]; trivial
        · rw [List.mem_singleton.mp h]; trivial
      · split at h
        · rw [List.mem_singleton.mp h]; exact hb
        · cases h
    · exact loneM_small b hb n m h
theorem bpM_small : ∀ (f b n s : Nat), 1 ≤ n → n ≤ f → 1 ≤ s → b + n ≤ 1000 → ∀ m ∈ bpM f b n s, m.small
  | 0, b, n, s, h1, h2, _, _, m, h => by cases h
  | f + 1, b, n, s, h1, h2, hs, hb, m, h => by
    rw [bpM] at h
    by_cases c : n = 1 ∨ s = 1
    · rw [if_pos c] at h; exact loneM_small b (by omega) n m h
    · rw [if_neg c] at h
      obtain ⟨l, e, k1, k2, k3⟩ := keepsL_last (n := n) (s := s) (by omega) (by omega)
      rcases List.mem_append.mp h with h | h
      · rcases List.mem_append.mp h with h | h
        · rcases List.mem_append.mp h with h | h
          · rcases List.mem_append.mp h with h | h
            · rw [(List.mem_replicate.mp h).2]; trivial
            · rw [List.mem_singleton.mp h]; trivial
          · exact bpM_small f _ _ _ (by omega) (by omega) (by omega) (by omega) m h
        · simp only [List.mem_cons, List.not_mem_nil, or_false] at h
          rcases h with rfl | rfl
          · show b + lastK n s ≤ 1000; omega
          · show b ≤ 1000; omega
      · exact bpM_small f _ _ _ (by omega) (by omega) hs (by omega) m h
/-- the plan from the beginning -/
theorem plan_run (n s p : Nat) (h1 : 1 ≤ n) (hs : 1 ≤ s) (hp : s ≤ p) (tm : List (Nat × Nat)) (i : Nat) : ∃ w', runM p ⟨n, 0, [0], tm⟩ (bpM n 0 n s) i = (none, w') ∧ Done 0 n s ⟨n, 0, [0], tm⟩ w' :=
  bp_done p n 0 n s ⟨n, 0, [0], tm⟩ i h1 (Nat.le_refl _) hs (by show n = 0 + n; omega) rfl (by show 0 ∈ [0]; simp) (fun x hx => by have hx : x ∈ [0] := hx; simp at hx; omega) (by show 1 + s ≤ p + 1; omega)
theorem bpM_len (f b n s : Nat) (h1 : 1 ≤ n) (h2 : n ≤ f) (hs : 1 ≤ s) : (bpM f b n s).length ≤ 3 * (n * n) := by
  have := bpL_len f b n s h1 h2 hs
  rw [bpM_d, List.length_map] at this; exact this
/-! when the choice is as good as can be -/
theorem fS_iff {m r t : Nat} (hr : 1 ≤ r) : fS m r = gS m r t ↔ m ≤ ch (r + t) r ∧ (t = 0 ∨ ch (r + (t - 1)) r ≤ m) := by
  constructor
  · intro h
    refine ⟨?_, ?_⟩
    · rcases Nat.lt_or_ge (ch (r + t) r) m with c | c
      · have a := gS_le (n := m) hr (t + 1)
        rw [gS_s] at a
        omega
      · exact c
    · rcases Nat.eq_zero_or_pos t with z | z
      · exact .inl z
      · right
        rcases Nat.lt_or_ge m (ch (r + (t - 1)) r) with c | c
        · have a := gS_le (n := m) hr (t - 1)
          have b := gS_s m r (t - 1)
          rw [show t - 1 + 1 = t by omega] at b
          omega
        · exact c
  · rintro ⟨h1, h2⟩
    exact fS_at hr h1 h2
def loK (n s : Nat) : Nat := max (if tb n s = 1 then 0 else ch (s + (tb n s - 2)) s) (n - ch (s - 1 + tb n s) (s - 1))
def hiK (n s : Nat) : Nat := min (ch (s + (tb n s - 1)) s) (n - ch (s - 1 + (tb n s - 1)) (s - 1))
theorem keep_iff {n s k : Nat} (hs : 2 ≤ s) (hn : 2 ≤ n) (h1 : 1 ≤ k) (h2 : k < n) : keepP n s k = decide (loK n s ≤ k ∧ k ≤ hiK n s) := by
  unfold keepP
  refine decide_eq_decide.mpr ?_
  obtain ⟨t, ht⟩ : ∃ t, tb n s = t + 1 := ⟨tb n s - 1, by have := tb_pos (n := n) (s := s) (by omega) hn; omega⟩
  have a := gS_le (n := n - k) (s := s - 1) (by omega) (t + 1)
  have b := gS_le (n := k) (s := s) (by omega) t
  have e : (k : Int) + gS (n - k) (s - 1) (t + 1) + gS k s t = fS n s := by
    unfold fS
    rw [ht]
    unfold gS
    rw [show s - 1 + (t + 1) = s + t by omega, show s - 1 + 1 = s by omega, show s + (t + 1) = s + t + 1 by omega, ch_s]
    have e1 : (((t + 1 : Nat) : Int)) * ((n - k : Nat) : Int) = ((t : Int) + 1) * n - ((t : Int) + 1) * k := by
      rw [← Int.mul_sub]; congr 1 <;> omega
    have e2 : (((t + 1 : Nat) : Int)) * (n : Int) = ((t : Int) + 1) * n := by rw [show ((t + 1 : Nat) : Int) = (t : Int) + 1 by omega]
    rw [e1, e2, Int.add_mul (t : Int) 1 (k : Int)]
    omega
  have i1 := fS_iff (m := n - k) (r := s - 1) (t := t + 1) (by omega)
  have i2 := fS_iff (m := k) (r := s) (t := t) (by omega)
  rw [show t + 1 - 1 = t by omega] at i1
  have p1 := ch_pos (n := s - 1 + t) (k := s - 1) (by omega)
  have u1 := tb_ge n (show 1 ≤ s by omega)
  rw [ht] at u1
  unfold loK hiK
  rw [ht, show t + 1 - 1 = t by omega, show t + 1 - 2 = t - 1 by omega]
  constructor
  · intro h
    have x1 := i1.mp (by omega)
    have x2 := i2.mp (by omega)
    obtain ⟨x3, x4⟩ := x1
    obtain ⟨x5, x6⟩ := x2
    have x4 : ch (s - 1 + t) (s - 1) ≤ n - k := by rcases x4 with x | x <;> omega
    refine ⟨?_, by omega⟩
    by_cases c : t + 1 = 1
    · rw [if_pos c]; omega
    · rw [if_neg c]
      rcases x6 with x | x
      · omega
      · omega
  · rintro ⟨h3, h4⟩
    have y1 : fS (n - k) (s - 1) = gS (n - k) (s - 1) (t + 1) := i1.mpr ⟨by omega, .inr (by omega)⟩
    have y2 : fS k s = gS k s t := i2.mpr ⟨by omega, by
      by_cases c : t + 1 = 1
      · left; omega
      · right
        rw [if_neg c] at h3
        omega⟩
    omega
theorem filter_range (lo hi : Nat) : ∀ (d a : Nat), (List.range' a d).filter (fun k => decide (lo ≤ k ∧ k ≤ hi)) = List.range' (max a lo) (min (a + d) (hi + 1) - max a lo)
  | 0, a => by
    have e : min (a + 0) (hi + 1) - max a lo = 0 := by omega
    rw [e]; rfl
  | d + 1, a => by
    rw [show List.range' a (d + 1) = a :: List.range' (a + 1) d from rfl, List.filter_cons, filter_range lo hi d (a + 1)]
    by_cases c : lo ≤ a ∧ a ≤ hi
    · rw [decide_eq_true c, if_pos rfl]
      have e1 : max a lo = a := by omega
      have e2 : max (a + 1) lo = a + 1 := by omega
      have e3 : min (a + (d + 1)) (hi + 1) - a = (min (a + 1 + d) (hi + 1) - (a + 1)) + 1 := by omega
      rw [e1, e2, e3]; rfl
    · rw [decide_eq_false c, if_neg Bool.false_ne_true]
      by_cases c2 : a < lo
      · rw [show max a lo = max (a + 1) lo by omega, show a + (d + 1) = a + 1 + d by omega]
      · have z1 : min (a + 1 + d) (hi + 1) - max (a + 1) lo = 0 := by omega
        have z2 : min (a + (d + 1)) (hi + 1) - max a lo = 0 := by omega
        rw [z1, z2]; rfl
theorem keeps_range {n s : Nat} (hs : 2 ≤ s) (hn : 2 ≤ n) : ∃ h c, keepsL n s = List.range' h (c + 1) := by
  obtain ⟨l, e, _⟩ := keepsL_last (n := n) (s := s) hs hn
  have e2 : keepsL n s = (List.range' 1 (n - 1)).filter (fun k => decide (loK n s ≤ k ∧ k ≤ hiK n s)) := by
    unfold keepsL
    rw [if_neg (by omega)]
    refine List.filter_congr fun k hk => ?_
    obtain ⟨i, h3, h4⟩ := List.mem_range'.mp hk
    exact keep_iff hs hn (by omega) (by omega)
  rw [filter_range] at e2
  generalize min (1 + (n - 1)) (hiK n s + 1) - max 1 (loK n s) = c at e2
  cases c with
  | zero =>
    rw [e] at e2
    have := congrArg List.length e2
    rw [List.length_append, List.length_singleton] at this
    have z : (List.range' (max 1 (loK n s)) 0).length = 0 := rfl
    omega
  | succ c => exact ⟨_, c, e2⟩
theorem keeps_mem {n s k : Nat} (hs : 2 ≤ s) (hn : 2 ≤ n) (h1 : 1 ≤ k) (h2 : k < n) : decide (k ∈ keepsL n s) = keepP n s k := by
  unfold keepsL
  rw [if_neg (by omega)]
  have : (k ∈ (List.range' 1 (n - 1)).filter (keepP n s)) ↔ keepP n s k = true := by
    rw [List.mem_filter]
    constructor
    · exact fun h => h.2
    · exact fun h => ⟨List.mem_range'.mpr ⟨k - 1, by omega, by omega⟩, h⟩
  cases h : keepP n s k with
  | true => exact decide_eq_true (this.mpr h)
  | false => exact decide_eq_false fun x => by rw [this.mp x] at h; cases h
theorem range_nD (h : Nat) : ∀ c, rangeD (h : Nat) 1 c = (List.range' h c).map nD := by
  intro c
  induction c generalizing h with
  | zero => rfl
  | succ c ih =>
    rw [rangeD_s, show List.range' h (c + 1) = h :: List.range' (h + 1) c from rfl, List.map_cons, show (h : Int) + 1 = ((h + 1 : Nat) : Int) by omega, ih (h + 1)]
/-! plans behind a state -/
def shM (k : Nat) : Mv → Mv
  | .take j => .take (j + k)
  | .drop j => .drop (j + k)
  | m => m
theorem lone_sh (b k : Nat) : ∀ n, (loneM b n).map (shM k) = loneM (b + k) n
  | 0 => rfl
  | n + 1 => by
    rw [loneM, loneM, List.map_append, List.map_append, List.map_append, List.map_replicate, lone_sh b k n]
    by_cases c : 0 < n
    · rw [if_pos c, if_pos c]; rfl
    · rw [if_neg c, if_neg c]; rfl
theorem bp_sh (k : Nat) : ∀ (f b n s : Nat), (bpM f b n s).map (shM k) = bpM f (b + k) n s
  | 0, b, n, s => rfl
  | f + 1, b, n, s => by
    rw [bpM, bpM]
    by_cases c : n = 1 ∨ s = 1
    · rw [if_pos c, if_pos c]; exact lone_sh b k n
    · rw [if_neg c, if_neg c, List.map_append, List.map_append, List.map_append, List.map_append, List.map_replicate, bp_sh k f, bp_sh k f, show b + lastK n s + k = b + k + lastK n s by omega]
      have e : [Mv.drop (b + lastK n s), Mv.take b].map (shM k) = [Mv.drop (b + k + lastK n s), Mv.take (b + k)] := by
        rw [show b + k + lastK n s = b + lastK n s + k by omega]; rfl
      rw [e]
      rfl
theorem moved_ok (q k : Nat) (ms : List Mv) (hl : ms.length ≤ 15000000) : callF PG (q+1) 22 [.dat (.tuple (ms.map Mv.d)), .dat (nD k)] = .ok (.dat (.tuple ((ms.map (shM k)).map Mv.d))) [.dat (.tuple (ms.map Mv.d)), .dat (nD k)] := by
  rw [(callF_at (P := PG) (fn := ⟨2, 3, bd22⟩) rfl rfl)]
  have e : ev (cfOf PG q) (.lc (.v 2) (.e (.var 0)) (.ife (.cmp .eq (.bi .len [(.var 2)]) (.int 2)) (.tup [(.idx (.var 2) (.int 0)), (.bop .add (.idx (.var 2) (.int 1)) (.var 1))]) (.var 2))) [.dat (.tuple (ms.map Mv.d)), .dat (nD k), .un] = .ok (.lst (ms.map fun m => (shM k m).d)) [.dat (.tuple (ms.map Mv.d)), .dat (nD k), .un] := by
    refine ev_lc_n Mv.d ms (fun m => (shM k m).d) (fun m => [.dat (.tuple (ms.map Mv.d)), .dat (nD k), .dat m.d]) ?_ ?_ (fun _ _ => rfl) (fun m _ => ?_)
    · push_cast [l_bind_no]
    · show (szOk (ms.map Mv.d).length && true) = true
      rw [List.length_map, szK (by omega)]; rfl
    · cases m with
      | take j =>
        have e1 : (j : Int) + (k : Int) = ((j + k : Nat) : Int) := by omega
        push_cast [l_bind_no, Mv.d, e1]
        exact ⟨_, _, rfl, rfl⟩
      | drop j =>
        have e1 : (j : Int) + (k : Int) = ((j + k : Nat) : Int) := by omega
        push_cast [l_bind_no, Mv.d, e1]
        exact ⟨_, _, rfl, rfl⟩
      | _ =>
        push_cast [l_bind_no, Mv.d]
        exact ⟨_, _, rfl, rfl⟩
  push_cast [l_bind_no, bd22, e, List.map_map]
  rfl
theorem eq_step (m : Mv) : cmpD .eq m.d (.tuple [.str "step"]) = some (match m with | .step => true | _ => false) := by cases m <;> rfl
theorem eq_keep (m : Mv) : cmpD .eq m.d (.tuple [.str "keep"]) = some (match m with | .keep => true | _ => false) := by cases m <;> rfl
theorem drop_lci (q k : Nat) (l : List Nat) (a b c y : O) (hl : l.length ≤ 15000000) : ev (cfOf PG q) (.lci (.v 6) (.e (.var 3)) (.cmp .ne (.var 6) (.idx (.var 5) (.int 1))) (.var 6)) [a, b, c, .dat (.list (l.map nD)), y, .dat (.tuple [.str "drop", .int k]), .un] =
    .ok (.lst ((l.filter fun a => !decide (a = k)).map nD)) [a, b, c, .dat (.list (l.map nD)), y, .dat (.tuple [.str "drop", .int k]), .un] := by
  refine ev_lci_n nD l (fun a => !decide (a = k)) nD (fun i => [a, b, c, .dat (.list (l.map nD)), y, .dat (.tuple [.str "drop", .int k]), .dat (nD i)]) ?_ ?_ (fun i hi => rfl) (fun i hi => ?_) (fun i hi _ => ?_)
  · push_cast [l_bind_no]
  · show (szOk (l.map nD).length && true) = true
    rw [List.length_map, szK (by omega)]; rfl
  · have e : cmpD .ne (nD i) (nD k) = some (!decide (i = k)) := by
      show cmpD .ne (.int i) (.int k) = _
      rw [l_c_ne]
      congr 2
      exact decide_eq_decide.mpr (by omega)
    push_cast [l_bind_no, e]
    exact ⟨_, rfl⟩
  · push_cast [l_bind_no]
    exact ⟨_, _, rfl, rfl⟩
def CL (a b c : O) (w : Ws) (o5 : O) : St := [a, b, c, .dat (.list (w.kept.map nD)), .dat (nD w.here), o5, .un]
theorem clr_lp (q : Nat) (p : Int) (a b c : O) : ∀ (ms : List Mv) (w w' : Ws) (i : Nat) (o5 : O), w.kept.length + ms.length ≤ 15000000 → runM p w ms i = (none, w') → ∃ o5',
    forX (cfOf PG q) subT (.v 5) [(.ite (.cmp .eq (.var 5) (.tup [(.str "keep")])) [(.asg 3 (.bop .add (.var 3) (.lst [(.var 4)])))] [(.ite (.cmp .eq (.idx (.var 5) (.int 0)) (.str "drop")) [(.asg 3 (.lci (.v 6) (.e (.var 3)) (.cmp .ne (.var 6) (.idx (.var 5) (.int 1))) (.var 6)))] [])]), (.asg 4 (.ife (.cmp .eq (.var 5) (.tup [(.str "step")])) (.bop .add (.var 4) (.int 1)) (.ife (.cmp .eq (.idx (.var 5) (.int 0)) (.str "take")) (.idx (.var 5) (.int 1)) (.var 4))))] (ms.map Mv.d) (CL a b c w o5) = .ok .nx (CL a b c w' o5')
  | [], w, w', i, o5, hl, h => by
    rw [runM] at h; cases h
    exact ⟨o5, for_n _ _ _ _ _⟩
  | m :: ms, w, w', i, o5, hl, h => by
    rw [List.length_cons] at hl
    rw [runM] at h
    rw [List.map_cons, for_c]
    have g1 := eq_step m
    have g2 := eq_keep m
    have ih := clr_lp q p a b c ms
    cases e : mvS p w m with
    | none => rw [e] at h; cases h
    | some w1 =>
      rw [e] at h
      cases m with
      | step =>
        rw [mvS] at e; split at e
        · cases e
        · cases e
          obtain ⟨o5', r⟩ := ih { w with here := w.here + 1, tm := tinc w.tm w.here } w' (i + 1) (.dat Mv.step.d) (by show w.kept.length + _ ≤ _; omega) h
          refine ⟨o5', ?_⟩
          rw [← r]
          have d1 : (w.here : Int) + 1 = ((w.here + 1 : Nat) : Int) := by omega
          unfold CL
          rw [Mv.d] at g1 g2
          push_cast [l_bind_no, Mv.d, g1, g2, d1]
      | keep =>
        rw [mvS] at e; split at e
        · cases e
        · cases e
          obtain ⟨o5', r⟩ := ih { w with kept := w.kept ++ [w.here] } w' (i + 1) (.dat Mv.keep.d) (by show (w.kept ++ [w.here]).length + _ ≤ _; rw [List.length_append, List.length_singleton]; omega) h
          refine ⟨o5', ?_⟩
          rw [← r]
          have d3 : w.kept.map nD ++ [nD w.here] = (w.kept ++ [w.here]).map nD := by rw [List.map_append]; rfl
          unfold CL
          rw [Mv.d] at g1 g2
          push_cast [l_bind_no, Mv.d, g1, g2, d3]
      | undo =>
        rw [mvS] at e; split at e
        · cases e
          obtain ⟨o5', r⟩ := ih { w with left := w.left - 1 } w' (i + 1) (.dat Mv.undo.d) (by show w.kept.length + _ ≤ _; omega) h
          refine ⟨o5', ?_⟩
          rw [← r]
          unfold CL
          rw [Mv.d] at g1 g2
          push_cast [l_bind_no, Mv.d, g1, g2]
        · cases e
      | take k =>
        rw [mvS] at e; split at e
        · cases e
          obtain ⟨o5', r⟩ := ih { w with here := k } w' (i + 1) (.dat (Mv.take k).d) (by show w.kept.length + _ ≤ _; omega) h
          refine ⟨o5', ?_⟩
          rw [← r]
          unfold CL
          rw [Mv.d] at g1 g2
          push_cast [l_bind_no, Mv.d, g1, g2]
        · cases e
      | drop k =>
        rw [mvS] at e; split at e
        · cases e
          obtain ⟨o5', r⟩ := ih { w with kept := w.kept.filter fun a => !decide (a = k) } w' (i + 1) (.dat (Mv.drop k).d) (by show (w.kept.filter _).length + _ ≤ _; have := List.length_filter_le (fun a => !decide (a = k)) w.kept; omega) h
          refine ⟨o5', ?_⟩
          rw [← r]
          have d2 := drop_lci q k w.kept a b c (.dat (nD w.here)) (by omega)
          unfold CL
          rw [Mv.d] at g1 g2
          push_cast [l_bind_no, Mv.d, g1, g2, d2]
        · cases e
theorem first_ok (q n s : Nat) (hs : 1 ≤ s) (h1 : 1 ≤ n) (hn : n ≤ 1000) (hs2 : s ≤ 1000) : callF PG (q+5) 18 [.dat (nD n), .dat (nD s)] = .ok (.dat (.tuple ((keepsL n s).map nD))) [.dat (nD n), .dat (nD s)] := by
  rw [(callF_at (P := PG) (fn := ⟨2, 2, bd18⟩) rfl rfl)]
  have e1 : isW (.int n) 1 1000 = true := by simp [isW]; omega
  have e2 : isW (.int s) 1 1000 = true := by simp [isW]; omega
  push_cast [l_bind_no, bd18, check_numbers_ok (q+2), e1, e2, keeps_by_ok q n s hs h1 (by omega)]
/-- the plan that keeps k next -/
def byM (n s k : Nat) : List Mv := List.replicate k .step ++ [.keep] ++ bpM (n - k) k (n - k) (s - 1) ++ [.take 0] ++ [.drop k] ++ bpM k 0 k s
theorem cleared_ok (q n s k : Nat) (hs : 2 ≤ s) (hs2 : s ≤ 1000) (h1 : 1 ≤ k) (h2 : k < n) (hn : n ≤ 400) : callF PG (q+6) 24 [.dat (nD n), .dat (nD s), .dat (nD k)] = .ok (.dat (.tuple [(Mv.drop k).d])) [.dat (nD n), .dat (nD s), .dat (nD k)] := by
  rw [(callF_at (P := PG) (fn := ⟨3, 7, bd24⟩) rfl rfl)]
  have e1 := best_plan_ok q (n - k) (s - 1) (by omega) (by omega) (by omega) (by omega)
  rw [bpM_d] at e1
  have len := bpM_len (n - k) 0 (n - k) (s - 1) (by omega) (Nat.le_refl _) (by omega)
  have nn : (n - k) * (n - k) ≤ 400 * 400 := Nat.mul_le_mul (by omega) (by omega)
  have e2 := moved_ok (q+4) k (bpM (n - k) 0 (n - k) (s - 1)) (by omega)
  rw [bp_sh, Nat.zero_add] at e2
  obtain ⟨w', r, d⟩ := bp_done (s - 1) (n - k) k (n - k) (s - 1) ⟨n, k, [k], []⟩ 0 (by omega) (Nat.le_refl _) (by omega) (by show n = k + (n - k); omega) rfl (by show k ∈ [k]; simp) (fun x hx => by have hx : x ∈ [k] := hx; simp at hx; omega) (by show 1 + (s - 1) ≤ s - 1 + 1; omega)
  have len2 := bpM_len (n - k) k (n - k) (s - 1) (by omega) (Nat.le_refl _) (by omega)
  obtain ⟨o5, e3⟩ := clr_lp (q+5) ((s - 1 : Nat) : Int) (.dat (nD n)) (.dat (nD s)) (.dat (nD k)) (bpM (n - k) k (n - k) (s - 1)) ⟨n, k, [k], []⟩ w' 0 .un (by show 1 + _ ≤ _; omega) r
  have c1 : (n : Int) - (k : Int) = ((n - k : Nat) : Int) := by omega
  have c2 : (s : Int) - (1 : Int) = ((s - 1 : Nat) : Int) := by omega
  have hk : w'.kept = [k] := d.kept
  have hh : w'.here = k := d.here
  unfold CL at e3
  rw [hk, hh] at e3
  have e0 : ([k] : List Nat).map nD = [nD k] := rfl
  rw [e0] at e3
  have e4 : ev (cfOf PG (q+5)) (.lc (.v 6) (.e (.var 3)) (.tup [.str "drop", .var 6])) [.dat (nD n), .dat (nD s), .dat (nD k), .dat (.list [nD k]), .dat (nD k), o5, .un] = .ok (.lst [(Mv.drop k).d]) [.dat (nD n), .dat (nD s), .dat (nD k), .dat (.list [nD k]), .dat (nD k), o5, .un] := by
    refine ev_lc_n nD [k] (fun j => (Mv.drop j).d) (fun j => [.dat (nD n), .dat (nD s), .dat (nD k), .dat (.list [nD k]), .dat (nD k), o5, .dat (nD j)]) ?_ ?_ (fun _ _ => rfl) (fun j _ => ?_)
    · push_cast [l_bind_no]
    · show (szOk 1 && true) = true
      rw [szK (by omega)]; rfl
    · push_cast [l_bind_no]
      exact ⟨_, _, rfl, rfl⟩
  push_cast [l_bind_no, bd24, c1, c2, e1, e2, e3, e4]
theorem mulT (d : D) (k : Nat) (h1 : 1 ≤ k) (h : k ≤ 1000) : bopD .mul (.tuple [d]) (.int k) = some (.dat (.tuple (List.replicate k d))) := by
  have e1 : decide ((1 : Int) ≤ (k : Int)) = true := decide_eq_true (by omega)
  have e2 : decide ((k : Int) ≤ 1000) = true := decide_eq_true (by omega)
  rw [bopD, e1, e2, Int.toNat_natCast, rep_flat]
  rfl
theorem byM_d (n s k : Nat) : (byM n s k).map Mv.d = List.replicate k (.tuple [.str "step"]) ++ [.tuple [.str "keep"]] ++ (bpM (n - k) k (n - k) (s - 1)).map Mv.d ++ [.tuple [.str "take", .int 0]] ++ [(Mv.drop k).d] ++ (bpM k 0 k s).map Mv.d := by
  unfold byM
  rw [List.map_append, List.map_append, List.map_append, List.map_append, List.map_append, List.map_replicate]
  rfl
theorem by_ok (q n s k : Nat) (hs : 2 ≤ s) (hs2 : s ≤ 1000) (h1 : 1 ≤ k) (h2 : k < n) (hn : n ≤ 400) : callF PG (q+7) 23 [.dat (nD n), .dat (nD s), .dat (nD k)] = .ok (.dat (.tuple ((byM n s k).map Mv.d))) [.dat (nD n), .dat (nD s), .dat (nD k)] := by
  rw [(callF_at (P := PG) (fn := ⟨3, 4, bd23⟩) rfl rfl)]
  have e1 := best_plan_ok (q+1) (n - k) (s - 1) (by omega) (by omega) (by omega) (by omega)
  have e0 := best_plan_ok (q+1) k s (by omega) (by omega) (by omega) (by omega)
  rw [bpM_d] at e1 e0
  have len := bpM_len (n - k) 0 (n - k) (s - 1) (by omega) (Nat.le_refl _) (by omega)
  have len2 := bpM_len (n - k) k (n - k) (s - 1) (by omega) (Nat.le_refl _) (by omega)
  have len3 := bpM_len k 0 k s (by omega) (Nat.le_refl _) (by omega)
  have nn : (n - k) * (n - k) ≤ 400 * 400 := Nat.mul_le_mul (by omega) (by omega)
  have kk : k * k ≤ 400 * 400 := Nat.mul_le_mul (by omega) (by omega)
  have e2 := moved_ok (q+5) k (bpM (n - k) 0 (n - k) (s - 1)) (by omega)
  rw [bp_sh, Nat.zero_add] at e2
  have e3 := cleared_ok q n s k hs hs2 h1 h2 hn
  have e4 := mulT (.tuple [.str "step"]) k h1 (by omega)
  have c1 : (n : Int) - (k : Int) = ((n - k : Nat) : Int) := by omega
  have c2 : (s : Int) - (1 : Int) = ((s - 1 : Nat) : Int) := by omega
  rw [byM_d]
  push_cast [l_bind_no, bd23, c1, c2, e0, e1, e2, e3, e4]
theorem byM_run (n s k : Nat) (hs : 2 ≤ s) (h1 : 1 ≤ k) (h2 : k < n) : ∃ w', runM s ⟨n, 0, [0], []⟩ (byM n s k) 0 = (none, w') ∧ w'.left = 0 ∧ (tmSum w'.tm : Int) = k + fS (n - k) (s - 1) + fS k s := by
  obtain ⟨a1, a2, a3⟩ := stepsW_f k ⟨n, 0, [0], []⟩
  have s1 := run_steps s k ⟨n, 0, [0], []⟩ 0 (by show 0 + k ≤ n; omega)
  have a2 : (stepsW k ⟨n, 0, [0], []⟩).here = k := by rw [a2]; show 0 + k = k; omega
  have kk : mvS s (stepsW k ⟨n, 0, [0], []⟩) .keep = some { stepsW k ⟨n, 0, [0], []⟩ with kept := [0, k] } := by
    rw [mvS, if_neg (by rw [a2, a3]; rintro (x | x)
                        · have x : k ∈ [0] := x
                          simp at x; omega
                        · have x : (s : Int) ≤ ([0] : List Nat).length := x
                          simp at x; omega)]
    have e : (stepsW k ⟨n, 0, [0], []⟩).kept ++ [(stepsW k ⟨n, 0, [0], []⟩).here] = [0, k] := by rw [a2, a3]; rfl
    rw [e]
  have s2 : runM s ⟨n, 0, [0], []⟩ (List.replicate k .step ++ [.keep]) 0 = (none, { stepsW k ⟨n, 0, [0], []⟩ with kept := [0, k] }) := by
    rw [runM_app s _ _ _ _ _ s1, runM, kk]; rfl
  obtain ⟨w2, r2, d2⟩ := bp_done s (n - k) k (n - k) (s - 1) { stepsW k ⟨n, 0, [0], []⟩ with kept := [0, k] } (0 + (List.replicate k Mv.step ++ [Mv.keep]).length) (by omega) (Nat.le_refl _) (by omega)
    (by show (stepsW k ⟨n, 0, [0], []⟩).left = _; rw [a1]; show n = _; omega) (by show (stepsW k ⟨n, 0, [0], []⟩).here = k; exact a2) (by show k ∈ [0, k]; simp) (fun x hx => by have hx : x ∈ [0, k] := hx; simp at hx; omega) (by show 2 + (s - 1) ≤ s + 1; omega)
  have k2 : w2.kept = [0, k] := d2.kept
  have tk : mvS s w2 (.take 0) = some { w2 with here := 0 } := by rw [mvS, if_pos (by rw [k2]; simp)]
  have dr : mvS s { w2 with here := 0 } (.drop k) = some { w2 with here := 0, kept := [0] } := by
    have e : w2.kept.filter (fun a => !decide (a = k)) = [0] := by
      rw [k2, List.filter_cons, List.filter_cons]
      rw [decide_eq_false (show ¬ (0 = k) by omega), decide_eq_true (show k = k from rfl)]
      rfl
    rw [mvS, if_pos (by show k ∈ w2.kept; rw [k2]; simp)]
    show some ({ left := w2.left, here := 0, kept := w2.kept.filter (fun a => !decide (a = k)), tm := w2.tm } : Ws) = _
    rw [e]
  obtain ⟨w3, r3, d3⟩ := bp_done s k 0 k s { w2 with here := 0, kept := [0] } (0 + (List.replicate k Mv.step ++ [Mv.keep]).length + (bpM (n - k) k (n - k) (s - 1)).length + 1 + 1) (by omega) (Nat.le_refl _) (by omega)
    (by show w2.left = 0 + k; rw [d2.left]; omega) rfl (by show 0 ∈ [0]; simp) (fun x hx => by have hx : x ∈ [0] := hx; simp at hx; omega) (by show 1 + s ≤ s + 1; omega)
  refine ⟨w3, ?_, d3.left, ?_⟩
  · unfold byM
    rw [List.append_assoc, List.append_assoc, List.append_assoc, runM_app s _ _ _ _ _ s2, runM_app s _ _ _ _ _ r2, List.cons_append, List.nil_append, runM, tk]
    show runM s { w2 with here := 0 } (.drop k :: bpM k 0 k s) _ = _
    rw [runM, dr]
    exact r3
  · have x1 : (tmSum w3.tm : Int) = tmSum w2.tm + fS k s := d3.sum
    have x2 : (tmSum w2.tm : Int) = tmSum (stepsW k ⟨n, 0, [0], []⟩).tm + fS (n - k) (s - 1) := d2.sum
    have x3 := stepsW_sum k ⟨n, 0, [0], []⟩
    have x4 : tmSum ({ left := n, here := 0, kept := [0], tm := [] } : Ws).tm = 0 := rfl
    omega
theorem byM_small (n s k : Nat) (hs : 2 ≤ s) (h1 : 1 ≤ k) (h2 : k < n) (hn : n ≤ 400) : ∀ m ∈ byM n s k, m.small := by
  intro m hm
  unfold byM at hm
  rcases List.mem_append.mp hm with hm | hm
  · rcases List.mem_append.mp hm with hm | hm
    · rcases List.mem_append.mp hm with hm | hm
      · rcases List.mem_append.mp hm with hm | hm
        · rcases List.mem_append.mp hm with hm | hm
          · rw [(List.mem_replicate.mp hm).2]; trivial
          · rw [List.mem_singleton.mp hm]; trivial
        · exact bpM_small (n - k) k (n - k) (s - 1) (by omega) (Nat.le_refl _) (by omega) (by omega) m hm
      · rw [List.mem_singleton.mp hm]; show 0 ≤ 1000; omega
    · rw [List.mem_singleton.mp hm]; show k ≤ 1000; omega
  · exact bpM_small k 0 k s (by omega) (Nat.le_refl _) (by omega) (by omega) m hm
theorem byM_len (n s k : Nat) (hs : 2 ≤ s) (h1 : 1 ≤ k) (h2 : k < n) (hn : n ≤ 400) : (byM n s k).length ≤ 2000000 := by
  have len2 := bpM_len (n - k) k (n - k) (s - 1) (by omega) (Nat.le_refl _) (by omega)
  have len3 := bpM_len k 0 k s (by omega) (Nat.le_refl _) (by omega)
  have nn : (n - k) * (n - k) ≤ 400 * 400 := Nat.mul_le_mul (by omega) (by omega)
  have kk : k * k ≤ 400 * 400 := Nat.mul_le_mul (by omega) (by omega)
  unfold byM
  simp only [List.length_append, List.length_replicate, List.length_cons, List.length_nil]
  omega
def fuT : Nat := 30
abbrev LS (a dr t n s o5 o6 o7 o8 o9 o10 : O) : St := [a, dr, t, n, s, o5, o6, o7, o8, o9, o10]
/-- a name of a comprehension, before -/
def Shd (o : O) : Prop := (match o with | .un => true | o => o.shared) = true
theorem due_lci (n s : Nat) (hs : 2 ≤ s) (hs2 : s ≤ 100) (hn : 2 ≤ n) (hn2 : n ≤ 100) (a dr t o6 o7 o8 o9 o10 : O) (h7 : Shd o7) : ev (cfOf PG 30) (.lci (.v 7) (.itr .range2 [(.int 1), (.var 3)]) (.cmp .eq (.bop .add (.bop .add (.var 7) (.call 16 [(.bop .sub (.var 3) (.var 7)), (.bop .sub (.var 4) (.int 1))])) (.call 16 [(.var 7), (.var 4)])) (.var 5)) (.var 7)) (LS a dr t (.dat (nD n)) (.dat (nD s)) (.dat (.int (fS n s))) o6 o7 o8 o9 o10) =
    .ok (.lst ((keepsL n s).map nD)) (LS a dr t (.dat (nD n)) (.dat (nD s)) (.dat (.int (fS n s))) o6 o7 o8 o9 o10) := by
  have ek : keepsL n s = (List.range' 1 (n - 1)).filter (keepP n s) := by unfold keepsL; rw [if_neg (by omega)]
  rw [ek]
  have er := rng2 1 n (by omega) (by omega)
  rw [range_nD] at er
  rw [show ((1 : Nat) : Int) = 1 from rfl] at er
  refine ev_lci_n nD (List.range' 1 (n - 1)) (keepP n s) nD (fun k => LS a dr t (.dat (nD n)) (.dat (nD s)) (.dat (.int (fS n s))) o6 (.dat (nD k)) o8 o9 o10) ?_ ?_ (fun _ _ => rfl) (fun k hk => ?_) (fun k _ _ => ?_)
  · push_cast [l_bind_no, er]
  · unfold cOk
    rw [List.length_map, List.length_range', szK (by omega)]
    cases o7 <;> first | rfl | cases h7
  · obtain ⟨i, h3, h4⟩ := List.mem_range'.mp hk
    have e1 : (n : Int) - (k : Int) = ((n - k : Nat) : Int) := by omega
    have e2 : (s : Int) - (1 : Int) = ((s - 1 : Nat) : Int) := by omega
    have f1 := fewest_steps_ok 26 (n - k) (s - 1) (by omega) (by omega) (by omega) (by omega)
    have f2 := fewest_steps_ok 26 k s (by omega) (by omega) (by omega) (by omega)
    push_cast [l_bind_no, e1, e2, f1, f2]
    exact ⟨_, rfl⟩
  · push_cast [l_bind_no]
    exact ⟨_, _, rfl, rfl⟩
theorem inner_ok (ds : List Int) (hd : ds.length = 60) (t : Nat) (ht : t < 5) (n s : Nat) (hs : 2 ≤ s) (hs2 : s ≤ 8) (hn : 2 ≤ n) (hn2 : n ≤ 60) (j : Nat) (hj : j < 3) (a o6 o7 o10 : O) : ∃ (k : Nat) (p10 : O), execs (cfOf PG 30) subT [(.asg 7 (.bop .add (.int 1) (.bop .mod (.bi .int [(.idx (.var 1) (.bop .add (.bop .add (.int 20) (.bop .mul (.int 3) (.var 2))) (.var 9)))]) (.bop .sub (.var 3) (.int 1))))), (.asg 10 (.call 23 [(.var 3), (.var 4), (.var 7)])), (.ite (.or (.notn (.call 10 [(.var 3), (.var 4), (.var 10)])) (.or (.cmp .ne (.cmp .eq (.call 12 [(.var 3), (.var 4), (.var 10)]) (.var 5)) (.cmp .mem (.var 7) (.var 8))) (.cmp .lt (.call 12 [(.var 3), (.var 4), (.var 10)]) (.var 5)))) [(.ret (.bl false))] [])] (LS a (.dat (.list (ds.map .int))) (.dat (nD t)) (.dat (nD n)) (.dat (nD s)) (.dat (.int (fS n s))) o6 o7 (.dat (.tuple ((keepsL n s).map nD))) (.dat (nD j)) o10) =
    .ok .nx (LS a (.dat (.list (ds.map .int))) (.dat (nD t)) (.dat (nD n)) (.dat (nD s)) (.dat (.int (fS n s))) o6 (.dat (nD k)) (.dat (.tuple ((keepsL n s).map nD))) (.dat (nD j)) p10) := by
  obtain ⟨x, hx, ex⟩ := mod_nat (ds.getD (20 + 3 * (t : Int) + (j : Int)).toNat 0) (n - 1) (by omega)
  rw [show ((n - 1 : Nat) : Int) = (n : Int) - 1 by omega] at ex
  have e2 : (1 : Int) + (x : Int) = ((x + 1 : Nat) : Int) := by omega
  have b := by_ok 23 n s (x + 1) hs (by omega) (by omega) (by omega) (by omega)
  obtain ⟨w', r, hl, sm⟩ := byM_run n s (x + 1) hs (by omega) (by omega)
  have len := byM_len n s (x + 1) hs (by omega) (by omega) (by omega)
  have sml := byM_small n s (x + 1) hs (by omega) (by omega) (by omega)
  have fl : flD (runM s ⟨n, 0, [0], []⟩ (byM n s (x + 1)) 0) = .none := by rw [r, flD, hl]; rfl
  have sf := steps_fault_ok 26 n s (byM n s (x + 1)) (by omega) (by omega) (by omega) (by omega) (by omega) sml
  have so := steps_of_ok 25 n s (byM n s (x + 1)) (by omega) (by omega) (by omega) (by omega) (by omega) sml fl
  rw [fl] at sf
  rw [r] at so
  have m1 := memT_n (x + 1) (keepsL n s)
  rw [keeps_mem hs hn (by omega) (by omega)] at m1
  have any := fS_any (n := n) (s := s) (k := x + 1) hs hn (by omega) (by omega)
  have kp : decide ((tmSum w'.tm : Int) = fS n s) = keepP n s (x + 1) := by
    unfold keepP
    rw [sm]
  have nb := ne_bools (keepP n s (x + 1)) (keepP n s (x + 1))
  rw [bne_self_eq_false] at nb
  have lt : decide ((tmSum w'.tm : Int) < fS n s) = false := decide_eq_false (by omega)
  refine ⟨x + 1, .dat (.tuple ((byM n s (x + 1)).map Mv.d)), ?_⟩
  push_cast [l_bind_no, ex, e2, b, sf, so, m1, kp, nb, lt]
theorem inner_lp (ds : List Int) (hd : ds.length = 60) (t : Nat) (ht : t < 5) (n s : Nat) (hs : 2 ≤ s) (hs2 : s ≤ 8) (hn : 2 ≤ n) (hn2 : n ≤ 60) (a o6 : O) : ∀ (d j : Nat), j + d = 3 → ∀ (o7 o9 o10 : O), Shd o7 → ∃ p7 p9 p10, Shd p7 ∧ forX (cfOf PG 30) subT (.v 9) [(.asg 7 (.bop .add (.int 1) (.bop .mod (.bi .int [(.idx (.var 1) (.bop .add (.bop .add (.int 20) (.bop .mul (.int 3) (.var 2))) (.var 9)))]) (.bop .sub (.var 3) (.int 1))))), (.asg 10 (.call 23 [(.var 3), (.var 4), (.var 7)])), (.ite (.or (.notn (.call 10 [(.var 3), (.var 4), (.var 10)])) (.or (.cmp .ne (.cmp .eq (.call 12 [(.var 3), (.var 4), (.var 10)]) (.var 5)) (.cmp .mem (.var 7) (.var 8))) (.cmp .lt (.call 12 [(.var 3), (.var 4), (.var 10)]) (.var 5)))) [(.ret (.bl false))] [])] (rangeD j 1 d) (LS a (.dat (.list (ds.map .int))) (.dat (nD t)) (.dat (nD n)) (.dat (nD s)) (.dat (.int (fS n s))) o6 o7 (.dat (.tuple ((keepsL n s).map nD))) o9 o10) =
    .ok .nx (LS a (.dat (.list (ds.map .int))) (.dat (nD t)) (.dat (nD n)) (.dat (nD s)) (.dat (.int (fS n s))) o6 p7 (.dat (.tuple ((keepsL n s).map nD))) p9 p10)
  | 0, j, h, o7, o9, o10, h7 => ⟨o7, o9, o10, h7, for_n _ _ _ _ _⟩
  | d + 1, j, h, o7, o9, o10, h7 => by
    rw [rangeD_s, for_c]
    obtain ⟨k, p10, e⟩ := inner_ok ds hd t ht n s hs hs2 hn hn2 j (by omega) a o6 o7 o10
    have e1 : rngS (.v 9) (execs (cfOf PG 30) subT [(.asg 7 (.bop .add (.int 1) (.bop .mod (.bi .int [(.idx (.var 1) (.bop .add (.bop .add (.int 20) (.bop .mul (.int 3) (.var 2))) (.var 9)))]) (.bop .sub (.var 3) (.int 1))))), (.asg 10 (.call 23 [(.var 3), (.var 4), (.var 7)])), (.ite (.or (.notn (.call 10 [(.var 3), (.var 4), (.var 10)])) (.or (.cmp .ne (.cmp .eq (.call 12 [(.var 3), (.var 4), (.var 10)]) (.var 5)) (.cmp .mem (.var 7) (.var 8))) (.cmp .lt (.call 12 [(.var 3), (.var 4), (.var 10)]) (.var 5)))) [(.ret (.bl false))] [])]) (nD j) (LS a (.dat (.list (ds.map .int))) (.dat (nD t)) (.dat (nD n)) (.dat (nD s)) (.dat (.int (fS n s))) o6 o7 (.dat (.tuple ((keepsL n s).map nD))) o9 o10) = _ := e
    rw [show (PyData.int (j : Int)) = nD j from rfl, e1, l_tu_nx, show (j : Int) + 1 = ((j + 1 : Nat) : Int) by omega]
    exact inner_lp ds hd t ht n s hs hs2 hn hn2 a o6 d (j + 1) (by omega) _ _ _ rfl
theorem body_ok (ds : List Int) (hd : ds.length = 60) (t : Nat) (ht : t < 5) (n s : Nat) (hs : 2 ≤ s) (hs2 : s ≤ 8) (hn : 2 ≤ n) (hn2 : n ≤ 60) (a o5 o6 o7 o8 o9 o10 : O) (h7 : Shd o7) : ∃ p5 p6 p7 p8 p9 p10, Shd p7 ∧ execs (cfOf PG 30) subT ([(.asg 5 (.call 16 [(.var 3), (.var 4)]))] ++ ([(.asg 6 (.bs .tuple (.e (.lci (.v 7) (.itr .range2 [(.int 1), (.var 3)]) (.cmp .eq (.bop .add (.bop .add (.var 7) (.call 16 [(.bop .sub (.var 3) (.var 7)), (.bop .sub (.var 4) (.int 1))])) (.call 16 [(.var 7), (.var 4)])) (.var 5)) (.var 7)))))] ++ ([(.asg 8 (.call 18 [(.var 3), (.var 4)]))] ++ ([(.ite (.or (.cmp .ne (.var 8) (.var 6)) (.or (.cmp .eq (.bi .len [(.var 8)]) (.int 0)) (.cmp .ne (.var 8) (.bs .tuple (.itr .range2 [(.idx (.var 8) (.int 0)), (.bop .add (.idx (.var 8) (.int 0)) (.bi .len [(.var 8)]))]))))) [(.ret (.bl false))] [])] ++ ([(.forr (.v 9) (.itr .range1 [(.int 3)]) [(.asg 7 (.bop .add (.int 1) (.bop .mod (.bi .int [(.idx (.var 1) (.bop .add (.bop .add (.int 20) (.bop .mul (.int 3) (.var 2))) (.var 9)))]) (.bop .sub (.var 3) (.int 1))))), (.asg 10 (.call 23 [(.var 3), (.var 4), (.var 7)])), (.ite (.or (.notn (.call 10 [(.var 3), (.var 4), (.var 10)])) (.or (.cmp .ne (.cmp .eq (.call 12 [(.var 3), (.var 4), (.var 10)]) (.var 5)) (.cmp .mem (.var 7) (.var 8))) (.cmp .lt (.call 12 [(.var 3), (.var 4), (.var 10)]) (.var 5)))) [(.ret (.bl false))] [])])] ++ [(.ite (.or (.cmp .ne (.call 18 [(.var 3), (.int 1)]) (.tup [])) (.cmp .ne (.call 18 [(.int 1), (.var 4)]) (.tup []))) [(.ret (.bl false))] [])]))))) (LS a (.dat (.list (ds.map .int))) (.dat (nD t)) (.dat (nD n)) (.dat (nD s)) o5 o6 o7 o8 o9 o10) =
    .ok .nx (LS a (.dat (.list (ds.map .int))) (.dat (nD t)) (.dat (nD n)) (.dat (nD s)) p5 p6 p7 p8 p9 p10) := by
  obtain ⟨h, c, ek⟩ := keeps_range (n := n) (s := s) hs hn
  have f1 := fewest_steps_ok 26 n s (by omega) (by omega) (by omega) (by omega)
  have du := due_lci n s hs (by omega) hn (by omega) a (.dat (.list (ds.map .int))) (.dat (nD t)) o6 o7 o8 o9 o10 h7
  have k1 := first_ok 25 n s (by omega) (by omega) (by omega) (by omega)
  have k2 := first_ok 25 n 1 (by omega) (by omega) (by omega) (by omega)
  have k3 := first_ok 25 1 s (by omega) (by omega) (by omega) (by omega)
  have z2 : keepsL n 1 = [] := by unfold keepsL; rw [if_pos (by omega)]
  have z3 : keepsL 1 s = [] := by unfold keepsL; rw [if_pos (by omega)]
  rw [z2, List.map_nil, show nD 1 = .int 1 from rfl] at k2
  rw [z3, List.map_nil, show nD 1 = .int 1 from rfl] at k3
  have n0 : cmpD .ne (.tuple []) (.tuple []) = some false := by rfl
  have n1 := neT_n (keepsL n s) (keepsL n s)
  rw [decide_eq_true rfl] at n1
  have hb : h + (c + 1) ≤ 1000 := by
    have hl : h + c ∈ keepsL n s := by rw [ek]; exact List.mem_range'.mpr ⟨c, by omega, by omega⟩
    unfold keepsL at hl
    rw [if_neg (by omega), List.mem_filter] at hl
    obtain ⟨i, h3, h4⟩ := List.mem_range'.mp hl.1
    omega
  have r1 := rng2 h (h + (c + 1)) (by omega) (by omega)
  rw [range_nD, show h + (c + 1) - h = c + 1 by omega, ← ek] at r1
  have i1 : idxD (.tuple ((keepsL n s).map nD)) (.int 0) = some (nD h) := by
    rw [ek]
    exact l_ixT0 _ _
  have hlen : (keepsL n s).length = c + 1 := by rw [ek, List.length_range']
  have e1 : (h : Int) + ((c + 1 : Nat) : Int) = ((h + (c + 1) : Nat) : Int) := by omega
  have e2 : decide (((c + 1 : Nat) : Int) = 0) = false := decide_eq_false (by omega)
  obtain ⟨p7, p9, p10, h7', lp⟩ := inner_lp ds hd t ht n s hs hs2 hn hn2 a (.dat (.tuple ((keepsL n s).map nD))) 3 0 rfl o7 o9 o10 h7
  have r3 := rng1 3 (by omega)
  rw [show ((3 : Nat) : Int) = 3 from rfl] at r3
  rw [show ((0 : Nat) : Int) = 0 from rfl] at lp
  refine ⟨.dat (.int (fS n s)), .dat (.tuple ((keepsL n s).map nD)), p7, .dat (.tuple ((keepsL n s).map nD)), p9, p10, h7', ?_⟩
  have du' : ev (cfOf PG 30) _ _ = _ := du
  push_cast [l_bind_no, f1, du', k1, n1, hlen, e1, e2, i1, r1, r3, lp, k2, k3, n0]
theorem execs_app {C : Cf} {sub : Nat → Nat → Bool} : ∀ (x y : List S) (s s' : St), execs C sub x s = .ok .nx s' → execs C sub (x ++ y) s = execs C sub y s'
  | [], y, s, s', h => by rw [execs] at h; cases h; rfl
  | a :: x, y, s, s', h => by
    rw [l_xs_c] at h
    rw [List.cons_append, l_xs_c]
    cases e : exec C sub a s with
    | no => rw [e] at h; cases h
    | exc => rw [e] at h; cases h
    | ok fl s1 =>
      rw [e] at h
      cases fl with
      | nx => exact execs_app x y s1 s' h
      | _ => cases h
theorem turn_ok (ds : List Int) (hd : ds.length = 60) (t : Nat) (ht : t < 5) (a o3 o4 o5 o6 o7 o8 o9 o10 : O) (h7 : Shd o7) : ∃ p3 p4 p5 p6 p7 p8 p9 p10, Shd p7 ∧ execs (cfOf PG 30) subT [(.par [(.a 3), (.a 4)] [(.bop .add (.int 2) (.bop .mod (.bi .int [(.idx (.var 1) (.var 2))]) (.idx (.lst [(.int 6), (.int 20), (.int 59)]) (.bop .mod (.var 2) (.int 3))))), (.bop .add (.int 2) (.bop .mod (.bi .int [(.idx (.var 1) (.bop .add (.int 10) (.var 2)))]) (.int 7)))]), (.asg 5 (.call 16 [(.var 3), (.var 4)])), (.asg 6 (.bs .tuple (.e (.lci (.v 7) (.itr .range2 [(.int 1), (.var 3)]) (.cmp .eq (.bop .add (.bop .add (.var 7) (.call 16 [(.bop .sub (.var 3) (.var 7)), (.bop .sub (.var 4) (.int 1))])) (.call 16 [(.var 7), (.var 4)])) (.var 5)) (.var 7))))), (.asg 8 (.call 18 [(.var 3), (.var 4)])), (.ite (.or (.cmp .ne (.var 8) (.var 6)) (.or (.cmp .eq (.bi .len [(.var 8)]) (.int 0)) (.cmp .ne (.var 8) (.bs .tuple (.itr .range2 [(.idx (.var 8) (.int 0)), (.bop .add (.idx (.var 8) (.int 0)) (.bi .len [(.var 8)]))]))))) [(.ret (.bl false))] []), (.forr (.v 9) (.itr .range1 [(.int 3)]) [(.asg 7 (.bop .add (.int 1) (.bop .mod (.bi .int [(.idx (.var 1) (.bop .add (.bop .add (.int 20) (.bop .mul (.int 3) (.var 2))) (.var 9)))]) (.bop .sub (.var 3) (.int 1))))), (.asg 10 (.call 23 [(.var 3), (.var 4), (.var 7)])), (.ite (.or (.notn (.call 10 [(.var 3), (.var 4), (.var 10)])) (.or (.cmp .ne (.cmp .eq (.call 12 [(.var 3), (.var 4), (.var 10)]) (.var 5)) (.cmp .mem (.var 7) (.var 8))) (.cmp .lt (.call 12 [(.var 3), (.var 4), (.var 10)]) (.var 5)))) [(.ret (.bl false))] [])]), (.ite (.or (.cmp .ne (.call 18 [(.var 3), (.int 1)]) (.tup [])) (.cmp .ne (.call 18 [(.int 1), (.var 4)]) (.tup []))) [(.ret (.bl false))] [])] (LS a (.dat (.list (ds.map .int))) (.dat (nD t)) o3 o4 o5 o6 o7 o8 o9 o10) = .ok .nx (LS a (.dat (.list (ds.map .int))) (.dat (nD t)) p3 p4 p5 p6 p7 p8 p9 p10) := by
  obtain ⟨y, hy, ey⟩ := mod_nat (ds.getD (10 + (t : Int)).toNat 0) 7 (by omega)
  rw [show ((7 : Nat) : Int) = 7 from rfl] at ey
  have e3 : (2 : Int) + (y : Int) = ((y + 2 : Nat) : Int) := by omega
  have q1 : ∃ n : Nat, 2 ≤ n ∧ n ≤ 60 ∧ execs (cfOf PG 30) subT [(.par [(.a 3), (.a 4)] [(.bop .add (.int 2) (.bop .mod (.bi .int [(.idx (.var 1) (.var 2))]) (.idx (.lst [(.int 6), (.int 20), (.int 59)]) (.bop .mod (.var 2) (.int 3))))), (.bop .add (.int 2) (.bop .mod (.bi .int [(.idx (.var 1) (.bop .add (.int 10) (.var 2)))]) (.int 7)))])] (LS a (.dat (.list (ds.map .int))) (.dat (nD t)) o3 o4 o5 o6 o7 o8 o9 o10) = .ok .nx (LS a (.dat (.list (ds.map .int))) (.dat (nD t)) (.dat (nD n)) (.dat (nD (y + 2))) o5 o6 o7 o8 o9 o10) := by
    have c : t % 3 = 0 ∨ t % 3 = 1 ∨ t % 3 = 2 := by omega
    rcases c with c | c | c
    · obtain ⟨x, hx, ex⟩ := mod_nat (ds.getD t 0) 6 (by omega)
      refine ⟨x + 2, by omega, by omega, ?_⟩
      have e1 : (t : Int) % 3 = 0 := by omega
      have e2 : (2 : Int) + (x : Int) = ((x + 2 : Nat) : Int) := by omega
      rw [show ((6 : Nat) : Int) = 6 from rfl] at ex
      push_cast [l_bind_no, e1, ex, e2, ey, e3]
    · obtain ⟨x, hx, ex⟩ := mod_nat (ds.getD t 0) 20 (by omega)
      refine ⟨x + 2, by omega, by omega, ?_⟩
      have e1 : (t : Int) % 3 = 1 := by omega
      have e2 : (2 : Int) + (x : Int) = ((x + 2 : Nat) : Int) := by omega
      rw [show ((20 : Nat) : Int) = 20 from rfl] at ex
      push_cast [l_bind_no, e1, ex, e2, ey, e3]
    · obtain ⟨x, hx, ex⟩ := mod_nat (ds.getD t 0) 59 (by omega)
      refine ⟨x + 2, by omega, by omega, ?_⟩
      have e1 : (t : Int) % 3 = 2 := by omega
      have e2 : (2 : Int) + (x : Int) = ((x + 2 : Nat) : Int) := by omega
      rw [show ((59 : Nat) : Int) = 59 from rfl] at ex
      push_cast [l_bind_no, e1, ex, e2, ey, e3]
  obtain ⟨n, n1, n2, q1⟩ := q1
  obtain ⟨p5, p6, p7, p8, p9, p10, h7', q3⟩ := body_ok ds hd t ht n (y + 2) (by omega) (by omega) n1 n2 a o5 o6 o7 o8 o9 o10 h7
  exact ⟨_, _, p5, p6, p7, p8, p9, p10, h7', (execs_app [(.par [(.a 3), (.a 4)] [(.bop .add (.int 2) (.bop .mod (.bi .int [(.idx (.var 1) (.var 2))]) (.idx (.lst [(.int 6), (.int 20), (.int 59)]) (.bop .mod (.var 2) (.int 3))))), (.bop .add (.int 2) (.bop .mod (.bi .int [(.idx (.var 1) (.bop .add (.int 10) (.var 2)))]) (.int 7)))])] _ _ _ q1).trans q3⟩
theorem loop_ok (ds : List Int) (hd : ds.length = 60) (a : O) : ∀ (k t : Nat), t + k = 5 → ∀ (o2 o3 o4 o5 o6 o7 o8 o9 o10 : O), Shd o7 → ∃ p2 p3 p4 p5 p6 p7 p8 p9 p10, forX (cfOf PG 30) subT (.v 2) [(.par [(.a 3), (.a 4)] [(.bop .add (.int 2) (.bop .mod (.bi .int [(.idx (.var 1) (.var 2))]) (.idx (.lst [(.int 6), (.int 20), (.int 59)]) (.bop .mod (.var 2) (.int 3))))), (.bop .add (.int 2) (.bop .mod (.bi .int [(.idx (.var 1) (.bop .add (.int 10) (.var 2)))]) (.int 7)))]), (.asg 5 (.call 16 [(.var 3), (.var 4)])), (.asg 6 (.bs .tuple (.e (.lci (.v 7) (.itr .range2 [(.int 1), (.var 3)]) (.cmp .eq (.bop .add (.bop .add (.var 7) (.call 16 [(.bop .sub (.var 3) (.var 7)), (.bop .sub (.var 4) (.int 1))])) (.call 16 [(.var 7), (.var 4)])) (.var 5)) (.var 7))))), (.asg 8 (.call 18 [(.var 3), (.var 4)])), (.ite (.or (.cmp .ne (.var 8) (.var 6)) (.or (.cmp .eq (.bi .len [(.var 8)]) (.int 0)) (.cmp .ne (.var 8) (.bs .tuple (.itr .range2 [(.idx (.var 8) (.int 0)), (.bop .add (.idx (.var 8) (.int 0)) (.bi .len [(.var 8)]))]))))) [(.ret (.bl false))] []), (.forr (.v 9) (.itr .range1 [(.int 3)]) [(.asg 7 (.bop .add (.int 1) (.bop .mod (.bi .int [(.idx (.var 1) (.bop .add (.bop .add (.int 20) (.bop .mul (.int 3) (.var 2))) (.var 9)))]) (.bop .sub (.var 3) (.int 1))))), (.asg 10 (.call 23 [(.var 3), (.var 4), (.var 7)])), (.ite (.or (.notn (.call 10 [(.var 3), (.var 4), (.var 10)])) (.or (.cmp .ne (.cmp .eq (.call 12 [(.var 3), (.var 4), (.var 10)]) (.var 5)) (.cmp .mem (.var 7) (.var 8))) (.cmp .lt (.call 12 [(.var 3), (.var 4), (.var 10)]) (.var 5)))) [(.ret (.bl false))] [])]), (.ite (.or (.cmp .ne (.call 18 [(.var 3), (.int 1)]) (.tup [])) (.cmp .ne (.call 18 [(.int 1), (.var 4)]) (.tup []))) [(.ret (.bl false))] [])] (rangeD t 1 k) (LS a (.dat (.list (ds.map .int))) o2 o3 o4 o5 o6 o7 o8 o9 o10) = .ok .nx (LS a (.dat (.list (ds.map .int))) p2 p3 p4 p5 p6 p7 p8 p9 p10)
  | 0, t, h, o2, o3, o4, o5, o6, o7, o8, o9, o10, _ => ⟨o2, o3, o4, o5, o6, o7, o8, o9, o10, for_n _ _ _ _ _⟩
  | k + 1, t, h, o2, o3, o4, o5, o6, o7, o8, o9, o10, h7 => by
    rw [rangeD_s, for_c]
    obtain ⟨p3, p4, p5, p6, p7, p8, p9, p10, h7', e⟩ := turn_ok ds hd t (by omega) a o3 o4 o5 o6 o7 o8 o9 o10 h7
    have e1 : rngS (.v 2) (execs (cfOf PG 30) subT [(.par [(.a 3), (.a 4)] [(.bop .add (.int 2) (.bop .mod (.bi .int [(.idx (.var 1) (.var 2))]) (.idx (.lst [(.int 6), (.int 20), (.int 59)]) (.bop .mod (.var 2) (.int 3))))), (.bop .add (.int 2) (.bop .mod (.bi .int [(.idx (.var 1) (.bop .add (.int 10) (.var 2)))]) (.int 7)))]), (.asg 5 (.call 16 [(.var 3), (.var 4)])), (.asg 6 (.bs .tuple (.e (.lci (.v 7) (.itr .range2 [(.int 1), (.var 3)]) (.cmp .eq (.bop .add (.bop .add (.var 7) (.call 16 [(.bop .sub (.var 3) (.var 7)), (.bop .sub (.var 4) (.int 1))])) (.call 16 [(.var 7), (.var 4)])) (.var 5)) (.var 7))))), (.asg 8 (.call 18 [(.var 3), (.var 4)])), (.ite (.or (.cmp .ne (.var 8) (.var 6)) (.or (.cmp .eq (.bi .len [(.var 8)]) (.int 0)) (.cmp .ne (.var 8) (.bs .tuple (.itr .range2 [(.idx (.var 8) (.int 0)), (.bop .add (.idx (.var 8) (.int 0)) (.bi .len [(.var 8)]))]))))) [(.ret (.bl false))] []), (.forr (.v 9) (.itr .range1 [(.int 3)]) [(.asg 7 (.bop .add (.int 1) (.bop .mod (.bi .int [(.idx (.var 1) (.bop .add (.bop .add (.int 20) (.bop .mul (.int 3) (.var 2))) (.var 9)))]) (.bop .sub (.var 3) (.int 1))))), (.asg 10 (.call 23 [(.var 3), (.var 4), (.var 7)])), (.ite (.or (.notn (.call 10 [(.var 3), (.var 4), (.var 10)])) (.or (.cmp .ne (.cmp .eq (.call 12 [(.var 3), (.var 4), (.var 10)]) (.var 5)) (.cmp .mem (.var 7) (.var 8))) (.cmp .lt (.call 12 [(.var 3), (.var 4), (.var 10)]) (.var 5)))) [(.ret (.bl false))] [])]), (.ite (.or (.cmp .ne (.call 18 [(.var 3), (.int 1)]) (.tup [])) (.cmp .ne (.call 18 [(.int 1), (.var 4)]) (.tup []))) [(.ret (.bl false))] [])]) (nD t) (LS a (.dat (.list (ds.map .int))) o2 o3 o4 o5 o6 o7 o8 o9 o10) = .ok .nx (LS a (.dat (.list (ds.map .int))) (.dat (nD t)) p3 p4 p5 p6 p7 p8 p9 p10) := e
    rw [show (PyData.int (t : Int)) = nD t from rfl, e1, l_tu_nx, show (t : Int) + 1 = ((t + 1 : Nat) : Int) by omega]
    exact loop_ok ds hd a k (t + 1) (by omega) _ _ _ _ _ _ _ _ _ h7'
theorem last_ok (a b o2 o3 o4 o5 o6 o7 o8 o9 o10 : O) : execs (cfOf PG 30) subT [(.ret (.and (.cmp .eq (.call 18 [(.int 3), (.int 2)]) (.tup [(.int 1)])) (.and (.cmp .eq (.call 18 [(.int 2), (.int 5)]) (.tup [(.int 1)])) (.cmp .eq (.call 18 [(.int 4), (.int 2)]) (.tup [(.int 1), (.int 2)])))))] (LS a b o2 o3 o4 o5 o6 o7 o8 o9 o10) = .ok (.ret (.dat (.bool true))) (LS a b o2 o3 o4 o5 o6 o7 o8 o9 o10) := by
  have k1 := first_ok 25 3 2 (by omega) (by omega) (by omega) (by omega)
  have k2 := first_ok 25 2 5 (by omega) (by omega) (by omega) (by omega)
  have k3 := first_ok 25 4 2 (by omega) (by omega) (by omega) (by omega)
  have z1 : (keepsL 3 2).map nD = [.int 1] := by rw [show keepsL 3 2 = [1] by decide +kernel]; rfl
  have z2 : (keepsL 2 5).map nD = [.int 1] := by rw [show keepsL 2 5 = [1] by decide +kernel]; rfl
  have z3 : (keepsL 4 2).map nD = [.int 1, .int 2] := by rw [show keepsL 4 2 = [1, 2] by decide +kernel]; rfl
  rw [z1, show nD 3 = .int 3 from rfl, show nD 2 = .int 2 from rfl] at k1
  rw [z2, show nD 2 = .int 2 from rfl, show nD 5 = .int 5 from rfl] at k2
  rw [z3, show nD 4 = .int 4 from rfl, show nD 2 = .int 2 from rfl] at k3
  have c1 : cmpD .eq (.tuple [.int 1]) (.tuple [.int 1]) = some true := by rfl
  have c2 : cmpD .eq (.tuple [.int 1, .int 2]) (.tuple [.int 1, .int 2]) = some true := by rfl
  push_cast [l_bind_no, k1, k2, k3, c1, c2]
theorem draws60 (ns : List Int) : ∃ ds : List Int, ds.length = 60 ∧ execs (cfOf PG 30) subT [(.asg 1 (.call 21 [(.var 0), (.int 60)]))] [.dat (.list (ns.map .int)), .un, .un, .un, .un, .un, .un, .un, .un, .un, .un] = .ok .nx [.dat (.list (ns.map .int)), .dat (.list (ds.map .int)), .un, .un, .un, .un, .un, .un, .un, .un, .un] := by
  obtain ⟨ds, s', e, hl⟩ := draws_ok (C := cfOf PG 29) (sub := subT) (m := 60) ns (by omega)
  refine ⟨ds, hl, ?_⟩
  have e : execs (cfOf PG 29) subT bd21 [.dat (.list (ns.map .int)), .dat (.int 60), .un, .un, .un, .un, .un] = .ok (.ret (.lst (ds.map .int))) s' := e
  have hc : callF PG 30 21 [.dat (.list (ns.map .int)), .dat (.int 60)] = .ok (.lst (ds.map .int)) (s'.take 2) := by
    rw [(callF_at (P := PG) (fn := ⟨2, 7, bd21⟩) rfl rfl)]
    show finish 2 (execs (cfOf PG 29) subT bd21 [.dat (.list (ns.map .int)), .dat (.int 60), .un, .un, .un, .un, .un]) = _
    rw [e]; rfl
  push_cast [l_bind_no, hc]
theorem law_ok (ns : List Int) (hl : ns.length ≤ 63) : ∃ outs, callF (pgT wfT) (fuT + 1) lawF [.dat (.list (ns.map .int))] = .ok (.dat (.bool true)) outs := by
  obtain ⟨ds, hd, e0⟩ := draws60 ns
  obtain ⟨p2, p3, p4, p5, p6, p7, p8, p9, p10, e1⟩ := loop_ok ds hd (.dat (.list (ns.map .int))) 5 0 rfl .un .un .un .un .un .un .un .un .un rfl
  have er := rng1 5 (by omega)
  rw [show ((5 : Nat) : Int) = 5 from rfl] at er
  rw [show ((0 : Nat) : Int) = 0 from rfl] at e1
  have e1 : execs (cfOf PG 30) subT [(.forr (.v 2) (.itr .range1 [(.int 5)]) [(.par [(.a 3), (.a 4)] [(.bop .add (.int 2) (.bop .mod (.bi .int [(.idx (.var 1) (.var 2))]) (.idx (.lst [(.int 6), (.int 20), (.int 59)]) (.bop .mod (.var 2) (.int 3))))), (.bop .add (.int 2) (.bop .mod (.bi .int [(.idx (.var 1) (.bop .add (.int 10) (.var 2)))]) (.int 7)))]), (.asg 5 (.call 16 [(.var 3), (.var 4)])), (.asg 6 (.bs .tuple (.e (.lci (.v 7) (.itr .range2 [(.int 1), (.var 3)]) (.cmp .eq (.bop .add (.bop .add (.var 7) (.call 16 [(.bop .sub (.var 3) (.var 7)), (.bop .sub (.var 4) (.int 1))])) (.call 16 [(.var 7), (.var 4)])) (.var 5)) (.var 7))))), (.asg 8 (.call 18 [(.var 3), (.var 4)])), (.ite (.or (.cmp .ne (.var 8) (.var 6)) (.or (.cmp .eq (.bi .len [(.var 8)]) (.int 0)) (.cmp .ne (.var 8) (.bs .tuple (.itr .range2 [(.idx (.var 8) (.int 0)), (.bop .add (.idx (.var 8) (.int 0)) (.bi .len [(.var 8)]))]))))) [(.ret (.bl false))] []), (.forr (.v 9) (.itr .range1 [(.int 3)]) [(.asg 7 (.bop .add (.int 1) (.bop .mod (.bi .int [(.idx (.var 1) (.bop .add (.bop .add (.int 20) (.bop .mul (.int 3) (.var 2))) (.var 9)))]) (.bop .sub (.var 3) (.int 1))))), (.asg 10 (.call 23 [(.var 3), (.var 4), (.var 7)])), (.ite (.or (.notn (.call 10 [(.var 3), (.var 4), (.var 10)])) (.or (.cmp .ne (.cmp .eq (.call 12 [(.var 3), (.var 4), (.var 10)]) (.var 5)) (.cmp .mem (.var 7) (.var 8))) (.cmp .lt (.call 12 [(.var 3), (.var 4), (.var 10)]) (.var 5)))) [(.ret (.bl false))] [])]), (.ite (.or (.cmp .ne (.call 18 [(.var 3), (.int 1)]) (.tup [])) (.cmp .ne (.call 18 [(.int 1), (.var 4)]) (.tup []))) [(.ret (.bl false))] [])])] (LS (.dat (.list (ns.map .int))) (.dat (.list (ds.map .int))) .un .un .un .un .un .un .un .un .un) = .ok .nx (LS (.dat (.list (ns.map .int))) (.dat (.list (ds.map .int))) p2 p3 p4 p5 p6 p7 p8 p9 p10) := by
    push_cast [l_bind_no, er, e1]
  have e := (execs_app [(.asg 1 (.call 21 [(.var 0), (.int 60)]))] ([(.forr (.v 2) (.itr .range1 [(.int 5)]) [(.par [(.a 3), (.a 4)] [(.bop .add (.int 2) (.bop .mod (.bi .int [(.idx (.var 1) (.var 2))]) (.idx (.lst [(.int 6), (.int 20), (.int 59)]) (.bop .mod (.var 2) (.int 3))))), (.bop .add (.int 2) (.bop .mod (.bi .int [(.idx (.var 1) (.bop .add (.int 10) (.var 2)))]) (.int 7)))]), (.asg 5 (.call 16 [(.var 3), (.var 4)])), (.asg 6 (.bs .tuple (.e (.lci (.v 7) (.itr .range2 [(.int 1), (.var 3)]) (.cmp .eq (.bop .add (.bop .add (.var 7) (.call 16 [(.bop .sub (.var 3) (.var 7)), (.bop .sub (.var 4) (.int 1))])) (.call 16 [(.var 7), (.var 4)])) (.var 5)) (.var 7))))), (.asg 8 (.call 18 [(.var 3), (.var 4)])), (.ite (.or (.cmp .ne (.var 8) (.var 6)) (.or (.cmp .eq (.bi .len [(.var 8)]) (.int 0)) (.cmp .ne (.var 8) (.bs .tuple (.itr .range2 [(.idx (.var 8) (.int 0)), (.bop .add (.idx (.var 8) (.int 0)) (.bi .len [(.var 8)]))]))))) [(.ret (.bl false))] []), (.forr (.v 9) (.itr .range1 [(.int 3)]) [(.asg 7 (.bop .add (.int 1) (.bop .mod (.bi .int [(.idx (.var 1) (.bop .add (.bop .add (.int 20) (.bop .mul (.int 3) (.var 2))) (.var 9)))]) (.bop .sub (.var 3) (.int 1))))), (.asg 10 (.call 23 [(.var 3), (.var 4), (.var 7)])), (.ite (.or (.notn (.call 10 [(.var 3), (.var 4), (.var 10)])) (.or (.cmp .ne (.cmp .eq (.call 12 [(.var 3), (.var 4), (.var 10)]) (.var 5)) (.cmp .mem (.var 7) (.var 8))) (.cmp .lt (.call 12 [(.var 3), (.var 4), (.var 10)]) (.var 5)))) [(.ret (.bl false))] [])]), (.ite (.or (.cmp .ne (.call 18 [(.var 3), (.int 1)]) (.tup [])) (.cmp .ne (.call 18 [(.int 1), (.var 4)]) (.tup []))) [(.ret (.bl false))] [])])] ++ [(.ret (.and (.cmp .eq (.call 18 [(.int 3), (.int 2)]) (.tup [(.int 1)])) (.and (.cmp .eq (.call 18 [(.int 2), (.int 5)]) (.tup [(.int 1)])) (.cmp .eq (.call 18 [(.int 4), (.int 2)]) (.tup [(.int 1), (.int 2)])))))]) _ _ e0).trans ((execs_app [(.forr (.v 2) (.itr .range1 [(.int 5)]) [(.par [(.a 3), (.a 4)] [(.bop .add (.int 2) (.bop .mod (.bi .int [(.idx (.var 1) (.var 2))]) (.idx (.lst [(.int 6), (.int 20), (.int 59)]) (.bop .mod (.var 2) (.int 3))))), (.bop .add (.int 2) (.bop .mod (.bi .int [(.idx (.var 1) (.bop .add (.int 10) (.var 2)))]) (.int 7)))]), (.asg 5 (.call 16 [(.var 3), (.var 4)])), (.asg 6 (.bs .tuple (.e (.lci (.v 7) (.itr .range2 [(.int 1), (.var 3)]) (.cmp .eq (.bop .add (.bop .add (.var 7) (.call 16 [(.bop .sub (.var 3) (.var 7)), (.bop .sub (.var 4) (.int 1))])) (.call 16 [(.var 7), (.var 4)])) (.var 5)) (.var 7))))), (.asg 8 (.call 18 [(.var 3), (.var 4)])), (.ite (.or (.cmp .ne (.var 8) (.var 6)) (.or (.cmp .eq (.bi .len [(.var 8)]) (.int 0)) (.cmp .ne (.var 8) (.bs .tuple (.itr .range2 [(.idx (.var 8) (.int 0)), (.bop .add (.idx (.var 8) (.int 0)) (.bi .len [(.var 8)]))]))))) [(.ret (.bl false))] []), (.forr (.v 9) (.itr .range1 [(.int 3)]) [(.asg 7 (.bop .add (.int 1) (.bop .mod (.bi .int [(.idx (.var 1) (.bop .add (.bop .add (.int 20) (.bop .mul (.int 3) (.var 2))) (.var 9)))]) (.bop .sub (.var 3) (.int 1))))), (.asg 10 (.call 23 [(.var 3), (.var 4), (.var 7)])), (.ite (.or (.notn (.call 10 [(.var 3), (.var 4), (.var 10)])) (.or (.cmp .ne (.cmp .eq (.call 12 [(.var 3), (.var 4), (.var 10)]) (.var 5)) (.cmp .mem (.var 7) (.var 8))) (.cmp .lt (.call 12 [(.var 3), (.var 4), (.var 10)]) (.var 5)))) [(.ret (.bl false))] [])]), (.ite (.or (.cmp .ne (.call 18 [(.var 3), (.int 1)]) (.tup [])) (.cmp .ne (.call 18 [(.int 1), (.var 4)]) (.tup []))) [(.ret (.bl false))] [])])] [(.ret (.and (.cmp .eq (.call 18 [(.int 3), (.int 2)]) (.tup [(.int 1)])) (.and (.cmp .eq (.call 18 [(.int 2), (.int 5)]) (.tup [(.int 1)])) (.cmp .eq (.call 18 [(.int 4), (.int 2)]) (.tup [(.int 1), (.int 2)])))))] _ _ e1).trans (last_ok _ _ _ _ _ _ _ _ _ _ _))
  have f : callF PG 31 25 [.dat (.list (ns.map .int))] = finish 1 (execs (cfOf PG 30) subT ([(.asg 1 (.call 21 [(.var 0), (.int 60)]))] ++ ([(.forr (.v 2) (.itr .range1 [(.int 5)]) [(.par [(.a 3), (.a 4)] [(.bop .add (.int 2) (.bop .mod (.bi .int [(.idx (.var 1) (.var 2))]) (.idx (.lst [(.int 6), (.int 20), (.int 59)]) (.bop .mod (.var 2) (.int 3))))), (.bop .add (.int 2) (.bop .mod (.bi .int [(.idx (.var 1) (.bop .add (.int 10) (.var 2)))]) (.int 7)))]), (.asg 5 (.call 16 [(.var 3), (.var 4)])), (.asg 6 (.bs .tuple (.e (.lci (.v 7) (.itr .range2 [(.int 1), (.var 3)]) (.cmp .eq (.bop .add (.bop .add (.var 7) (.call 16 [(.bop .sub (.var 3) (.var 7)), (.bop .sub (.var 4) (.int 1))])) (.call 16 [(.var 7), (.var 4)])) (.var 5)) (.var 7))))), (.asg 8 (.call 18 [(.var 3), (.var 4)])), (.ite (.or (.cmp .ne (.var 8) (.var 6)) (.or (.cmp .eq (.bi .len [(.var 8)]) (.int 0)) (.cmp .ne (.var 8) (.bs .tuple (.itr .range2 [(.idx (.var 8) (.int 0)), (.bop .add (.idx (.var 8) (.int 0)) (.bi .len [(.var 8)]))]))))) [(.ret (.bl false))] []), (.forr (.v 9) (.itr .range1 [(.int 3)]) [(.asg 7 (.bop .add (.int 1) (.bop .mod (.bi .int [(.idx (.var 1) (.bop .add (.bop .add (.int 20) (.bop .mul (.int 3) (.var 2))) (.var 9)))]) (.bop .sub (.var 3) (.int 1))))), (.asg 10 (.call 23 [(.var 3), (.var 4), (.var 7)])), (.ite (.or (.notn (.call 10 [(.var 3), (.var 4), (.var 10)])) (.or (.cmp .ne (.cmp .eq (.call 12 [(.var 3), (.var 4), (.var 10)]) (.var 5)) (.cmp .mem (.var 7) (.var 8))) (.cmp .lt (.call 12 [(.var 3), (.var 4), (.var 10)]) (.var 5)))) [(.ret (.bl false))] [])]), (.ite (.or (.cmp .ne (.call 18 [(.var 3), (.int 1)]) (.tup [])) (.cmp .ne (.call 18 [(.int 1), (.var 4)]) (.tup []))) [(.ret (.bl false))] [])])] ++ [(.ret (.and (.cmp .eq (.call 18 [(.int 3), (.int 2)]) (.tup [(.int 1)])) (.and (.cmp .eq (.call 18 [(.int 2), (.int 5)]) (.tup [(.int 1)])) (.cmp .eq (.call 18 [(.int 4), (.int 2)]) (.tup [(.int 1), (.int 2)])))))])) [.dat (.list (ns.map .int)), .un, .un, .un, .un, .un, .un, .un, .un, .un, .un]) := (callF_at (P := PG) (fn := ⟨1, 11, bd25⟩) rfl rfl)
  rw [e] at f
  exact ⟨_, f⟩
end Lw
open PySem PySem.W PySem.Calls PyProof.Rows in
theorem PySem.Challenge.cw_fewplaces_k45_main_what_to_keep_next_holds : PySem.Challenge.rw_fewplaces_k45_main_what_to_keep_next.Holds := by
  w_on; o_law
  refine HandSHeadRun.head_imp (r := OpenLaw.row PySem.Challenge.rw_fewplaces_k45_main_what_to_keep_next) (q := Lw.qvT) (H := Lw.hkT) (ob := Lw.obT) (M := 20000) (loose := Lw.looT) (d := HandSHeadRun.topDef (OpenLaw.row PySem.Challenge.rw_fewplaces_k45_main_what_to_keep_next).prog 38) (kwd := []) Lw.obT_eq
    Lw.run_a (by kernel_rfl) (by kernel_rfl) (by kernel_rfl) (by rfl) (by first | assumption | decide +kernel) (by decide +kernel) ⟨rfl, rfl, rfl, rfl, rfl, by decide +kernel⟩ ?hw ?hc
  case hw => w_witness2
  case hc =>
    exact Lw.walk_text (l := PySem.Challenge.rw_fewplaces_k45_main_what_to_keep_next) (d := HandSHeadRun.topDef (OpenLaw.row PySem.Challenge.rw_fewplaces_k45_main_what_to_keep_next).prog 38) (fa := Lw.faT) (fn := Lw.dnT) (ex := Lw.exT) (nh := 5) (P := Lw.pgT Lw.wfT) (L := fun K => Lw.lawK (Lw.adT K)) (k := Lw.fuT) (f := 25) (r := ⟨Lw.st25, Lw.nm25, ["script"], ⟨1, 11, Lw.bd25⟩, false⟩) (ca := fun K => Lw.caT K) (fnm := Lw.fnmT) (nf := Lw.fldAll.length)
      Lw.injT rfl (by kernel_rfl) ⟨rfl, by decide, by decide⟩ (fun w K h mg X N c => Lw.all_of X N c) (by kernel_rfl) rfl rfl rfl rfl (fun K c => c.d.fact 18 rfl)
      (fun w K h mg X N c => by
        obtain ⟨fd, F⟩ := c.d.def_ 25 (d := Lw.ddOf ("law", none) "law" "law" Lw.st25) rfl
        exact Lw.rwOk_of (G := ⟨PySem.Challenge.rw_fewplaces_k45_main_what_to_keep_next.prog, w, K, Lw.caT K, Lw.fnmT, Lw.fldAll.length, Lw.injT⟩) (r := ⟨Lw.st25, Lw.nm25, ["script"], ⟨1, 11, Lw.bd25⟩, false⟩) (at_ := ("law", none)) F Lw.bn25 (by decide +kernel) fun C W X z w => Lw.so25 z w)
      (fun K c => c.d.def_ 25 (d := Lw.ddOf ("law", none) "law" "law" Lw.st25) rfl) Lw.bn25 Lw.law_ok

