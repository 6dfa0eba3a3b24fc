import PyProof.Rows.All
import Wide.All
import OpenK.AllK
import Wide.FinOn
import PySem.PyData
import PyProof.Lay0
import HandS.ForMost
import HandS.Walk
import HandS.Wide
import HandS.Deep
import HandS.TupAny
import HandS.TupMul
import HandS.Dict
import KE.DataCmp
import KE.DataMinMax
import KE.SortData
import HandS.Conv
import HandS.More
import HandS.TupLen
import HandS.IsInst
import KE.KTupSum
import HandS.Style
import HandS.Codes
import KE.GoesZip
import KE.GoesMore
import KE.GoesEnum
import HandS.Iter
import HandS.Comp
import KE.KAssignIn
import HandS.Words
import HandS.TupSets
import HandS.SetFor
import KE.KDictCopyH
import HandS.SortInts
import KE.KDictSum
import HandS.Strs
import KE.KDictDisplayH
import PySem.Challenge.RW_sumshall_k99_whole_letters_and_sums_of_l
set_option autoImplicit false
set_option linter.all false
/-! CLCore: values by value, an own small syntax, its evaluator. -/
namespace CL
open PySem (Str PyData)

/-- a value that stands still -/
inductive D where
  | non | bl (b : Bool) | int (i : Int) | str (s : Str)
  | tup (ds : List D) | lst (ds : List D) | dct (t : Bool) (kvs : List (D × D))
  | ins (c : Nat) (fs : List (Nat × D)) | fn (f : Nat) | kl (ds : List D)

/-- what a name may hold: a value, or a list, a dict, an object of one's own -/
inductive C where
  | val (d : D) | ol (ds : List D) | od (t : Bool) (kvs : List (D × D)) | oi (c : Nat) (fs : List (Nat × D))

def C.toD : C → D
  | .val d => d
  | .ol ds => .lst ds
  | .od t k => .dct t k
  | .oi c fs => .ins c fs

def C.ownB : C → Bool
  | .val _ => false
  | _ => true
abbrev St := List (Option C)
inductive Opd where
  | c (x : C) | loc (i : Nat)

def get : St → Nat → Option C
  | [], _ => none
  | x :: _, 0 => x
  | _ :: σ, n + 1 => get σ n
def put : St → Nat → Option C → St
  | [], _, _ => []
  | _ :: σ, 0, v => v :: σ
  | x :: σ, n + 1, v => x :: put σ n v

inductive Res (α : Type) where
  | ok (a : α) (σ : St) | exc (x : D) (σ : St) | no
def Res.bind {α β : Type} (r : Res α) (f : α → St → Res β) : Res β :=
  match r with
  | .ok a σ => f a σ
  | .exc x σ => .exc x σ
  | .no => .no
def Res.of {α : Type} (o : Option α) (σ : St) : Res α :=
  match o with
  | some a => .ok a σ
  | none => .no
def Res.of2 {α : Type} (o : Option (α × St)) : Res α :=
  match o with
  | some (a, σ) => .ok a σ
  | none => .no

/-! ### data -/
abbrev lim : Nat := 1000000
mutual
def okD : Nat → D → Bool
  | _, .non => true
  | _, .bl _ => true
  | _, .int _ => true
  | _, .str s => PySem.PyData.canLay0 (.str s)
  | 0, .tup _ => false
  | n + 1, .tup ds => okDs n ds
  | 0, .lst _ => false
  | n + 1, .lst ds => okDs n ds
  | _, .dct _ _ => false
  | _, .ins _ _ => false
  | _, .fn _ => false
  | _, .kl _ => false
def okDs : Nat → List D → Bool
  | _, [] => true
  | n, d :: ds => okD n d && okDs n ds
end
mutual
def eqb : D → D → Bool
  | .non, .non => true
  | .bl a, .bl b => a == b
  | .bl a, .int j => (if a then 1 else 0) == j
  | .int i, .bl b => i == (if b then 1 else 0)
  | .int i, .int j => i == j
  | .str x, .str y => x == y
  | .tup xs, .tup ys => eqbs xs ys
  | .lst xs, .lst ys => eqbs xs ys
  | _, _ => false
def eqbs : List D → List D → Bool
  | [], [] => true
  | x :: xs, y :: ys => eqb x y && eqbs xs ys
  | _, _ => false
end
mutual
/-- the two can be compared, place by place -/
def alikeb : D → D → Bool
  | .non, .non => true
  | .bl _, .bl _ => true
  | .int _, .int _ => true
  | .str _, .str _ => true
  | .tup xs, .tup ys => alikebs xs ys
  | .lst xs, .lst ys => alikebs xs ys
  | _, _ => false
def alikebs : List D → List D → Bool
  | x :: xs, y :: ys => alikeb x y && alikebs xs ys
  | _, _ => true
end
mutual
def ltb : D → D → Bool
  | .bl a, .bl b => !a && b
  | .int i, .int j => decide (i < j)
  | .str x, .str y => decide (x.cps.toList < y.cps.toList)
  | .tup xs, .tup ys => ltbs xs ys
  | .lst xs, .lst ys => ltbs xs ys
  | _, _ => false
def ltbs : List D → List D → Bool
  | [], [] => false
  | [], _ :: _ => true
  | _ :: _, [] => false
  | x :: xs, y :: ys => if eqb x y then ltbs xs ys else ltb x y
end
def depthOk : Nat := 8
/-- may be compared for equality -/
def cmpOk (x y : D) : Bool := okD 8 x && okD 8 y
def eqD (x y : D) : Option Bool := if cmpOk x y then some (eqb x y) else none
def notNon : D → Bool
  | .non => false
  | _ => true
def ltD (x y : D) : Option Bool := if cmpOk x y && alikeb x y && notNon x then some (ltb x y) else none
def isTupN : D → Bool
  | .tup (_ :: _) => true
  | _ => false
def isPlainK : D → Bool
  | .tup _ => false
  | .non => false
  | _ => true
/-- may be sorted: one kind, all rows with an item at least, or no rows -/
def sortOk (ds : List D) : Bool := okDs 8 ds && ds.all (fun a => ds.all (fun b => alikeb a b)) && (ds.all isTupN || ds.all isPlainK)
def leb (a b : D) : Bool := !ltb b a
def sortD (ds : List D) : Option (List D) := if sortOk ds then some (ds.mergeSort leb) else none
def isInt : D → Bool
  | .int _ => true
  | _ => false
def isInts : D → Bool
  | .tup ds => ds.all isInt
  | _ => false
/-- first ones of each -/
def dedup : List D → List D → List D
  | acc, [] => acc
  | acc, d :: ds => if acc.any (fun x => eqb x d) then dedup acc ds else dedup (acc ++ [d]) ds
/-- sorting by insertion -/
def insD (x : D) : List D → List D
  | [] => [x]
  | y :: ys => if ltb y x then y :: insD x ys else x :: y :: ys
def isortD : List D → List D
  | [] => []
  | x :: xs => insD x (isortD xs)
/-- a tuple of d ints, none below 0 -/
def tupOf (d : Nat) : D → Bool
  | .tup xs => xs.length == d && xs.all fun x => match x with
    | .int i => decide (0 ≤ i) && decide (i < 1000000)
    | _ => false
  | _ => false
def tupLen : List D → Nat
  | .tup xs :: _ => xs.length
  | _ => 1
/-- sorted(set(row)), the row's items tuples of ints of one length, few distinct -/
def ssetD (ds : List D) : Option (List D) := if decide (1 ≤ tupLen ds) && ds.all (tupOf (tupLen ds)) && decide ((dedup [] ds).length < 63) then some (isortD (dedup [] ds)) else none
/-- sorted: ints, or few tuples of ints of one length -/
def sortV (ds : List D) : Option (List D) := if ds.all isInt then some (isortD ds) else if decide (1 ≤ tupLen ds) && ds.all (tupOf (tupLen ds)) && decide (ds.length < 64) then some (isortD ds) else none
/-- sorted(set(row)), len(set(row)) of ints -/
def isetD (ds : List D) : Option (List D) := if ds.all isInt && decide ((dedup [] ds).length < 64) && decide (ds.length < 4000) then some (isortD (dedup [] ds)) else none
def lsetD (ds : List D) : Option Int := if ds.all isInt && decide (ds.length < 4000) then some ((dedup [] ds).length : Nat) else none
def ints? : List D → Option (List Int)
  | [] => some []
  | .int i :: ds => (ints? ds).map (i :: ·)
  | _ :: _ => none
def bls? : List D → Option (List Bool)
  | [] => some []
  | .bl b :: ds => (bls? ds).map (b :: ·)
  | _ :: _ => none
/-- rows one behind another -/
def rows? : List D → Option (List D)
  | [] => some []
  | .lst xs :: ds => (rows? ds).map (xs ++ ·)
  | _ :: _ => none
/-- no thing of the heap -/
def isPl : D → Bool
  | .int _ => true
  | .bl _ => true
  | .non => true
  | .str _ => true
  | _ => false
def seq? : D → Option (List D)
  | .tup ds => some ds
  | .lst ds => some ds
  | _ => none
/-- a place in a row of n, from either end -/
def ixN (n : Nat) (i : Int) : Option Nat := if 0 ≤ i then (if i < n then some i.toNat else none) else if -(n : Int) ≤ i then some (i + n).toNat else none
def atI (ds : List D) (i : Int) : Option D := (ixN ds.length i).bind fun j => ds[j]?
def cutI (n d : Nat) : Option Int → Nat
  | none => d
  | some v => if v < 0 then (v + (n : Int)).toNat else min v.toNat n
def cut (ds : List D) (lo hi : Option Int) : List D := (ds.drop (cutI ds.length 0 lo)).take (cutI ds.length ds.length hi - cutI ds.length 0 lo)

/-! ### dicts -/
def isKey : D → Bool
  | .int _ => true
  | .str _ => true
  | _ => false
def isKeys : D → Bool
  | .tup ds => ds.all isKey
  | _ => false
def dget : List (D × D) → D → Option D
  | [], _ => none
  | (k, v) :: r, j => if eqb k j then some v else dget r j
def dput (kvs : List (D × D)) (j v : D) : List (D × D) := if kvs.any (fun p => eqb p.1 j) then kvs.map (fun p => if eqb p.1 j then (p.1, v) else p) else kvs ++ [(j, v)]
/-- a key of this kind of dict: tuples (t), or ints and texts -/
def keyOk (t : Bool) (k : D) : Bool := if t then isKeys k else isKey k

/-! ### syntax -/
inductive Bop | add | sub | mul | fdiv | mod | pow | shl | band
  deriving DecidableEq
inductive Cop | eq | ne | lt | le | gt | ge | in_ | nin
  deriving DecidableEq
inductive Bi | len | abs | int | tuple | list | dict | all | any | sum | min1 | max1 | min2 | max2 | sorted | sset | iset | lset | sortd | sum2 | str | repr
  deriving DecidableEq
inductive Me | append | extend | pop0 | pop1 | get1 | get2 | count | index | join
  deriving DecidableEq
inductive Ty | int | bool | str | list | tuple | dict
  deriving DecidableEq

inductive E where
  | name (i : Nat) | int (i : Int) | bl (b : Bool) | non | str (s : Str)
  | glob (x : Nat) | fnv (f : Nat)
  | tup (es : List E) | lst (es : List E) | dic0 (t : Bool) | dic1 (t : Bool) (k v : E)
  | bin (op : Bop) (a b : E) | neg (a : E)
  | cmp (op : Cop) (a b : E) | chain (o1 o2 : Cop) (a b c : E)
  | isN (a : E) (not : Bool) | isB (a : E) (b : Bool) (not : Bool)
  | and_ (a b : E) | or_ (a b : E) | not_ (a : E) | ife (t a b : E)
  | call (f : Nat) (es : List E) | mk (c : Nat) (es : List E) | bi (f : Bi) (es : List E)
  | me (m : Me) (o : E) (es : List E)
  | attr (e : E) (f : Nat) | sub (e i : E) | slice (e : E) (lo hi : Option E) | rev (e : E)
  | lc (elt tgt it : E) (ifs : Option E)
  | isi (e : E) (tys : List Ty) | isc (e : E) (c : Nat)
  | rng (es : List E) | zip (es : List E) | enum (e : E) | it (e : E) | itd (i : Nat)
inductive S where
  | set (i : Nat) (e : E) | asg (t e : E) | par (is : List Nat) (es : List E) | aug (i : Nat) (op : Bop) (e : E) | augs (o i : E) (op : Bop) (e : E)
  | expr (e : E) | ret (e : E) | retN | ife (t : E) (a b : List S)
  | for_ (t it : E) (body : List S) | while_ (t : E) (body : List S)
  | brk | cont | pass | raise (c : Nat) (es : List E)

inductive FR where
  | ok (r : C) (io : Option C) | exc (x : D) (io : Option C) | no
structure Fun where
  ar : Nat
  io : Bool
  run : List C → FR
structure Ctx where
  fn : Nat → Option Fun
  cls : Nat → Option Fun
  cst : Nat → Option D
  fuel : Nat

/-! ### operations -/
def mulOk (i j : Int) : Bool := (decide (-(2 ^ 64) < i) && decide (i < 2 ^ 64)) || (decide (-(2 ^ 64) < j) && decide (j < 2 ^ 64))
def binD : Bop → D → D → Option C
  | .add, .int i, .int j => some (.val (.int (i + j)))
  | .add, .tup xs, .tup ys => if xs.length + ys.length ≤ lim then some (.val (.tup (xs ++ ys))) else none
  | .add, .lst xs, .lst ys => if xs.length + ys.length ≤ lim then some (.ol (xs ++ ys)) else none
  | .add, .str x, .str y => if x.length + y.length ≤ lim then some (.val (.str (x ++ y))) else none
  | .sub, .int i, .int j => some (.val (.int (i - j)))
  | .mul, .int i, .int j => if mulOk i j then some (.val (.int (i * j))) else none
  | .mul, .tup xs, .int j => if decide (1 ≤ j) && decide (j ≤ 1000) && decide (1 ≤ xs.length) && decide (xs.length ≤ 1000) then some (.val (.tup (List.replicate j.toNat xs).flatten)) else none
  | .mul, .lst xs, .int j => if 0 ≤ j && decide (j < lim) && decide (xs.length * j.toNat ≤ lim) then some (.ol (List.replicate j.toNat xs).flatten) else none
  | .fdiv, .int i, .int j => if decide (0 < j) && decide (j < 1073741824) then some (.val (.int (i / j))) else none
  | .mod, .int i, .int j => if 0 < j then some (.val (.int (i % j))) else none
  | .pow, .int i, .int j => if decide (0 ≤ j) && decide (j ≤ 1000000) && decide (i.natAbs < 2 ^ 64) then some (.val (.int (i ^ j.toNat))) else none
  | .shl, .int i, .int j => if decide (0 ≤ j) && decide (j ≤ 1000000) && decide (i.natAbs < 2 ^ 64) then some (.val (.int (i * 2 ^ j.toNat))) else none
  | _, _, _ => none
def inD (x : D) (ds : List D) : Option Bool := if okD 8 x && okDs 8 ds then some (ds.any fun z => eqb z x) else none
def cmpD : Cop → D → D → Option Bool
  | .eq, x, y => eqD x y
  | .ne, x, y => (eqD x y).map (!·)
  | .lt, x, y => ltD x y
  | .gt, x, y => ltD y x
  | .le, .int i, .int j => some (decide (i ≤ j))
  | .le, x, y => (ltD y x).map (!·)
  | .ge, .int i, .int j => some (decide (j ≤ i))
  | .ge, x, y => (ltD x y).map (!·)
  | .in_, x, .tup ds => inD x ds
  | .in_, x, .lst ds => inD x ds
  | .in_, x, .dct t kvs => if keyOk t x then some (dget kvs x).isSome else none
  | .nin, x, .tup ds => (inD x ds).map (!·)
  | .nin, x, .lst ds => (inD x ds).map (!·)
  | .nin, x, .dct t kvs => if keyOk t x then some (!(dget kvs x).isSome) else none
  | _, _, _ => none
def minG (lt : D → D → Bool) : List D → Option D
  | [] => none
  | x :: xs => some (xs.foldl (fun a y => if lt y a then y else a) x)
def absI (i : Int) : Int := if i < 0 then -i else i
def biD : Bi → List D → Option C
  | .len, [.tup ds] => some (.val (.int ds.length))
  | .len, [.lst ds] => some (.val (.int ds.length))
  | .len, [.dct _ kvs] => some (.val (.int kvs.length))
  | .len, [.str s] => if s.length ≤ lim then some (.val (.int s.length)) else none
  | .abs, [.int i] => some (.val (.int (absI i)))
  | .int, [.int i] => some (.val (.int i))
  | .int, [.bl b] => some (.val (.int (if b then 1 else 0)))
  | .tuple, [.tup ds] => some (.val (.tup ds))
  | .tuple, [.lst ds] => some (.val (.tup ds))
  | .list, [.tup ds] => some (.ol ds)
  | .list, [.lst ds] => some (.ol ds)
  | .list, [.dct _ kvs] => some (.ol (kvs.map (·.1)))
  | .dict, [.dct t kvs] => some (.od t kvs)
  | .all, [.lst ds] => (bls? ds).map fun bs => .val (.bl (bs.all id))
  | .any, [.lst ds] => (bls? ds).map fun bs => .val (.bl (bs.any id))
  | .sum, [.lst ds] => (ints? ds).map fun ns => .val (.int ns.sum)
  | .sum, [.tup ds] => (ints? ds).map fun ns => .val (.int ns.sum)
  | .min2, [.int i, .int j] => some (.val (.int (if j < i then j else i)))
  | .max2, [.int i, .int j] => some (.val (.int (if j > i then j else i)))
  | .min1, [.lst ds] => if okDs 8 ds && ds.all (fun a => ds.all (fun b => alikeb a b)) && ds.all notNon then (minG ltb ds).map .val else none
  | .max1, [.lst ds] => if okDs 8 ds && ds.all (fun a => ds.all (fun b => alikeb a b)) && ds.all notNon then (minG (fun a b => ltb b a) ds).map .val else none
  | .sorted, [.lst ds] => (sortV ds).map .ol
  | .sorted, [.dct _ kvs] => if kvs.length < 64 then (sortV (kvs.map (·.1))).map .ol else none
  | .sset, [.lst ds] => (ssetD ds).map .ol
  | .sset, [.tup ds] => (ssetD ds).map .ol
  | .iset, [.lst ds] => (isetD ds).map .ol
  | .iset, [.tup ds] => (isetD ds).map .ol
  | .lset, [.lst ds] => (lsetD ds).map fun n => .val (.int n)
  | .lset, [.tup ds] => (lsetD ds).map fun n => .val (.int n)
  | .sortd, [.lst ds] => (sortD ds).map .ol
  | .sum2, [.lst ds, .lst []] => (rows? ds).bind fun r => if r.length ≤ lim then some (.ol r) else none
  | _, _ => none
/-- methods that change nothing -/
def meD : Me → D → List D → Option C
  | .get1, .dct t kvs, [k] => if keyOk t k then some (.val ((dget kvs k).getD .non)) else none
  | .get2, .dct t kvs, [k, x] => if keyOk t k && isPl x then some (.val ((dget kvs k).getD x)) else none
  | .index, .lst ds, [x] => if okD 8 x && okDs 8 ds then (ds.findIdx? fun z => eqb z x).map fun j => .val (.int j) else none
  | .count, .lst ds, [.int i] => (ints? ds).map fun ns => .val (.int (ns.count i))
  | _, _, _ => none
def meTy : Me → D → Bool
  | .get1, .dct _ _ => true
  | .get2, .dct _ _ => true
  | .get1, _ => false
  | .get2, _ => false
  | .join, .str _ => true
  | .join, _ => false
  | _, .lst _ => true
  | _, _ => false
def isiD : D → Ty → Bool
  | .bl _, .bool => true
  | .bl _, .int => true
  | .int _, .int => true
  | .str _, .str => true
  | .tup _, .tuple => true
  | .lst _, .list => true
  | .dct _ _, .dict => true
  | _, _ => false

def isiOk : D → Bool
  | .kl _ => false
  | .ins _ _ => false
  | .fn _ => false
  | _ => true

/-! ### operands -/
def vw : Opd → St → Option D
  | .c x, _ => some x.toD
  | .loc i, σ => (get σ i).map C.toD
def frz : Opd → St → Option (D × St)
  | .c x, σ => some (x.toD, σ)
  | .loc i, σ => match get σ i with
    | some x => some (x.toD, put σ i (some (.val x.toD)))
    | none => none
def take : Opd → St → Option (C × St)
  | .c x, σ => some (x, σ)
  | .loc i, σ => match get σ i with
    | some x => some (x, put σ i none)
    | none => none
def vws : List Opd → St → Option (List D)
  | [], _ => some []
  | o :: os, σ => (vw o σ).bind fun d => (vws os σ).map (d :: ·)
def frzs : List Opd → St → Option (List D × St)
  | [], σ => some ([], σ)
  | o :: os, σ => (frz o σ).bind fun (d, σ1) => (frzs os σ1).map fun (ds, σ2) => (d :: ds, σ2)
def takes : List Opd → St → Option (List C × St)
  | [], σ => some ([], σ)
  | o :: os, σ => (take o σ).bind fun (x, σ1) => (takes os σ1).map fun (xs, σ2) => (x :: xs, σ2)
mutual
/-- a target of names -/
def bindT : E → D → St → Option St
  | .name i, d, σ => if i < σ.length then some (put σ i (some (.val d))) else none
  | .tup es, .tup ds, σ => bindTs es ds σ
  | _, _, _ => none
def bindTs : List E → List D → St → Option St
  | [], [], σ => some σ
  | e :: es, d :: ds, σ => (bindT e d σ).bind fun σ1 => bindTs es ds σ1
  | _, _, _ => none
end
mutual
def tnames : E → List Nat
  | .name i => [i]
  | .tup es => tnamess es
  | _ => []
def tnamess : List E → List Nat
  | [] => []
  | e :: es => tnames e ++ tnamess es
end
/-- names put out of sight -/
def hide : St → List Nat → St
  | σ, [] => σ
  | σ, i :: is => hide (put σ i none) is
/-- .. and back as they were in σ -/
def back (σ : St) : St → List Nat → St
  | τ, [] => τ
  | τ, i :: is => back σ (put τ i (get σ i)) is
/-- names whose lists are walked stand still -/
def still : St → List Nat → St
  | σ, [] => σ
  | σ, i :: is => still (put σ i ((get σ i).map fun x => .val x.toD)) is
def locsOf : List Opd → List Nat
  | [] => []
  | .loc i :: os => i :: locsOf os
  | _ :: os => locsOf os
def items : D → Option (List D)
  | .tup ds => some ds
  | .lst ds => some ds
  | _ => none
def zip2 : List D → List D → List D
  | x :: xs, y :: ys => .tup [x, y] :: zip2 xs ys
  | _, _ => []
def zip3 : List D → List D → List D → List D
  | x :: xs, y :: ys, z :: zs => .tup [x, y, z] :: zip3 xs ys zs
  | _, _, _ => []
def enumD : Nat → List D → List D
  | _, [] => []
  | n, x :: xs => .tup [.int n, x] :: enumD (n + 1) xs
def rangeD (lo : Int) (n : Nat) : List D := (List.range n).map fun (i : Nat) => .int (lo + (i : Nat))
/-- how many turns a range has -/
def rangeN (a b c : Int) : Nat := if 0 < c then ((b - a + c - 1) / c).toNat else ((a - b - c - 1) / (-c)).toNat
def rangeC (a c : Int) (n : Nat) : List D := (List.range n).map fun (i : Nat) => .int (a + (i : Nat) * c)
def big (i : Int) : Bool := decide (-(1000000 : Int) ≤ i) && decide (i ≤ 1000000)

/-- the turns of a comprehension -/
def lcGo (step : D → St → Res (Option D)) : List D → St → Res (List D)
  | [], σ => .ok [] σ
  | d :: ds, σ => (step d σ).bind fun o σ1 => (lcGo step ds σ1).bind fun xs σ2 =>
    match o with
    | some x => .ok (x :: xs) σ2
    | none => .ok xs σ2
def io1 (F : Fun) (os : List Opd) (σ : St) : Res Opd :=
  match os with
  | .loc i :: rest => match frzs rest σ with
    | some (ds, σ1) => match get σ1 i with
      | some x => if x.ownB then match F.run (x :: ds.map .val) with
        | .ok r (some y) => .ok (.c r) (put σ1 i (some y))
        | .exc e (some y) => .exc e (put σ1 i (some y))
        | _ => .no else .no
      | none => .no
    | none => .no
  | _ => .no
def call0 (F : Fun) (os : List Opd) (σ : St) : Res Opd :=
  match frzs os σ with
  | some (ds, σ1) => match F.run (ds.map .val) with
    | .ok r _ => .ok (.c r) σ1
    | .exc e _ => .exc e σ1
    | .no => .no
  | none => .no
def call1 (F : Fun) (os : List Opd) (σ : St) : Res Opd :=
  if os.length = F.ar then match F.io with
    | true => io1 F os σ
    | false => call0 F os σ
  else .no
def mk1 (F : Fun) (os : List Opd) (σ : St) : Res Opd := if os.length = F.ar then call0 F os σ else .no
def me1 (m : Me) (o : Opd) (os : List Opd) (σ : St) : Res Opd :=
  match m with
  | .append => match o, os with
    | .loc i, [a] => match frz a σ with
      | some (d, σ1) => match get σ1 i with
        | some (.ol ds) => if ds.length < lim then .ok (.c (.val .non)) (put σ1 i (some (.ol (ds ++ [d])))) else .no
        | _ => .no
      | none => .no
    | _, _ => .no
  | .extend => match o, os with
    | .loc i, [a] => match vw a σ with
      | some (.lst es) => match get σ i with
        | some (.ol ds) => if ds.length + es.length ≤ lim then .ok (.c (.val .non)) (put σ i (some (.ol (ds ++ es)))) else .no
        | _ => .no
      | _ => .no
    | _, _ => .no
  | .pop0 => match o, os with
    | .loc i, [] => match get σ i with
      | some (.ol ds) => match ds.getLast? with
        | some d => .ok (.c (.val d)) (put σ i (some (.ol ds.dropLast)))
        | none => .no
      | _ => .no
    | _, _ => .no
  | .pop1 => match o, os with
    | .loc i, [a] => match vw a σ with
      | some (.int k) => match get σ i with
        | some (.ol ds) => match (if big k then ixN ds.length k else none) with
          | some j => match ds[j]? with
            | some d => .ok (.c (.val d)) (put σ i (some (.ol (ds.eraseIdx j))))
            | none => .no
          | none => .no
        | _ => .no
      | _ => .no
    | _, _ => .no
  | m => match vw o σ, vws os σ with
    | some d, some ds => match meD m d ds with
      | some r => .ok (.c r) σ
      | none => .no
    | _, _ => .no
/-- o[i] = d -/
def setAt (σ : St) (i : Nat) (k d : D) : Option St :=
  match get σ i with
  | some (.ol ds) => match k with
    | .int n => (ixN ds.length n).map fun j => put σ i (some (.ol (ds.set j d)))
    | _ => none
  | some (.od t kvs) => if keyOk t k && decide (kvs.length < lim) then some (put σ i (some (.od t (dput kvs k d)))) else none
  | _ => none
def fget : List (Nat × D) → Nat → Option D
  | [], _ => none
  | (k, v) :: r, j => if k = j then some v else fget r j
def fput : List (Nat × D) → Nat → D → List (Nat × D)
  | [], j, v => [(j, v)]
  | (k, x) :: r, j, v => if k = j then (k, v) :: r else (k, x) :: fput r j v

mutual
def ev (Γ : Ctx) : E → St → Res Opd
  | .name i, σ => match get σ i with
    | some (.val d) => .ok (.c (.val d)) σ
    | some _ => .ok (.loc i) σ
    | none => .no
  | .int i, σ => .ok (.c (.val (.int i))) σ
  | .bl b, σ => .ok (.c (.val (.bl b))) σ
  | .non, σ => .ok (.c (.val .non)) σ
  | .str s, σ => .ok (.c (.val (.str s))) σ
  | .glob x, σ => Res.of ((Γ.cst x).map fun d => .c (.val d)) σ
  | .fnv f, σ => .ok (.c (.val (.fn f))) σ
  | .tup es, σ => (evs Γ es σ).bind fun os σ1 => match frzs os σ1 with
    | some (ds, σ2) => .ok (.c (.val (.tup ds))) σ2
    | none => .no
  | .lst es, σ => (evs Γ es σ).bind fun os σ1 => match frzs os σ1 with
    | some (ds, σ2) => .ok (.c (.ol ds)) σ2
    | none => .no
  | .dic0 t, σ => .ok (.c (.od t [])) σ
  | .dic1 t k v, σ => (ev Γ k σ).bind fun x σ1 => (ev Γ v σ1).bind fun y σ2 =>
    match vw x σ2, frz y σ2 with
    | some kd, some (d, σ3) => if keyOk t kd then .ok (.c (.od t [(kd, d)])) σ3 else .no
    | _, _ => .no
  | .bin op a b, σ => (ev Γ a σ).bind fun x σ1 => (ev Γ b σ1).bind fun y σ2 =>
    match vw x σ2, vw y σ2 with
    | some d, some e => Res.of ((binD op d e).map .c) σ2
    | _, _ => .no
  | .neg a, σ => (ev Γ a σ).bind fun x σ1 => match vw x σ1 with
    | some (.int i) => .ok (.c (.val (.int (-i)))) σ1
    | _ => .no
  | .cmp op a b, σ => (ev Γ a σ).bind fun x σ1 => (ev Γ b σ1).bind fun y σ2 =>
    match vw x σ2, vw y σ2 with
    | some d, some e => Res.of ((cmpD op d e).map fun b => .c (.val (.bl b))) σ2
    | _, _ => .no
  | .chain o1 o2 a b c, σ => (ev Γ a σ).bind fun x σ1 => (ev Γ b σ1).bind fun y σ2 =>
    match vw x σ2, vw y σ2 with
    | some d, some e => match cmpD o1 d e with
      | some true => (ev Γ c σ2).bind fun z σ3 => match vw y σ3, vw z σ3 with
        | some e, some f => Res.of ((cmpD o2 e f).map fun b => .c (.val (.bl b))) σ3
        | _, _ => .no
      | some false => .ok (.c (.val (.bl false))) σ2
      | none => .no
    | _, _ => .no
  | .isN a neg, σ => (ev Γ a σ).bind fun x σ1 => match vw x σ1 with
    | some .non => .ok (.c (.val (.bl (!neg)))) σ1
    | some _ => .ok (.c (.val (.bl neg))) σ1
    | none => .no
  | .isB a b neg, σ => (ev Γ a σ).bind fun x σ1 => match vw x σ1 with
    | some (.bl c) => .ok (.c (.val (.bl ((c == b) != neg)))) σ1
    | _ => .no
  | .and_ a b, σ => (ev Γ a σ).bind fun x σ1 => match vw x σ1 with
    | some (.bl true) => ev Γ b σ1
    | some (.bl false) => .ok (.c (.val (.bl false))) σ1
    | _ => .no
  | .or_ a b, σ => (ev Γ a σ).bind fun x σ1 => match vw x σ1 with
    | some (.bl true) => .ok (.c (.val (.bl true))) σ1
    | some (.bl false) => ev Γ b σ1
    | _ => .no
  | .not_ a, σ => (ev Γ a σ).bind fun x σ1 => match vw x σ1 with
    | some (.bl c) => .ok (.c (.val (.bl (!c)))) σ1
    | _ => .no
  | .ife t a b, σ => (ev Γ t σ).bind fun x σ1 => match vw x σ1 with
    | some (.bl true) => ev Γ a σ1
    | some (.bl false) => ev Γ b σ1
    | _ => .no
  | .call f es, σ => (evs Γ es σ).bind fun os σ1 => match Γ.fn f with
    | some F => call1 F os σ1
    | none => .no
  | .mk c es, σ => (evs Γ es σ).bind fun os σ1 => match Γ.cls c with
    | some run => mk1 run os σ1
    | none => .no
  | .bi f es, σ => (evs Γ es σ).bind fun os σ1 => match vws os σ1 with
    | some ds => Res.of ((biD f ds).map .c) σ1
    | none => .no
  | .me m o es, σ => (ev Γ o σ).bind fun x σ1 => match vw x σ1 with
    | some d => if meTy m d then (evs Γ es σ1).bind fun os σ2 => me1 m x os σ2 else .no
    | none => .no
  | .attr e f, σ => (ev Γ e σ).bind fun x σ1 => match vw x σ1 with
    | some (.ins _ fs) => Res.of ((fget fs f).map fun d => .c (.val d)) σ1
    | _ => .no
  | .sub e i, σ => (ev Γ e σ).bind fun x σ1 => (ev Γ i σ1).bind fun y σ2 =>
    match vw x σ2, vw y σ2 with
    | some (.tup ds), some (.int k) => Res.of ((atI ds k).map fun d => .c (.val d)) σ2
    | some (.lst ds), some (.int k) => Res.of ((atI ds k).map fun d => .c (.val d)) σ2
    | some (.dct t kvs), some k => if keyOk t k then Res.of ((dget kvs k).map fun d => .c (.val d)) σ2 else .no
    | _, _ => .no
  | .slice e lo hi, σ => (ev Γ e σ).bind fun x σ1 => (evo Γ lo σ1).bind fun l σ2 => (evo Γ hi σ2).bind fun h σ3 =>
    match vw x σ3 with
    | some (.tup ds) => .ok (.c (.val (.tup (cut ds l h)))) σ3
    | some (.lst ds) => .ok (.c (.ol (cut ds l h))) σ3
    | some (.kl ds) => .ok (.c (.ol (cut ds l h))) σ3
    | _ => .no
  | .rev e, σ => (ev Γ e σ).bind fun x σ1 => match vw x σ1 with
    | some (.lst ds) => .ok (.c (.ol ds.reverse)) σ1
    | _ => .no
  | .lc elt tgt it ifs, σ => (evI Γ it σ).bind fun (ds, locs) σ1 => if ds.length ≤ lim then
    (lcGo (fun d τ => match bindT tgt d (hide τ (tnames tgt)) with
      | some τ1 => (evc Γ ifs τ1).bind fun b τ2 => match b with
        | true => (ev Γ elt τ2).bind fun o τ3 => match frz o τ3 with
          | some (x, τ4) => .ok (some x) τ4
          | none => .no
        | false => .ok none τ2
      | none => .no) ds (hide σ1 (tnames tgt ++ locs))).bind fun xs σ2 => .ok (.c (.ol xs)) (back σ1 σ2 (tnames tgt ++ locs)) else .no
  | .isi e tys, σ => (ev Γ e σ).bind fun x σ1 => match vw x σ1 with
    | some d => if isiOk d then .ok (.c (.val (.bl (tys.any (isiD d))))) σ1 else .no
    | none => .no
  | .isc e c, σ => (ev Γ e σ).bind fun x σ1 => match vw x σ1 with
    | some (.ins k _) => .ok (.c (.val (.bl (k == c)))) σ1
    | some _ => .ok (.c (.val (.bl false))) σ1
    | none => .no
  | .rng _, _ => .no
  | .zip _, _ => .no
  | .enum _, _ => .no
  | .it _, _ => .no
  | .itd _, _ => .no
def evs (Γ : Ctx) : List E → St → Res (List Opd)
  | [], σ => .ok [] σ
  | e :: es, σ => (ev Γ e σ).bind fun o σ1 => (evs Γ es σ1).bind fun os σ2 => .ok (o :: os) σ2
/-- a part of a slice -/
def evo (Γ : Ctx) : Option E → St → Res (Option Int)
  | none, σ => .ok none σ
  | some e, σ => (ev Γ e σ).bind fun x σ1 => match vw x σ1 with
    | some (.int i) => .ok (some i) σ1
    | _ => .no
/-- a test -/
def evc (Γ : Ctx) : Option E → St → Res Bool
  | none, σ => .ok true σ
  | some e, σ => (ev Γ e σ).bind fun x σ1 => match vw x σ1 with
    | some (.bl b) => .ok b σ1
    | _ => .no
/-- what is walked: the items, and which names hold what is walked -/
def evI (Γ : Ctx) : E → St → Res (List D × List Nat)
  | .rng es, σ => (evs Γ es σ).bind fun os σ1 => match vws os σ1 with
    | some [.int n] => if big n then .ok (rangeD 0 n.toNat, []) σ1 else .no
    | some [.int a, .int b] => if big a && big b then .ok (rangeD a (b - a).toNat, []) σ1 else .no
    | some [.int a, .int b, .int c] => if big a && big b && big c && c != 0 then .ok (rangeC a c (rangeN a b c), []) σ1 else .no
    | _ => .no
  | .zip es, σ => (evs Γ es σ).bind fun os σ1 => match vws os σ1 with
    | some [a, b] => match seq? a, seq? b with
      | some xs, some ys => .ok (zip2 xs ys, locsOf os) σ1
      | _, _ => .no
    | some [a, b, c] => match seq? a, seq? b, seq? c with
      | some xs, some ys, some zs => .ok (zip3 xs ys zs, locsOf os) σ1
      | _, _, _ => .no
    | _ => .no
  | .enum e, σ => (ev Γ e σ).bind fun o σ1 => match vw o σ1 with
    | some a => match seq? a with
      | some xs => .ok (enumD 0 xs, locsOf [o]) σ1
      | none => .no
    | none => .no
  | .it e, σ => (ev Γ e σ).bind fun o σ1 => match vw o σ1 with
    | some a => Res.of ((items a).map fun ds => (ds, locsOf [o])) σ1
    | none => .no
  | .itd i, σ => match get σ i with
    | some x => match x.toD with
      | .dct _ kvs => .ok (kvs.map (·.1), []) (still σ [i])
      | _ => .no
    | none => .no
  | _, _ => .no
end

/-! ### statements -/
inductive Flow where
  | next | brk | cont | ret (x : C)
mutual
/-- o[i] = d, o.f = d, a name, a row of such -/
def asgD (Γ : Ctx) : E → D → St → Res Unit
  | .name i, d, σ => if i < σ.length then .ok () (put σ i (some (.val d))) else .no
  | .tup ts, d, σ => match d with
    | .tup ds => asgDs Γ ts ds σ
    | _ => .no
  | .sub (.name i) e, d, σ => match get σ i with
    | some _ => (ev Γ e σ).bind fun y σ1 => match vw y σ1 with
      | some k => match setAt σ1 i k d with
        | some σ2 => .ok () σ2
        | none => .no
      | none => .no
    | none => .no
  | .attr (.name i) f, d, σ => match get σ i with
    | some (.oi c fs) => if fs.length < 1000 then .ok () (put σ i (some (.oi c (fput fs f d)))) else .no
    | _ => .no
  | _, _, _ => .no
def asgDs (Γ : Ctx) : List E → List D → St → Res Unit
  | [], [], σ => .ok () σ
  | t :: ts, d :: ds, σ => (asgD Γ t d σ).bind fun _ σ1 => asgDs Γ ts ds σ1
  | _, _, _ => .no
end
/-- names one after another; an own thing never at the first name -/
def stores : List Nat → List C → St → Res Unit
  | [], [], σ => .ok () σ
  | i :: is, x :: xs, σ => if i < σ.length && (i != 0 || !x.ownB) then stores is xs (put σ i (some x)) else .no
  | _, _, _ => .no
/-- the turns of a for -/
def forGo (t : E) (body : St → Res Flow) : List D → St → Res Flow
  | [], σ => .ok .next σ
  | d :: ds, σ => match bindT t d σ with
    | some σ1 => (body σ1).bind fun f σ2 => match f with
      | .next => forGo t body ds σ2
      | .cont => forGo t body ds σ2
      | .brk => .ok .next σ2
      | .ret x => .ok (.ret x) σ2
    | none => .no
def whGo (test : St → Res Bool) (body : St → Res Flow) : Nat → St → Res Flow
  | 0, _ => .no
  | n + 1, σ => (test σ).bind fun b σ1 => match b with
    | false => .ok .next σ1
    | true => (body σ1).bind fun f σ2 => match f with
      | .next => whGo test body n σ2
      | .cont => whGo test body n σ2
      | .brk => .ok .next σ2
      | .ret x => .ok (.ret x) σ2
def augD (op : Bop) (x y : D) : Option C :=
  match op, x, y with
  | .add, .int i, .int j => some (.val (.int (i + j)))
  | .sub, .int i, .int j => some (.val (.int (i - j)))
  | .mul, .int i, .int j => if mulOk i j then some (.val (.int (i * j))) else none
  | _, _, _ => none
mutual
def ex (Γ : Ctx) : S → St → Res Flow
  | .set i e, σ => (ev Γ e σ).bind fun o σ1 => match take o σ1 with
    | some (x, σ2) => (stores [i] [x] σ2).bind fun _ σ3 => .ok .next σ3
    | none => .no
  | .asg t e, σ => (ev Γ e σ).bind fun o σ1 => match frz o σ1 with
    | some (d, σ2) => (asgD Γ t d σ2).bind fun _ σ3 => .ok .next σ3
    | none => .no
  | .par is es, σ => (evs Γ es σ).bind fun os σ1 => match takes os σ1 with
    | some (xs, σ2) => (stores is xs σ2).bind fun _ σ3 => .ok .next σ3
    | none => .no
  | .aug i op e, σ => match get σ i with
    | some (.val d) => (ev Γ e σ).bind fun y σ1 => match vw y σ1 with
      | some k => match augD op d k with
        | some x => .ok .next (put σ1 i (some x))
        | none => .no
      | none => .no
    | _ => .no
  | .augs (.name i) e op v, σ => (ev Γ e σ).bind fun y σ1 => match vw y σ1 with
    | some k => match get σ1 i with
      | some (.od t kvs) => if keyOk t k then match dget kvs k with
          | some d => (ev Γ v σ1).bind fun z σ2 => match vw z σ2 with
            | some w => match augD op d w with
              | some x => match setAt σ2 i k x.toD with
                | some σ3 => .ok .next σ3
                | none => .no
              | none => .no
            | none => .no
          | none => .no
        else .no
      | some (.ol ds) => match k with
        | .int n => match atI ds n with
          | some d => (ev Γ v σ1).bind fun z σ2 => match vw z σ2 with
            | some w => match augD op d w with
              | some x => match setAt σ2 i k x.toD with
                | some σ3 => .ok .next σ3
                | none => .no
              | none => .no
            | none => .no
          | none => .no
        | _ => .no
      | _ => .no
    | none => .no
  | .augs _ _ _ _, _ => .no
  | .expr e, σ => (ev Γ e σ).bind fun _ σ1 => .ok .next σ1
  | .ret e, σ => (ev Γ e σ).bind fun o σ1 => match take o σ1 with
    | some (x, σ2) => .ok (.ret x) σ2
    | none => .no
  | .retN, σ => .ok (.ret (.val .non)) σ
  | .ife t a b, σ => (evc Γ (some t) σ).bind fun c σ1 => match c with
    | true => exs Γ a σ1
    | false => exs Γ b σ1
  | .for_ t it body, σ => (evI Γ it σ).bind fun (ds, locs) σ1 => forGo t (exs Γ body) ds (still σ1 locs)
  | .while_ t body, σ => whGo (evc Γ (some t)) (exs Γ body) Γ.fuel σ
  | .brk, σ => .ok .brk σ
  | .cont, σ => .ok .cont σ
  | .pass, σ => .ok .next σ
  | .raise _ _, _ => .no
def exs (Γ : Ctx) : List S → St → Res Flow
  | [], σ => .ok .next σ
  | s :: ss, σ => (ex Γ s σ).bind fun f σ1 => match f with
    | .next => exs Γ ss σ1
    | f => .ok f σ1
end
/-- a def's body at its arguments, n names in all -/
def start (n : Nat) (xs : List C) : St := xs.map some ++ List.replicate (n - xs.length) none
def endF (io : Bool) : Res Flow → FR
  | .ok (.ret x) σ => match io with
    | true => match get σ 0 with
      | some y => if y.ownB then .ok x (some y) else .no
      | none => .no
    | false => .ok x none
  | .ok .next σ => match io with
    | true => match get σ 0 with
      | some y => if y.ownB then .ok (.val .non) (some y) else .no
      | none => .no
    | false => .ok (.val .non) none
  | _ => .no
def mkFun (F : Fun) (c : Nat) : Fun where
  ar := F.ar - 1
  io := false
  run := fun xs => match F.run (.oi c [] :: xs) with
    | .ok (.val .non) (some y) => .ok y none
    | _ => .no
def runF (Γ : Ctx) (io : Bool) (n : Nat) (body : List S) (xs : List C) : FR := endF io (exs Γ body (start n xs))
end CL

set_option autoImplicit false
set_option linter.all false
set_option Elab.async false
set_option maxRecDepth 100000
/-! CLRun: how the evaluator runs, in plain Lean. -/
namespace CL.Pl
theorem g_ext : ∀ {σ τ : St}, σ.length = τ.length → (∀ i, get σ i = get τ i) → σ = τ
  | [], [], _, _ => rfl
  | x :: σ, y :: τ, hl, h => by
    have h0 : x = y := h 0
    rw [h0, g_ext (σ := σ) (τ := τ) (Nat.succ.inj hl) fun i => h (i + 1)]
theorem p_len : ∀ (τ : St) (i : Nat) (x : Option C), (put τ i x).length = τ.length
  | [], _, _ => rfl
  | _ :: _, 0, _ => rfl
  | _ :: τ, i + 1, x => congrArg (· + 1) (p_len τ i x)
theorem gp_same : ∀ {τ : St} {i : Nat} {x : Option C}, i < τ.length → get (put τ i x) i = x
  | [], _, _, h => by simp at h
  | _ :: _, 0, _, _ => rfl
  | _ :: τ, i + 1, x, h => gp_same (τ := τ) (i := i) (x := x) (Nat.lt_of_succ_lt_succ h)
theorem gp_ne : ∀ {τ : St} {i j : Nat} {x : Option C}, j ≠ i → get (put τ i x) j = get τ j
  | [], _, _, _, _ => rfl
  | _ :: _, 0, 0, _, h => absurd rfl h
  | _ :: _, 0, _ + 1, _, _ => rfl
  | _ :: _, _ + 1, 0, _, _ => rfl
  | _ :: τ, i + 1, j + 1, x, h => gp_ne (τ := τ) (i := i) (j := j) (x := x) fun e => h (congrArg (· + 1) e)
theorem g_out : ∀ {τ : St} {i : Nat}, τ.length ≤ i → get τ i = none
  | [], _, _ => rfl
  | _ :: _, 0, h => absurd h (by simp)
  | _ :: τ, i + 1, h => g_out (τ := τ) (i := i) (Nat.le_of_succ_le_succ h)
theorem gp_none {τ : St} {i : Nat} : get (put τ i none) i = none := by
  by_cases h : i < τ.length
  · exact gp_same h
  · exact g_out (by rw [p_len]; omega)
theorem h_len : ∀ (ns : List Nat) (τ : St), (hide τ ns).length = τ.length
  | [], τ => rfl
  | i :: ns, τ => by rw [hide, h_len ns, p_len]
theorem h_out : ∀ (ns : List Nat) {τ : St} {j : Nat}, j ∉ ns → get (hide τ ns) j = get τ j
  | [], τ, j, _ => rfl
  | i :: ns, τ, j, h => by
    rw [hide, h_out ns (fun m => h (List.mem_cons_of_mem _ m)), gp_ne fun e => h (by rw [e]; exact List.mem_cons_self)]
theorem bo_in : ∀ (ns : List Nat) {σ τ : St} {j : Nat}, σ.length = τ.length → (j ∈ ns ∨ get τ j = get σ j) → get (back σ τ ns) j = get σ j
  | [], σ, τ, j, _, h => by
    rcases h with h | h
    · cases h
    · exact h
  | i :: ns, σ, τ, j, hl, h => by
    rw [back]
    refine bo_in ns (by rw [p_len]; exact hl) ?_
    by_cases hj : j ∈ ns
    · exact .inl hj
    · refine .inr ?_
      by_cases e : j = i
      · subst e
        by_cases hlt : j < τ.length
        · rw [gp_same hlt]
        · rw [g_out (by rw [p_len]; omega), g_out (by omega)]
      · rw [gp_ne e]
        rcases h with h | h
        · rcases List.mem_cons.mp h with h | h
          · exact absurd h e
          · exact absurd h hj
        · exact h
theorem bo_len : ∀ (ns : List Nat) {σ τ : St}, (back σ τ ns).length = τ.length
  | [], σ, τ => rfl
  | i :: ns, σ, τ => by rw [back, bo_len ns, p_len]
/-- what was hidden comes back -/
theorem back_eq {σ τ : St} {ns ms : List Nat} (h : hide τ ms = hide σ ns) (hm : ∀ m ∈ ms, m ∈ ns) : back σ τ ns = σ := by
  have hl : τ.length = σ.length := by
    have := congrArg List.length h
    rw [h_len, h_len] at this
    exact this
  refine g_ext (by rw [bo_len, hl]) fun j => bo_in ns hl.symm ?_
  by_cases hj : j ∈ ns
  · exact .inl hj
  · refine .inr ?_
    have this : get (hide τ ms) j = get (hide σ ns) j := by rw [h]
    rw [h_out ns hj, h_out ms fun m => hj (hm j m)] at this
    exact this
theorem hide_put : ∀ (ns : List Nat) (τ : St) (i : Nat) (x : Option C), i ∈ ns → hide (put τ i x) ns = hide τ ns := by
  have pp : ∀ (τ : St) (i : Nat) (x y : Option C), put (put τ i x) i y = put τ i y := fun τ i x y => by
    refine g_ext (by rw [p_len, p_len, p_len]) fun j => ?_
    by_cases e : j = i
    · subst e
      by_cases hlt : j < τ.length
      · rw [gp_same (by rw [p_len]; exact hlt), gp_same hlt]
      · rw [g_out (by rw [p_len, p_len]; omega), g_out (by rw [p_len]; omega)]
    · rw [gp_ne e, gp_ne e, gp_ne e]
  have pc : ∀ (τ : St) (i j : Nat) (x y : Option C), i ≠ j → put (put τ i x) j y = put (put τ j y) i x := fun τ i j x y ne => by
    refine g_ext (by rw [p_len, p_len, p_len, p_len]) fun k => ?_
    by_cases e : k = i
    · subst e
      by_cases hlt : k < τ.length
      · rw [gp_ne ne, gp_same hlt, gp_same (by rw [p_len]; exact hlt)]
      · rw [g_out (by rw [p_len, p_len]; omega), g_out (by rw [p_len, p_len]; omega)]
    · by_cases e2 : k = j
      · subst e2
        by_cases hlt : k < τ.length
        · rw [gp_same (by rw [p_len]; exact hlt), gp_ne e, gp_same hlt]
        · rw [g_out (by rw [p_len, p_len]; omega), g_out (by rw [p_len, p_len]; omega)]
      · rw [gp_ne e2, gp_ne e, gp_ne e, gp_ne e2]
  intro ns
  induction ns with
  | nil => intro τ i x h; cases h
  | cons n ns ih =>
    intro τ i x h
    rw [hide, hide]
    by_cases e : i = n
    · subst e
      rw [pp]
    · have hi : i ∈ ns := by
        rcases List.mem_cons.mp h with h | h
        · exact absurd h e
        · exact h
      rw [pc τ i n x none e, ih _ _ _ hi]
/-- a turn of a comprehension -/
def turn (Γ : Ctx) (elt tgt : E) (ifs : Option E) (d : D) (τ0 : St) : Res (Option D) := match bindT tgt d τ0 with
  | some τ1 => (evc Γ ifs τ1).bind fun b τ2 => match b with
    | true => (ev Γ elt τ2).bind fun o τ3 => match frz o τ3 with
      | some (x, τ4) => .ok (some x) τ4
      | none => .no
    | false => .ok none τ2
  | none => .no
theorem lcGo_ok {step : D → St → Res (Option D)} {tn : List Nat} {τ0 : St} {g : D → Option D} : ∀ {ds : List D} {τ : St}, hide τ tn = τ0 → (∀ d ∈ ds, ∀ τ, hide τ tn = τ0 → ∃ τ', step d τ = .ok (g d) τ' ∧ hide τ' tn = τ0) → ∃ τ', lcGo step ds τ = .ok (ds.filterMap g) τ' ∧ hide τ' tn = τ0
  | [], τ, h0, _ => ⟨τ, by rw [lcGo]; rfl, h0⟩
  | d :: ds, τ, h0, h => by
    obtain ⟨τ1, e1, h1⟩ := h d List.mem_cons_self τ h0
    obtain ⟨τ2, e2, h2⟩ := lcGo_ok (ds := ds) h1 fun d m => h d (List.mem_cons_of_mem _ m)
    refine ⟨τ2, ?_, h2⟩
    rw [lcGo, e1]
    show (lcGo step ds τ1).bind _ = _
    rw [e2, List.filterMap_cons]
    cases g d <;> rfl
theorem hide_self : ∀ (ns : List Nat) (τ : St), (∀ n ∈ ns, get τ n = none) → hide τ ns = τ := by
  have pn : ∀ (τ : St) (i : Nat), get τ i = none → put τ i none = τ := fun τ i h => by
    refine g_ext (p_len _ _ _) fun j => ?_
    by_cases e : j = i
    · subst e; rw [gp_none, h]
    · rw [gp_ne e]
  intro ns
  induction ns with
  | nil => intro τ _; rfl
  | cons n ns ih =>
    intro τ h
    rw [hide, pn τ n (h n List.mem_cons_self)]
    exact ih τ fun m hm => h m (List.mem_cons_of_mem _ hm)
theorem h_in : ∀ (ns : List Nat) {τ : St} {j : Nat}, j ∈ ns → get (hide τ ns) j = none
  | i :: ns, τ, j, h => by
    rw [hide]
    by_cases hj : j ∈ ns
    · exact h_in ns hj
    · rw [h_out ns hj]
      rcases List.mem_cons.mp h with e | h
      · rw [e]; exact gp_none
      · exact absurd h hj
theorem ev_lc {Γ : Ctx} {elt tgt it : E} {ifs : Option E} {σ σ1 : St} {ds : List D} {locs : List Nat} (g : D → Option D) (hI : evI Γ it σ = .ok (ds, locs) σ1) (hl : ds.length ≤ lim)
    (h : ∀ d ∈ ds, ∃ τ', turn Γ elt tgt ifs d (hide σ1 (tnames tgt ++ locs)) = .ok (g d) τ' ∧ hide τ' (tnames tgt) = hide σ1 (tnames tgt ++ locs)) : ev Γ (.lc elt tgt it ifs) σ = .ok (.c (.ol (ds.filterMap g))) σ1 := by
  rw [ev, hI]
  show (if ds.length ≤ lim then _ else _) = _
  rw [if_pos hl]
  have hs : hide (hide σ1 (tnames tgt ++ locs)) (tnames tgt) = hide σ1 (tnames tgt ++ locs) := hide_self _ _ fun n m => h_in _ (List.mem_append_left _ m)
  obtain ⟨τ', e, h2⟩ := lcGo_ok (step := fun d τ => turn Γ elt tgt ifs d (hide τ (tnames tgt))) (tn := tnames tgt) (τ0 := hide σ1 (tnames tgt ++ locs)) (g := g) (ds := ds) hs fun d m τ hτ => by
    rw [hτ]
    exact h d m
  show (lcGo (fun d τ => turn Γ elt tgt ifs d (hide τ (tnames tgt))) ds (hide σ1 (tnames tgt ++ locs))).bind _ = _
  rw [e]
  show Res.ok (Opd.c (C.ol (ds.filterMap g))) (back σ1 τ' (tnames tgt ++ locs)) = _
  rw [back_eq h2 fun m hm => List.mem_append_left _ hm]
theorem for_ok {t : E} {body : St → Res Flow} : ∀ {ds : List D} {σ : St} (P : Nat → St → Prop) (k : Nat), P k σ → (∀ i d σ, ds[i]? = some d → P (k + i) σ → ∃ σ1 σ2, bindT t d σ = some σ1 ∧ body σ1 = .ok .next σ2 ∧ P (k + i + 1) σ2) →
    ∃ σ', forGo t body ds σ = .ok .next σ' ∧ P (k + ds.length) σ'
  | [], σ, P, k, h0, _ => ⟨σ, rfl, h0⟩
  | d :: ds, σ, P, k, h0, h => by
    obtain ⟨σ1, σ2, e1, e2, h2⟩ := h 0 d σ rfl h0
    obtain ⟨σ', e3, h3⟩ := for_ok (ds := ds) (σ := σ2) P (k + 1) h2 fun i d σ hd hp => by
      have := h (i + 1) d σ (by simpa using hd)
      rw [show k + (i + 1) = k + 1 + i by omega] at this
      exact this hp
    refine ⟨σ', ?_, by rw [List.length_cons, show k + (ds.length + 1) = k + 1 + ds.length by omega]; exact h3⟩
    rw [forGo, e1]
    simp only
    rw [e2]
    exact e3
theorem for_find {t : E} {body : St → Res Flow} {P : St → Prop} {p : D → Bool} {f : D → C} : ∀ {ds : List D} {σ : St}, P σ → (∀ d ∈ ds, ∀ σ, P σ → ∃ σ1 σ2, bindT t d σ = some σ1 ∧ ((p d = true ∧ body σ1 = .ok (.ret (f d)) σ2) ∨ (p d = false ∧ body σ1 = .ok .next σ2 ∧ P σ2))) →
    ∃ σ', (match ds.find? p with
      | some d => forGo t body ds σ = .ok (.ret (f d)) σ'
      | none => forGo t body ds σ = .ok .next σ' ∧ P σ')
  | [], σ, h0, _ => ⟨σ, rfl, h0⟩
  | d :: ds, σ, h0, h => by
    obtain ⟨σ1, σ2, e1, ⟨hp, e2⟩ | ⟨hp, e2, h2⟩⟩ := h d List.mem_cons_self σ h0
    · refine ⟨σ2, ?_⟩
      rw [List.find?_cons, hp]
      show forGo t body (d :: ds) σ = _
      rw [forGo, e1]
      simp only
      rw [e2]
      rfl
    · obtain ⟨σ', e3⟩ := for_find (ds := ds) (σ := σ2) h2 fun d m => h d (List.mem_cons_of_mem _ m)
      refine ⟨σ', ?_⟩
      have e : forGo t body (d :: ds) σ = forGo t body ds σ2 := by
        rw [forGo, e1]
        simp only
        rw [e2]
        rfl
      rw [List.find?_cons, hp, e]
      exact e3
theorem wh_ok {test : St → Res Bool} {body : St → Res Flow} (P : Nat → St → Prop) (R : St → Prop) (h : ∀ m σ, P m σ → (test σ = .ok false σ ∧ R σ) ∨ (test σ = .ok true σ ∧ ∃ σ2 m', body σ = .ok .next σ2 ∧ m' < m ∧ P m' σ2)) : ∀ (n m : Nat) (σ : St), m < n → P m σ → ∃ σ', whGo test body n σ = .ok .next σ' ∧ R σ'
  | 0, m, σ, hm, _ => absurd hm (Nat.not_lt_zero m)
  | n + 1, m, σ, hm, hp => by
    rcases h m σ hp with ⟨e1, r⟩ | ⟨e1, σ2, m', e2, hlt, hp2⟩
    · refine ⟨σ, ?_, r⟩
      rw [whGo, e1]
      rfl
    · obtain ⟨σ', e3, r⟩ := wh_ok P R h n m' σ2 (by omega) hp2
      refine ⟨σ', ?_, r⟩
      rw [whGo, e1]
      show (body σ).bind _ = _
      rw [e2]
      exact e3
end CL.Pl
namespace CL.Pl
theorem exs_next {Γ : Ctx} {s : S} {ss : List S} {σ σ1 : St} (h : ex Γ s σ = .ok .next σ1) : exs Γ (s :: ss) σ = exs Γ ss σ1 := by
  rw [exs, h]; rfl
theorem exs_ret {Γ : Ctx} {s : S} {ss : List S} {σ σ1 : St} {x : C} (h : ex Γ s σ = .ok (.ret x) σ1) : exs Γ (s :: ss) σ = .ok (.ret x) σ1 := by
  rw [exs, h]; rfl
theorem ex_for {Γ : Ctx} {t it : E} {body : List S} {σ σ1 : St} {ds : List D} {locs : List Nat} (h : evI Γ it σ = .ok (ds, locs) σ1) : ex Γ (.for_ t it body) σ = forGo t (exs Γ body) ds (still σ1 locs) := by
  rw [ex, h]; rfl
theorem ex_ife {Γ : Ctx} {t : E} {a b : List S} {σ σ1 : St} {k : Bool} (h : evc Γ (some t) σ = .ok k σ1) : ex Γ (.ife t a b) σ = if k = true then exs Γ a σ1 else exs Γ b σ1 := by
  rw [ex, h]; cases k <;> rfl
/-- a test that is false: nothing -/
theorem ex_no {Γ : Ctx} {t : E} {a : List S} {σ σ1 : St} (h : evc Γ (some t) σ = .ok false σ1) : ex Γ (.ife t a []) σ = .ok .next σ1 := by
  rw [ex_ife h]; simp [exs]
theorem ex_yes {Γ : Ctx} {t : E} {a b : List S} {σ σ1 : St} (h : evc Γ (some t) σ = .ok true σ1) : ex Γ (.ife t a b) σ = exs Γ a σ1 := by
  rw [ex_ife h]; rfl
theorem ex_set {Γ : Ctx} {i : Nat} {e : E} {σ σ1 σ2 : St} {o : Opd} {x : C} (h : ev Γ e σ = .ok o σ1) (ht : take o σ1 = some (x, σ2)) (hi : i < σ2.length) (h0 : i ≠ 0 ∨ x.ownB = false) : ex Γ (.set i e) σ = .ok .next (put σ2 i (some x)) := by
  rw [ex, h]
  show (match take o σ1 with
    | some (x, σ2) => (stores [i] [x] σ2).bind fun _ σ3 => Res.ok Flow.next σ3
    | none => .no) = _
  rw [ht]
  simp only [stores]
  rw [if_pos (by
    rw [Bool.and_eq_true, decide_eq_true_eq, Bool.or_eq_true, bne_iff_ne, Bool.not_eq_true']
    exact ⟨hi, h0⟩)]
  rfl
/-- a call of a def with values -/
theorem ev_call {Γ : Ctx} {f : Nat} {es : List E} {F : Fun} {σ σ1 σ2 : St} {os : List Opd} {ds : List D} {r : C} {y : Option C} (h : evs Γ es σ = .ok os σ1) (hf : Γ.fn f = some F) (hl : os.length = F.ar) (hio : F.io = false) (hz : frzs os σ1 = some (ds, σ2)) (hr : F.run (ds.map .val) = .ok r y) :
    ev Γ (.call f es) σ = .ok (.c r) σ2 := by
  rw [ev, h]
  show (match Γ.fn f with
    | some F => call1 F os σ1
    | none => .no) = _
  rw [hf]
  simp only [call1]
  rw [if_pos hl, hio]
  simp only [call0]
  rw [hz]
  simp only
  rw [hr]
end CL.Pl
namespace CL.Pl
section
variable {Γ : Ctx} {io : Bool} {ss : List S} {σ σ1 : St} {r : FR}
/-! whole defs, a statement at a time -/
theorem q_next {s : S} (h : ex Γ s σ = .ok .next σ1) (k : endF io (exs Γ ss σ1) = r) : endF io (exs Γ (s :: ss) σ) = r := by rw [exs_next h]; exact k
theorem q_ret {e : E} {o : Opd} {x : C} {σ2 : St} (h : ev Γ e σ = .ok o σ1) (ht : take o σ1 = some (x, σ2)) (k : endF io (.ok (.ret x) σ2) = r) : endF io (exs Γ (.ret e :: ss) σ) = r := by
  have : ex Γ (.ret e) σ = .ok (.ret x) σ2 := by
    rw [ex, h]
    show (match take o σ1 with
      | some (x, σ2) => Res.ok (Flow.ret x) σ2
      | none => .no) = _
    rw [ht]
  rw [exs_ret this]; exact k
theorem q_no {t : E} {a : List S} (h : evc Γ (some t) σ = .ok false σ1) (k : endF io (exs Γ ss σ1) = r) : endF io (exs Γ (.ife t a [] :: ss) σ) = r := q_next (ex_no h) k
theorem q_set {i : Nat} {e : E} {o : Opd} {x : C} {σ2 : St} (h : ev Γ e σ = .ok o σ1) (ht : take o σ1 = some (x, σ2)) (hi : i < σ2.length) (h0 : i ≠ 0 ∨ x.ownB = false) (k : endF io (exs Γ ss (put σ2 i (some x))) = r) : endF io (exs Γ (.set i e :: ss) σ) = r := q_next (ex_set h ht hi h0) k
theorem q_for {t it : E} {body : List S} {ds : List D} {locs : List Nat} (P : Nat → St → Prop) (hI : evI Γ it σ = .ok (ds, locs) σ1) (h0 : P 0 (still σ1 locs)) (h : ∀ i d σ, ds[i]? = some d → P i σ → ∃ σ1 σ2, bindT t d σ = some σ1 ∧ exs Γ body σ1 = .ok .next σ2 ∧ P (i + 1) σ2)
    (k : ∀ σ', P ds.length σ' → endF io (exs Γ ss σ') = r) : endF io (exs Γ (.for_ t it body :: ss) σ) = r := by
  obtain ⟨σ', e, hp⟩ := for_ok (t := t) (body := exs Γ body) P 0 h0 fun i d σ hd hp => by rw [Nat.zero_add] at hp ⊢; exact h i d σ hd hp
  rw [Nat.zero_add] at hp
  exact q_next (by rw [ex_for hI]; exact e) (k σ' hp)
theorem q_find {t it : E} {body : List S} {ds : List D} {locs : List Nat} (P : St → Prop) (p : D → Bool) (f : D → C) (hI : evI Γ it σ = .ok (ds, locs) σ1) (h0 : P (still σ1 locs)) (h : ∀ d ∈ ds, ∀ σ, P σ → ∃ σ1 σ2, bindT t d σ = some σ1 ∧ ((p d = true ∧ exs Γ body σ1 = .ok (.ret (f d)) σ2) ∨ (p d = false ∧ exs Γ body σ1 = .ok .next σ2 ∧ P σ2)))
    (k1 : ∀ d, ds.find? p = some d → ∀ σ', endF io (.ok (.ret (f d)) σ') = r) (k2 : ds.find? p = none → ∀ σ', P σ' → endF io (exs Γ ss σ') = r) : endF io (exs Γ (.for_ t it body :: ss) σ) = r := by
  obtain ⟨σ', e⟩ := for_find (t := t) (body := exs Γ body) (p := p) (f := f) h0 h
  cases hf : ds.find? p with
  | some d =>
    rw [hf] at e
    rw [exs_ret (by rw [ex_for hI]; exact e)]
    exact k1 d hf σ'
  | none =>
    rw [hf] at e
    exact q_next (by rw [ex_for hI]; exact e.1) (k2 hf σ' e.2)
end
end CL.Pl
namespace CL.Pl
section
variable {Γ : Ctx} {σ σ1 σ2 σ3 : St} {e a b c : E} {o x y z : Opd} {d d1 d2 : D} {k : Bool}
theorem evs_1 (h : ev Γ e σ = .ok o σ1) : evs Γ [e] σ = .ok [o] σ1 := by
  rw [evs, h]
  show ((evs Γ [] σ1).bind fun os σ2 => Res.ok (o :: os) σ2) = _
  rw [evs]; rfl
theorem evs_c {es : List E} {os : List Opd} (h : ev Γ e σ = .ok o σ1) (h2 : evs Γ es σ1 = .ok os σ2) : evs Γ (e :: es) σ = .ok (o :: os) σ2 := by
  rw [evs, h]
  show ((evs Γ es σ1).bind fun os σ2 => Res.ok (o :: os) σ2) = _
  rw [h2]; rfl
theorem evs_2 (h : ev Γ a σ = .ok x σ1) (h2 : ev Γ b σ1 = .ok y σ2) : evs Γ [a, b] σ = .ok [x, y] σ2 := evs_c h (evs_1 h2)
theorem ev_bi1 {f : Bi} {r : C} (h : ev Γ e σ = .ok o σ1) (hv : vw o σ1 = some d) (hb : biD f [d] = some r) : ev Γ (.bi f [e]) σ = .ok (.c r) σ1 := by
  rw [ev, evs_1 h]
  show (match vws [o] σ1 with
    | some ds => Res.of ((biD f ds).map Opd.c) σ1
    | none => .no) = _
  rw [vws, vws, hv]
  simp only [Option.bind, Option.map]
  rw [hb]; rfl
theorem ev_bin {op : Bop} {r : C} (h1 : ev Γ a σ = .ok x σ1) (h2 : ev Γ b σ1 = .ok y σ2) (v1 : vw x σ2 = some d1) (v2 : vw y σ2 = some d2) (hb : binD op d1 d2 = some r) : ev Γ (.bin op a b) σ = .ok (.c r) σ2 := by
  rw [ev, h1]
  show ((ev Γ b σ1).bind fun y σ2 => match vw x σ2, vw y σ2 with
    | some d, some e => Res.of ((binD op d e).map Opd.c) σ2
    | _, _ => .no) = _
  rw [h2]
  show (match vw x σ2, vw y σ2 with
    | some d, some e => Res.of ((binD op d e).map Opd.c) σ2
    | _, _ => .no) = _
  rw [v1, v2]
  simp only
  rw [hb]; rfl
theorem ev_cmp {op : Cop} (h1 : ev Γ a σ = .ok x σ1) (h2 : ev Γ b σ1 = .ok y σ2) (v1 : vw x σ2 = some d1) (v2 : vw y σ2 = some d2) (hb : cmpD op d1 d2 = some k) : ev Γ (.cmp op a b) σ = .ok (.c (.val (.bl k))) σ2 := by
  rw [ev, h1]
  show ((ev Γ b σ1).bind fun y σ2 => match vw x σ2, vw y σ2 with
    | some d, some e => Res.of ((cmpD op d e).map fun b => Opd.c (.val (.bl b))) σ2
    | _, _ => .no) = _
  rw [h2]
  show (match vw x σ2, vw y σ2 with
    | some d, some e => Res.of ((cmpD op d e).map fun b => Opd.c (.val (.bl b))) σ2
    | _, _ => .no) = _
  rw [v1, v2]
  simp only
  rw [hb]; rfl
theorem ev_not (h : ev Γ a σ = .ok (.c (.val (.bl k))) σ1) : ev Γ (.not_ a) σ = .ok (.c (.val (.bl (!k)))) σ1 := by
  rw [ev, h]; rfl
theorem evc_v (h : ev Γ a σ = .ok (.c (.val (.bl k))) σ1) : evc Γ (some a) σ = .ok k σ1 := by
  rw [evc, h]; rfl
def isNo : D → Bool
  | .non => true
  | _ => false
theorem ev_isN {neg : Bool} (h : ev Γ a σ = .ok x σ1) (v : vw x σ1 = some d) : ev Γ (.isN a neg) σ = .ok (.c (.val (.bl (isNo d != neg)))) σ1 := by
  rw [ev, h]
  show (match vw x σ1 with
    | some .non => Res.ok (Opd.c (.val (.bl (!neg)))) σ1
    | some _ => .ok (.c (.val (.bl neg))) σ1
    | none => .no) = _
  rw [v]
  cases d <;> cases neg <;> rfl
theorem ev_and (h : ev Γ a σ = .ok (.c (.val (.bl k))) σ1) (h2 : k = true → ev Γ b σ1 = .ok o σ2) (h3 : k = false → o = .c (.val (.bl false)) ∧ σ2 = σ1) : ev Γ (.and_ a b) σ = .ok o σ2 := by
  rw [ev, h]
  cases k with
  | true => exact h2 rfl
  | false => obtain ⟨e1, e2⟩ := h3 rfl; rw [e1, e2]; rfl
theorem ev_or (h : ev Γ a σ = .ok (.c (.val (.bl k))) σ1) (h2 : k = false → ev Γ b σ1 = .ok o σ2) (h3 : k = true → o = .c (.val (.bl true)) ∧ σ2 = σ1) : ev Γ (.or_ a b) σ = .ok o σ2 := by
  rw [ev, h]
  cases k with
  | false => exact h2 rfl
  | true => obtain ⟨e1, e2⟩ := h3 rfl; rw [e1, e2]; rfl
theorem ev_name {i : Nat} (h : get σ i = some (.val d)) : ev Γ (.name i) σ = .ok (.c (.val d)) σ := by
  rw [ev, h]
theorem ev_own {i : Nat} {x : C} (h : get σ i = some x) (ho : x.ownB = true) : ev Γ (.name i) σ = .ok (.loc i) σ := by
  rw [ev, h]
  cases x <;> first | rfl | cases ho
theorem ev_tup {es : List E} {os : List Opd} {ds : List D} (h : evs Γ es σ = .ok os σ1) (hz : frzs os σ1 = some (ds, σ2)) : ev Γ (.tup es) σ = .ok (.c (.val (.tup ds))) σ2 := by
  rw [ev, h]
  show (match frzs os σ1 with
    | some (ds, σ2) => Res.ok (Opd.c (.val (.tup ds))) σ2
    | none => .no) = _
  rw [hz]
/-- a call with one value -/
theorem ev_call1 {f : Nat} {F : Fun} {r : C} {yy : Option C} (h : ev Γ e σ = .ok (.c (.val d)) σ1) (hf : Γ.fn f = some F) (hl : F.ar = 1) (hio : F.io = false) (hr : F.run [.val d] = .ok r yy) : ev Γ (.call f [e]) σ = .ok (.c r) σ1 :=
  ev_call (evs_1 h) hf (by rw [hl]; rfl) hio (ds := [d]) rfl hr
theorem ev_call2 {f : Nat} {F : Fun} {r : C} {yy : Option C} (h : ev Γ a σ = .ok (.c (.val d1)) σ1) (h2 : ev Γ b σ1 = .ok (.c (.val d2)) σ2) (hf : Γ.fn f = some F) (hl : F.ar = 2) (hio : F.io = false) (hr : F.run [.val d1, .val d2] = .ok r yy) : ev Γ (.call f [a, b]) σ = .ok (.c r) σ2 :=
  ev_call (evs_2 h h2) hf (by rw [hl]; rfl) hio (ds := [d1, d2]) rfl hr
theorem ex_expr (h : ev Γ e σ = .ok o σ1) : ex Γ (.expr e) σ = .ok .next σ1 := by
  rw [ex, h]; rfl
theorem ev_int {i : Int} : ev Γ (.int i) σ = .ok (.c (.val (.int i))) σ := by rw [ev]
end
end CL.Pl
namespace CL.Pl
theorem bo_mul {i j : Int} (h : mulOk i j = true) : binD .mul (.int i) (.int j) = some (.val (.int (i * j))) := by
  simp only [binD]
  rw [if_pos h]
theorem bo_fdiv {i j : Int} (h1 : 0 < j) (h2 : j < 1073741824) : binD .fdiv (.int i) (.int j) = some (.val (.int (i / j))) := by
  simp only [binD]
  rw [if_pos (by simp only [h1, h2, decide_true, Bool.and_self])]
theorem bo_mod {i j : Int} (h1 : 0 < j) : binD .mod (.int i) (.int j) = some (.val (.int (i % j))) := by
  simp only [binD]
  rw [if_pos h1]
end CL.Pl
namespace CL.Pl
theorem for_some {t : E} {body : St → Res Flow} {P : St → Prop} {f : D → Option C} : ∀ {ds : List D} {σ : St}, P σ → (∀ d ∈ ds, ∀ σ, P σ → ∃ σ1 σ2, bindT t d σ = some σ1 ∧ (match f d with
      | some x => body σ1 = .ok (.ret x) σ2
      | none => body σ1 = .ok .next σ2 ∧ P σ2)) →
    ∃ σ', (match ds.findSome? f with
      | some x => forGo t body ds σ = .ok (.ret x) σ'
      | none => forGo t body ds σ = .ok .next σ' ∧ P σ')
  | [], σ, h0, _ => ⟨σ, rfl, h0⟩
  | d :: ds, σ, h0, h => by
    obtain ⟨σ1, σ2, e1, e2⟩ := h d List.mem_cons_self σ h0
    rw [List.findSome?_cons]
    cases hp : f d with
    | some x =>
      rw [hp] at e2
      refine ⟨σ2, ?_⟩
      show forGo t body (d :: ds) σ = _
      rw [forGo, e1]
      simp only at e2 ⊢
      rw [e2]
      rfl
    | none =>
      rw [hp] at e2
      simp only at e2
      obtain ⟨e2, h2⟩ := e2
      obtain ⟨σ', e3⟩ := for_some (ds := ds) (σ := σ2) h2 fun d m => h d (List.mem_cons_of_mem _ m)
      refine ⟨σ', ?_⟩
      have e : forGo t body (d :: ds) σ = forGo t body ds σ2 := by
        rw [forGo, e1]
        simp only
        rw [e2]
        rfl
      rw [e]
      exact e3
theorem q_some {Γ : Ctx} {io : Bool} {ss : List S} {σ σ1 : St} {r : FR} {t it : E} {body : List S} {ds : List D} {locs : List Nat} (P : St → Prop) (f : D → Option C) (hI : evI Γ it σ = .ok (ds, locs) σ1) (h0 : P (still σ1 locs)) (h : ∀ d ∈ ds, ∀ σ, P σ → ∃ σ1 σ2, bindT t d σ = some σ1 ∧ (match f d with
      | some x => exs Γ body σ1 = .ok (.ret x) σ2
      | none => exs Γ body σ1 = .ok .next σ2 ∧ P σ2))
    (k1 : ∀ x, ds.findSome? f = some x → ∀ σ', endF io (.ok (.ret x) σ') = r) (k2 : ds.findSome? f = none → ∀ σ', P σ' → endF io (exs Γ ss σ') = r) : endF io (exs Γ (.for_ t it body :: ss) σ) = r := by
  obtain ⟨σ', e⟩ := for_some (t := t) (body := exs Γ body) (f := f) h0 h
  cases hf : ds.findSome? f with
  | some d =>
    rw [hf] at e
    rw [exs_ret (by rw [ex_for hI]; exact e)]
    exact k1 d hf σ'
  | none =>
    rw [hf] at e
    exact q_next (by rw [ex_for hI]; exact e.1) (k2 hf σ' e.2)
theorem atI_nat {ds : List D} {j : Nat} (h : j < ds.length) : atI ds (j : Nat) = ds[j]? := by
  unfold atI ixN
  rw [if_pos (by omega), if_pos (by omega)]
  simp
theorem enumD_mem : ∀ (n : Nat) (ds : List D) (d : D), d ∈ enumD n ds → ∃ i x, ds[i]? = some x ∧ d = .tup [.int ((n + i : Nat) : Int), x]
  | n, [], d, h => by cases h
  | n, x :: xs, d, h => by
    rcases List.mem_cons.mp h with rfl | h
    · exact ⟨0, x, rfl, by simp⟩
    · obtain ⟨i, y, h1, h2⟩ := enumD_mem (n + 1) xs d h
      exact ⟨i + 1, y, by simpa using h1, by rw [h2]; congr 3; omega⟩
theorem it_rng1 {Γ : Ctx} {a : E} {σ σ1 : St} {x : Int} (h : ev Γ a σ = .ok (.c (.val (.int x))) σ1) (hx : big x = true) : evI Γ (.rng [a]) σ = .ok (rangeD 0 x.toNat, []) σ1 := by
  rw [evI, evs_1 h]
  show (if big x = true then _ else _) = _
  rw [if_pos hx]
theorem it_rng2 {Γ : Ctx} {a b : E} {σ σ1 σ2 : St} {x y : Int} (h : ev Γ a σ = .ok (.c (.val (.int x))) σ1) (h2 : ev Γ b σ1 = .ok (.c (.val (.int y))) σ2) (hx : big x = true) (hy : big y = true) : evI Γ (.rng [a, b]) σ = .ok (rangeD x (y - x).toNat, []) σ2 := by
  rw [evI, evs_2 h h2]
  show (if (big x && big y) = true then _ else _) = _
  rw [if_pos (by rw [hx, hy]; rfl)]
theorem big_le {x : Int} (h1 : -1000000 ≤ x) (h2 : x ≤ 1000000) : big x = true := by
  unfold big
  rw [decide_eq_true h1, decide_eq_true h2]
  rfl
theorem for_fold {α : Type} {t : E} {body : St → Res Flow} {P : α → St → Prop} {g : α → D → Option α} {x : C} : ∀ {ds : List D} {a : α} {σ : St}, P a σ → (∀ d ∈ ds, ∀ a σ, P a σ → ∃ σ1 σ2, bindT t d σ = some σ1 ∧ (match g a d with
      | some a' => body σ1 = .ok .next σ2 ∧ P a' σ2
      | none => body σ1 = .ok (.ret x) σ2)) →
    ∃ σ', (match ds.foldlM g a with
      | some a' => forGo t body ds σ = .ok .next σ' ∧ P a' σ'
      | none => forGo t body ds σ = .ok (.ret x) σ')
  | [], a, σ, h0, _ => ⟨σ, rfl, h0⟩
  | d :: ds, a, σ, h0, h => by
    obtain ⟨σ1, σ2, e1, e2⟩ := h d List.mem_cons_self a σ h0
    rw [List.foldlM_cons]
    cases hp : g a d with
    | none =>
      rw [hp] at e2
      refine ⟨σ2, ?_⟩
      show forGo t body (d :: ds) σ = _
      rw [forGo, e1]
      simp only at e2 ⊢
      rw [e2]
      rfl
    | some a' =>
      rw [hp] at e2
      simp only at e2
      obtain ⟨e2, h2⟩ := e2
      obtain ⟨σ', e3⟩ := for_fold (ds := ds) (a := a') (σ := σ2) h2 fun d m => h d (List.mem_cons_of_mem _ m)
      refine ⟨σ', ?_⟩
      have e : forGo t body (d :: ds) σ = forGo t body ds σ2 := by
        rw [forGo, e1]
        simp only
        rw [e2]
        rfl
      rw [e]
      exact e3
theorem q_fold {α : Type} {Γ : Ctx} {io : Bool} {ss : List S} {σ σ1 : St} {r : FR} {t it : E} {body : List S} {ds : List D} {locs : List Nat} (P : α → St → Prop) (g : α → D → Option α) (x : C) (a : α) (hI : evI Γ it σ = .ok (ds, locs) σ1) (h0 : P a (still σ1 locs)) (h : ∀ d ∈ ds, ∀ a σ, P a σ → ∃ σ1 σ2, bindT t d σ = some σ1 ∧ (match g a d with
      | some a' => exs Γ body σ1 = .ok .next σ2 ∧ P a' σ2
      | none => exs Γ body σ1 = .ok (.ret x) σ2))
    (k1 : ds.foldlM g a = none → ∀ σ', endF io (.ok (.ret x) σ') = r) (k2 : ∀ a', ds.foldlM g a = some a' → ∀ σ', P a' σ' → endF io (exs Γ ss σ') = r) : endF io (exs Γ (.for_ t it body :: ss) σ) = r := by
  obtain ⟨σ', e⟩ := for_fold (t := t) (body := exs Γ body) (g := g) (x := x) h0 h
  cases hf : ds.foldlM g a with
  | none =>
    rw [hf] at e
    rw [exs_ret (by rw [ex_for hI]; exact e)]
    exact k1 hf σ'
  | some a' =>
    rw [hf] at e
    exact q_next (by rw [ex_for hI]; exact e.1) (k2 a' hf σ' e.2)
theorem bo_add (i j : Int) : binD .add (.int i) (.int j) = some (.val (.int (i + j))) := rfl
theorem bo_sub (i j : Int) : binD .sub (.int i) (.int j) = some (.val (.int (i - j))) := rfl
theorem turn_if {Γ : Ctx} {elt tgt : E} {c : E} {d x : D} {σ τ : St} {k : Bool} (hb : bindT tgt d σ = some τ) (hc : evc Γ (some c) τ = .ok k τ) (he : k = true → ev Γ elt τ = .ok (.c (.val x)) τ) : turn Γ elt tgt (some c) d σ = .ok (if k then some x else none) τ := by
  unfold turn
  rw [hb]
  show ((evc Γ (some c) τ).bind _) = _
  rw [hc]
  cases k with
  | false => rfl
  | true =>
    show ((ev Γ elt τ).bind _) = _
    rw [he rfl]
    rfl
theorem turn_ev {Γ : Ctx} {elt tgt : E} {d x : D} {σ τ : St} (hb : bindT tgt d σ = some τ) (he : ev Γ elt τ = .ok (.c (.val x)) τ) : turn Γ elt tgt none d σ = .ok (some x) τ := by
  unfold turn
  rw [hb]
  show ((evc Γ none τ).bind _) = _
  rw [evc]
  show ((ev Γ elt τ).bind _) = _
  rw [he]
  rfl
theorem it_enum {Γ : Ctx} {i : Nat} {σ : St} {ds : List D} (h : get σ i = some (.val (.tup ds))) : evI Γ (.enum (.name i)) σ = .ok (enumD 0 ds, []) σ := by
  rw [evI, ev_name (d := .tup ds) h]
  rfl
end CL.Pl

set_option autoImplicit false
set_option linter.all false
set_option Elab.async false
set_option maxRecDepth 100000
/-! CLW: how expressions and statements end, as rules. -/
namespace CL.Pl
/-- e gives d, nothing changed -/
def W (Γ : Ctx) (σ : St) (e : E) (d : D) : Prop := ∃ o, ev Γ e σ = .ok o σ ∧ vw o σ = some d
/-- e gives x, nothing changed -/
def K (Γ : Ctx) (σ : St) (e : E) (x : C) : Prop := ev Γ e σ = .ok (.c x) σ
def Ks (Γ : Ctx) (σ : St) (es : List E) (xs : List C) : Prop := evs Γ es σ = .ok (xs.map .c) σ
/-- what is walked -/
def I (Γ : Ctx) (σ : St) (e : E) (ds : List D) (locs : List Nat) : Prop := evI Γ e σ = .ok (ds, locs) σ
section
variable {Γ : Ctx} {σ : St} {e a b c : E} {es : List E} {x y z : C} {xs : List C} {d d1 d2 : D} {ds : List D} {i j k : Int} {p q : Bool}
theorem K.w (h : K Γ σ e x) : W Γ σ e x.toD := ⟨_, h, rfl⟩
theorem K.wv (h : K Γ σ e (.val d)) : W Γ σ e d := ⟨_, h, rfl⟩
theorem K.wl (h : K Γ σ e (.ol ds)) : W Γ σ e (.lst ds) := ⟨_, h, rfl⟩
theorem K.wd {kvs : List (D × D)} {t : Bool} (h : K Γ σ e (.od t kvs)) : W Γ σ e (.dct t kvs) := ⟨_, h, rfl⟩
theorem W.ev (h : W Γ σ e d) : ∃ o, CL.ev Γ e σ = .ok o σ ∧ vw o σ = some d := h
theorem k_int : K Γ σ (.int i) (.val (.int i)) := by unfold K; rw [CL.ev]
theorem k_bl : K Γ σ (.bl p) (.val (.bl p)) := by unfold K; rw [CL.ev]
theorem k_non : K Γ σ .non (.val .non) := by unfold K; rw [CL.ev]
theorem k_dic0 {t : Bool} : K Γ σ (.dic0 t) (.od t []) := by unfold K; rw [CL.ev]
theorem k_glob {n : Nat} (h : Γ.cst n = some d) : K Γ σ (.glob n) (.val d) := by unfold K; rw [CL.ev, h]; rfl
theorem k_name {n : Nat} (h : get σ n = some (.val d)) : K Γ σ (.name n) (.val d) := ev_name h
theorem w_name {n : Nat} (h : get σ n = some x) : W Γ σ (.name n) x.toD := by
  cases x with
  | val d => exact ⟨_, ev_name h, rfl⟩
  | ol ds => exact ⟨_, ev_own h rfl, by simp only [vw, h, Option.map]⟩
  | od t ds => exact ⟨_, ev_own h rfl, by simp only [vw, h, Option.map]⟩
  | oi c ds => exact ⟨_, ev_own h rfl, by simp only [vw, h, Option.map]⟩
theorem k_bin {op : Bop} (h1 : W Γ σ a d1) (h2 : W Γ σ b d2) (hb : binD op d1 d2 = some x) : K Γ σ (.bin op a b) x := by
  obtain ⟨o1, e1, v1⟩ := h1
  obtain ⟨o2, e2, v2⟩ := h2
  exact ev_bin e1 e2 v1 v2 hb
theorem k_add (h1 : W Γ σ a (.int i)) (h2 : W Γ σ b (.int j)) : K Γ σ (.bin .add a b) (.val (.int (i + j))) := k_bin h1 h2 rfl
theorem k_sub (h1 : W Γ σ a (.int i)) (h2 : W Γ σ b (.int j)) : K Γ σ (.bin .sub a b) (.val (.int (i - j))) := k_bin h1 h2 rfl
theorem k_mul (h1 : W Γ σ a (.int i)) (h2 : W Γ σ b (.int j)) (h : mulOk i j = true) : K Γ σ (.bin .mul a b) (.val (.int (i * j))) := k_bin h1 h2 (bo_mul h)
theorem k_mod (h1 : W Γ σ a (.int i)) (h2 : W Γ σ b (.int j)) (h : 0 < j) : K Γ σ (.bin .mod a b) (.val (.int (i % j))) := k_bin h1 h2 (bo_mod h)
theorem k_fdiv (h1 : W Γ σ a (.int i)) (h2 : W Γ σ b (.int j)) (h : 0 < j) (h' : j < 1073741824) : K Γ σ (.bin .fdiv a b) (.val (.int (i / j))) := k_bin h1 h2 (bo_fdiv h h')
theorem k_addT {xs ys : List D} (h1 : W Γ σ a (.tup xs)) (h2 : W Γ σ b (.tup ys)) (h : xs.length + ys.length ≤ 1000000) : K Γ σ (.bin .add a b) (.val (.tup (xs ++ ys))) := k_bin h1 h2 (by simp only [binD]; rw [if_pos h])
theorem k_addL {xs ys : List D} (h1 : W Γ σ a (.lst xs)) (h2 : W Γ σ b (.lst ys)) (h : xs.length + ys.length ≤ 1000000) : K Γ σ (.bin .add a b) (.ol (xs ++ ys)) := k_bin h1 h2 (by simp only [binD]; rw [if_pos h])
theorem k_cmp {op : Cop} (h1 : W Γ σ a d1) (h2 : W Γ σ b d2) (hb : cmpD op d1 d2 = some p) : K Γ σ (.cmp op a b) (.val (.bl p)) := by
  obtain ⟨o1, e1, v1⟩ := h1
  obtain ⟨o2, e2, v2⟩ := h2
  exact ev_cmp e1 e2 v1 v2 hb
theorem beqI (x y : Int) : (x == y) = decide (x = y) := by by_cases h : x = y <;> simp [h]
theorem c_eqI (x y : Int) : cmpD .eq (.int x) (.int y) = some (decide (x = y)) := by simp [cmpD, eqD, cmpOk, okD, eqb, beqI]
theorem c_neI (x y : Int) : cmpD .ne (.int x) (.int y) = some (!decide (x = y)) := by simp [cmpD, eqD, cmpOk, okD, eqb, beqI]
theorem c_ltI (x y : Int) : cmpD .lt (.int x) (.int y) = some (decide (x < y)) := by simp [cmpD, ltD, cmpOk, okD, alikeb, notNon, ltb]
theorem c_gtI (x y : Int) : cmpD .gt (.int x) (.int y) = some (decide (y < x)) := by simp [cmpD, ltD, cmpOk, okD, alikeb, notNon, ltb]
theorem c_leI (x y : Int) : cmpD .le (.int x) (.int y) = some (decide (x ≤ y)) := rfl
theorem c_geI (x y : Int) : cmpD .ge (.int x) (.int y) = some (decide (y ≤ x)) := rfl
theorem k_eq (h1 : W Γ σ a (.int i)) (h2 : W Γ σ b (.int j)) : K Γ σ (.cmp .eq a b) (.val (.bl (decide (i = j)))) := k_cmp h1 h2 (c_eqI i j)
theorem k_ne (h1 : W Γ σ a (.int i)) (h2 : W Γ σ b (.int j)) : K Γ σ (.cmp .ne a b) (.val (.bl (!decide (i = j)))) := k_cmp h1 h2 (c_neI i j)
theorem k_lt (h1 : W Γ σ a (.int i)) (h2 : W Γ σ b (.int j)) : K Γ σ (.cmp .lt a b) (.val (.bl (decide (i < j)))) := k_cmp h1 h2 (c_ltI i j)
theorem k_gt (h1 : W Γ σ a (.int i)) (h2 : W Γ σ b (.int j)) : K Γ σ (.cmp .gt a b) (.val (.bl (decide (j < i)))) := k_cmp h1 h2 (c_gtI i j)
theorem k_le (h1 : W Γ σ a (.int i)) (h2 : W Γ σ b (.int j)) : K Γ σ (.cmp .le a b) (.val (.bl (decide (i ≤ j)))) := k_cmp h1 h2 (c_leI i j)
theorem k_ge (h1 : W Γ σ a (.int i)) (h2 : W Γ σ b (.int j)) : K Γ σ (.cmp .ge a b) (.val (.bl (decide (j ≤ i)))) := k_cmp h1 h2 (c_geI i j)
theorem k_eqD (h1 : W Γ σ a d1) (h2 : W Γ σ b d2) (h : cmpOk d1 d2 = true) : K Γ σ (.cmp .eq a b) (.val (.bl (eqb d1 d2))) := k_cmp h1 h2 (by simp only [cmpD, eqD]; rw [if_pos h])
theorem k_neD (h1 : W Γ σ a d1) (h2 : W Γ σ b d2) (h : cmpOk d1 d2 = true) : K Γ σ (.cmp .ne a b) (.val (.bl (!eqb d1 d2))) := k_cmp h1 h2 (by simp only [cmpD, eqD]; rw [if_pos h]; rfl)
theorem k_neg (h1 : W Γ σ a (.int i)) : K Γ σ (.neg a) (.val (.int (-i))) := by
  obtain ⟨o1, e1, v1⟩ := h1
  unfold K
  rw [CL.ev, e1]
  show (match vw o1 σ with
    | some (.int i) => Res.ok (Opd.c (.val (.int (-i)))) σ
    | _ => .no) = _
  rw [v1]
theorem k_not (h1 : W Γ σ a (.bl p)) : K Γ σ (.not_ a) (.val (.bl (!p))) := by
  obtain ⟨o1, e1, v1⟩ := h1
  unfold K
  rw [CL.ev, e1]
  show (match vw o1 σ with
    | some (.bl c) => Res.ok (Opd.c (.val (.bl (!c)))) σ
    | _ => .no) = _
  rw [v1]
theorem k_and (h1 : W Γ σ a (.bl p)) (h2 : p = true → K Γ σ b (.val (.bl q))) : K Γ σ (.and_ a b) (.val (.bl (p && q))) := by
  obtain ⟨o1, e1, v1⟩ := h1
  unfold K
  rw [CL.ev, e1]
  show (match vw o1 σ with
    | some (.bl true) => CL.ev Γ b σ
    | some (.bl false) => Res.ok (Opd.c (.val (.bl false))) σ
    | _ => .no) = _
  rw [v1]
  cases p with
  | true => exact h2 rfl
  | false => rfl
theorem k_or (h1 : W Γ σ a (.bl p)) (h2 : p = false → K Γ σ b (.val (.bl q))) : K Γ σ (.or_ a b) (.val (.bl (p || q))) := by
  obtain ⟨o1, e1, v1⟩ := h1
  unfold K
  rw [CL.ev, e1]
  show (match vw o1 σ with
    | some (.bl true) => Res.ok (Opd.c (.val (.bl true))) σ
    | some (.bl false) => CL.ev Γ b σ
    | _ => .no) = _
  rw [v1]
  cases p with
  | false => exact h2 rfl
  | true => rfl
theorem k_ife {t : E} (h1 : W Γ σ t (.bl p)) (h2 : p = true → K Γ σ a x) (h3 : p = false → K Γ σ b y) : K Γ σ (.ife t a b) (if p then x else y) := by
  obtain ⟨o1, e1, v1⟩ := h1
  unfold K
  rw [CL.ev, e1]
  show (match vw o1 σ with
    | some (.bl true) => CL.ev Γ a σ
    | some (.bl false) => CL.ev Γ b σ
    | _ => .no) = _
  rw [v1]
  cases p with
  | true => exact h2 rfl
  | false => exact h3 rfl
theorem k_ifeV {t : E} (h1 : W Γ σ t (.bl p)) (h2 : p = true → K Γ σ a (.val d1)) (h3 : p = false → K Γ σ b (.val d2)) : K Γ σ (.ife t a b) (.val (if p then d1 else d2)) := by
  have := k_ife h1 h2 h3
  cases p <;> exact this
theorem k_isN {n : Bool} (h1 : W Γ σ a d) : K Γ σ (.isN a n) (.val (.bl (isNo d != n))) := by
  obtain ⟨o1, e1, v1⟩ := h1
  exact ev_isN e1 v1
theorem k_isB {n : Bool} (h1 : W Γ σ a (.bl p)) : K Γ σ (.isB a q n) (.val (.bl ((p == q) != n))) := by
  obtain ⟨o1, e1, v1⟩ := h1
  unfold K
  rw [CL.ev, e1]
  show (match vw o1 σ with
    | some (.bl c) => Res.ok (Opd.c (.val (.bl ((c == q) != n)))) σ
    | _ => .no) = _
  rw [v1]
theorem k_chain {o1 o2 : Cop} (h1 : W Γ σ a d1) (h2 : W Γ σ b d2) (hb : cmpD o1 d1 d2 = some p) (h3 : W Γ σ c d) (hc : cmpD o2 d2 d = some q) : K Γ σ (.chain o1 o2 a b c) (.val (.bl (p && q))) := by
  obtain ⟨w1, e1, v1⟩ := h1
  obtain ⟨w2, e2, v2⟩ := h2
  obtain ⟨w3, e3, v3⟩ := h3
  unfold K
  rw [CL.ev, e1]
  simp only [Res.bind]
  rw [e2]
  simp only [Res.bind, v1, v2, hb]
  cases p with
  | false => rfl
  | true =>
    simp only [e3, Res.bind, v2, v3, hc]
    rfl
theorem ks_nil : Ks Γ σ [] [] := by unfold Ks; rw [evs]; rfl
theorem ks_cons (h : K Γ σ e x) (h2 : Ks Γ σ es xs) : Ks Γ σ (e :: es) (x :: xs) := by
  unfold Ks
  rw [List.map_cons]
  exact evs_c h h2
theorem frzs_c : ∀ (xs : List C) (σ : St), frzs (xs.map .c) σ = some (xs.map C.toD, σ)
  | [], σ => rfl
  | x :: xs, σ => by
    rw [List.map_cons, frzs]
    show (frzs (xs.map .c) σ).map _ = _
    rw [frzs_c xs σ]
    rfl
theorem k_tup (h : Ks Γ σ es xs) : K Γ σ (.tup es) (.val (.tup (xs.map C.toD))) := ev_tup h (frzs_c xs σ)
theorem k_lst (h : Ks Γ σ es xs) : K Γ σ (.lst es) (.ol (xs.map C.toD)) := by
  unfold K Ks at *
  rw [CL.ev, h]
  show (match frzs (xs.map Opd.c) σ with
    | some (ds, σ2) => Res.ok (Opd.c (.ol ds)) σ2
    | none => .no) = _
  rw [frzs_c]
theorem k_call {f : Nat} {F : Fun} {r : C} {yy : Option C} (hf : Γ.fn f = some F) (hl : F.ar = es.length) (hio : F.io = false) (h : Ks Γ σ es xs) (hr : F.run (xs.map fun x => .val x.toD) = .ok r yy) : K Γ σ (.call f es) r := by
  have hlen : (xs.map Opd.c).length = F.ar := by
    rw [hl]
    have : ∀ (es : List E) (σ σ' : St) (os : List Opd), evs Γ es σ = .ok os σ' → os.length = es.length := by
      intro es
      induction es with
      | nil => intro σ σ' os h; rw [evs] at h; cases h; rfl
      | cons e es ih =>
        intro σ σ' os h
        rw [evs] at h
        cases h1 : CL.ev Γ e σ with
        | ok o σ1 =>
          rw [h1] at h
          simp only [Res.bind] at h
          cases h2 : evs Γ es σ1 with
          | ok os' σ2 =>
            rw [h2] at h
            cases h
            rw [List.length_cons, List.length_cons, ih _ _ _ h2]
          | exc d σ2 => rw [h2] at h; cases h
          | no => rw [h2] at h; cases h
        | exc d σ1 => rw [h1] at h; cases h
        | no => rw [h1] at h; cases h
    exact this _ _ _ _ h
  refine ev_call (y := yy) h hf hlen hio (frzs_c xs σ) (ds := xs.map C.toD) ?_
  rw [List.map_map]
  exact hr
theorem k_bi1 {f : Bi} (h : W Γ σ a d) (hb : biD f [d] = some x) : K Γ σ (.bi f [a]) x := by
  obtain ⟨o1, e1, v1⟩ := h
  exact ev_bi1 e1 v1 hb
theorem k_bi2 {f : Bi} (h : W Γ σ a d1) (h2 : W Γ σ b d2) (hb : biD f [d1, d2] = some x) : K Γ σ (.bi f [a, b]) x := by
  obtain ⟨o1, e1, v1⟩ := h
  obtain ⟨o2, e2, v2⟩ := h2
  unfold K
  rw [CL.ev, evs_2 e1 e2]
  show (match vws [o1, o2] σ with
    | some ds => Res.of ((biD f ds).map Opd.c) σ
    | none => .no) = _
  simp only [vws, v1, v2, Option.bind, Option.map]
  rw [hb]; rfl
theorem k_lenL (h : W Γ σ a (.lst ds)) : K Γ σ (.bi .len [a]) (.val (.int ds.length)) := k_bi1 h rfl
theorem k_lenT (h : W Γ σ a (.tup ds)) : K Γ σ (.bi .len [a]) (.val (.int ds.length)) := k_bi1 h rfl
theorem k_intI (h : W Γ σ a (.int i)) : K Γ σ (.bi .int [a]) (.val (.int i)) := k_bi1 h rfl
theorem k_intB (h : W Γ σ a (.bl p)) : K Γ σ (.bi .int [a]) (.val (.int (if p then 1 else 0))) := k_bi1 h rfl
theorem k_abs (h : W Γ σ a (.int i)) : K Γ σ (.bi .abs [a]) (.val (.int (absI i))) := k_bi1 h rfl
theorem k_tupleL (h : W Γ σ a (.lst ds)) : K Γ σ (.bi .tuple [a]) (.val (.tup ds)) := k_bi1 h rfl
theorem k_tupleT (h : W Γ σ a (.tup ds)) : K Γ σ (.bi .tuple [a]) (.val (.tup ds)) := k_bi1 h rfl
theorem k_listL (h : W Γ σ a (.lst ds)) : K Γ σ (.bi .list [a]) (.ol ds) := k_bi1 h rfl
theorem k_listT (h : W Γ σ a (.tup ds)) : K Γ σ (.bi .list [a]) (.ol ds) := k_bi1 h rfl
theorem k_subT (h : W Γ σ a (.tup ds)) (h2 : W Γ σ b (.int i)) (hb : atI ds i = some d) : K Γ σ (.sub a b) (.val d) := by
  obtain ⟨o1, e1, v1⟩ := h
  obtain ⟨o2, e2, v2⟩ := h2
  unfold K
  rw [CL.ev, e1]
  simp only [Res.bind]
  rw [e2]
  simp only [Res.bind, v1, v2, hb]
  rfl
theorem k_subL (h : W Γ σ a (.lst ds)) (h2 : W Γ σ b (.int i)) (hb : atI ds i = some d) : K Γ σ (.sub a b) (.val d) := by
  obtain ⟨o1, e1, v1⟩ := h
  obtain ⟨o2, e2, v2⟩ := h2
  unfold K
  rw [CL.ev, e1]
  simp only [Res.bind]
  rw [e2]
  simp only [Res.bind, v1, v2, hb]
  rfl
theorem k_attr {f cc : Nat} {fs : List (Nat × D)} (h : W Γ σ a (.ins cc fs)) (hb : fget fs f = some d) : K Γ σ (.attr a f) (.val d) := by
  obtain ⟨o1, e1, v1⟩ := h
  unfold K
  rw [CL.ev, e1]
  simp only [Res.bind, v1, hb]
  rfl
theorem mulOk_l {i j : Int} (h0 : 0 ≤ i) (h1 : i < 2147483648) : mulOk i j = true := by
  have a : (-(2 ^ 64) : Int) < i := by omega
  have b : i < (2 ^ 64 : Int) := by omega
  simp only [mulOk, a, b, decide_true, Bool.and_self, Bool.true_or]
theorem mulOk_r {i j : Int} (h0 : 0 ≤ j) (h1 : j < 2147483648) : mulOk i j = true := by
  have a : (-(2 ^ 64) : Int) < j := by omega
  have b : j < (2 ^ 64 : Int) := by omega
  simp only [mulOk, a, b, decide_true, Bool.and_self, Bool.or_true]
theorem w_nO {n : Nat} (h : get σ n = some (.ol ds)) : W Γ σ (.name n) (.lst ds) := w_name h
theorem w_nD {n : Nat} {kvs : List (D × D)} {t : Bool} (h : get σ n = some (.od t kvs)) : W Γ σ (.name n) (.dct t kvs) := w_name h
theorem i_rngN {n : Nat} (h : W Γ σ a (.int n)) (hn : n ≤ 1000000) : I Γ σ (.rng [a]) ((List.range n).map fun (t : Nat) => D.int (t : Nat)) [] := by
  obtain ⟨o1, e1, v1⟩ := h
  have hb : big (n : Nat) = true := big_le (by omega) (by omega)
  unfold I
  rw [evI, evs_1 e1]
  simp only [Res.bind, vws, v1, Option.bind, Option.map, hb, if_true]
  have : rangeD 0 (n : Int).toNat = (List.range n).map fun (t : Nat) => D.int (t : Nat) := by
    rw [Int.toNat_natCast]
    unfold rangeD
    congr 1
    funext t
    rw [Int.zero_add]
  rw [this]
theorem i_rng2N {n m : Nat} (h : W Γ σ a (.int n)) (h2 : W Γ σ b (.int m)) (hn : n ≤ 1000000) (hm : m ≤ 1000000) : I Γ σ (.rng [a, b]) ((List.range (m - n)).map fun (t : Nat) => D.int ((n + t : Nat) : Int)) [] := by
  obtain ⟨o1, e1, v1⟩ := h
  obtain ⟨o2, e2, v2⟩ := h2
  have hb : big (n : Nat) = true := big_le (by omega) (by omega)
  have hb2 : big (m : Nat) = true := big_le (by omega) (by omega)
  unfold I
  rw [evI, evs_2 e1 e2]
  simp only [Res.bind, vws, v1, v2, Option.bind, Option.map, hb, hb2, if_true, Bool.and_self]
  have : rangeD (n : Int) ((m : Int) - (n : Int)).toNat = (List.range (m - n)).map fun (t : Nat) => D.int ((n + t : Nat) : Int) := by
    have e : ((m : Int) - (n : Int)).toNat = m - n := by omega
    rw [e]
    unfold rangeD
    congr 1
  rw [this]
/-! what is walked -/
theorem i_name {n : Nat} (h : get σ n = some (.val (.tup ds))) : I Γ σ (.it (.name n)) ds [] := by
  unfold I
  rw [evI, ev_name h]; rfl
theorem i_nameL {n : Nat} (h : get σ n = some (.val (.lst ds))) : I Γ σ (.it (.name n)) ds [] := by
  unfold I
  rw [evI, ev_name h]; rfl
theorem i_own {n : Nat} (h : get σ n = some (.ol ds)) : I Γ σ (.it (.name n)) ds [n] := by
  unfold I
  rw [evI, ev_own h rfl]
  simp only [Res.bind, vw, h, Option.map, C.toD, items, Res.of, locsOf]
theorem i_k (h : K Γ σ e x) (hd : items x.toD = some ds) : I Γ σ (.it e) ds [] := by
  unfold I K at *
  rw [evI, h]
  simp only [Res.bind, vw]
  rw [hd]; rfl
theorem i_rng1 (h : W Γ σ a (.int i)) (hi : big i = true) : I Γ σ (.rng [a]) (rangeD 0 i.toNat) [] := by
  obtain ⟨o1, e1, v1⟩ := h
  unfold I
  rw [evI, evs_1 e1]
  simp only [Res.bind, vws, v1, Option.bind, Option.map, hi, if_true]
theorem i_rng2 (h : W Γ σ a (.int i)) (h2 : W Γ σ b (.int j)) (hi : big i = true) (hj : big j = true) : I Γ σ (.rng [a, b]) (rangeD i (j - i).toNat) [] := by
  obtain ⟨o1, e1, v1⟩ := h
  obtain ⟨o2, e2, v2⟩ := h2
  unfold I
  rw [evI, evs_2 e1 e2]
  simp only [Res.bind, vws, v1, v2, Option.bind, Option.map, hi, hj, if_true, Bool.and_self]
theorem i_enumT {n : Nat} (h : get σ n = some (.val (.tup ds))) : I Γ σ (.enum (.name n)) (enumD 0 ds) [] := it_enum h
/-! comprehensions: the items' own kind, what each brings -/
theorem k_lc {α : Type} {enc : α → D} {vs : List α} {g : α → C} {τ : α → St} {elt tgt it : E} {locs : List Nat} (hI : I Γ σ it (vs.map enc) locs) (hl : vs.length ≤ 1000000)
    (hb : ∀ v, bindT tgt (enc v) (hide σ (tnames tgt ++ locs)) = some (τ v)) (hh : ∀ v, hide (τ v) (tnames tgt) = hide σ (tnames tgt ++ locs))
    (hk : ∀ v, v ∈ vs → K Γ (τ v) elt (g v)) : K Γ σ (.lc elt tgt it none) (.ol (vs.map fun v => (g v).toD)) := by
  have key : ∀ d ∈ vs.map enc, ∃ v, v ∈ vs ∧ enc v = d := fun d hd => by
    obtain ⟨v, hv, e⟩ := List.mem_map.mp hd
    exact ⟨v, hv, e⟩
  unfold K
  rw [CL.ev, hI]
  show (if (vs.map enc).length ≤ lim then _ else _) = _
  rw [if_pos (by rw [List.length_map]; exact hl)]
  have hs : hide (hide σ (tnames tgt ++ locs)) (tnames tgt) = hide σ (tnames tgt ++ locs) := hide_self _ _ fun n m => h_in _ (List.mem_append_left _ m)
  have main : ∀ (ws : List α), (∀ v ∈ ws, v ∈ vs) → ∀ τ1, hide τ1 (tnames tgt) = hide σ (tnames tgt ++ locs) → ∃ τ', lcGo (fun d τ => turn Γ elt tgt none d (hide τ (tnames tgt))) (ws.map enc) τ1 = .ok (ws.map fun v => (g v).toD) τ' ∧ hide τ' (tnames tgt) = hide σ (tnames tgt ++ locs) := by
    intro ws
    induction ws with
    | nil => intro _ τ1 h1; exact ⟨τ1, rfl, h1⟩
    | cons w ws ih =>
      intro hw τ1 h1
      obtain ⟨τ', e2, h2⟩ := ih (fun v m => hw v (List.mem_cons_of_mem _ m)) (τ w) (hh w)
      refine ⟨τ', ?_, h2⟩
      rw [List.map_cons, lcGo, h1]
      have : turn Γ elt tgt none (enc w) (hide σ (tnames tgt ++ locs)) = .ok (some (g w).toD) (τ w) := by
        unfold turn
        rw [hb w]
        show ((evc Γ none (τ w)).bind _) = _
        rw [evc]
        show ((CL.ev Γ elt (τ w)).bind _) = _
        rw [hk w (hw w List.mem_cons_self)]
        rfl
      rw [this]
      show (lcGo _ (ws.map enc) (τ w)).bind _ = _
      rw [e2]
      rfl
  obtain ⟨τ', e, h2⟩ := main vs (fun _ m => m) _ hs
  show (lcGo (fun d τ => turn Γ elt tgt none d (hide τ (tnames tgt))) (vs.map enc) (hide σ (tnames tgt ++ locs))).bind _ = _
  rw [e]
  show Res.ok (Opd.c (C.ol _)) (back σ τ' (tnames tgt ++ locs)) = _
  rw [back_eq h2 fun m hm => List.mem_append_left _ hm]
theorem k_lcf {α : Type} {enc : α → D} {vs : List α} {g : α → C} {p : α → Bool} {τ : α → St} {elt tgt it cnd : E} {locs : List Nat} (hI : I Γ σ it (vs.map enc) locs) (hl : vs.length ≤ 1000000)
    (hb : ∀ v, bindT tgt (enc v) (hide σ (tnames tgt ++ locs)) = some (τ v)) (hh : ∀ v, hide (τ v) (tnames tgt) = hide σ (tnames tgt ++ locs))
    (hc : ∀ v, v ∈ vs → W Γ (τ v) cnd (.bl (p v)))
    (hk : ∀ v, v ∈ vs → p v = true → K Γ (τ v) elt (g v)) : K Γ σ (.lc elt tgt it (some cnd)) (.ol ((vs.filter p).map fun v => (g v).toD)) := by
  unfold K
  rw [CL.ev, hI]
  show (if (vs.map enc).length ≤ lim then _ else _) = _
  rw [if_pos (by rw [List.length_map]; exact hl)]
  have hs : hide (hide σ (tnames tgt ++ locs)) (tnames tgt) = hide σ (tnames tgt ++ locs) := hide_self _ _ fun n m => h_in _ (List.mem_append_left _ m)
  have main : ∀ (ws : List α), (∀ v ∈ ws, v ∈ vs) → ∀ τ1, hide τ1 (tnames tgt) = hide σ (tnames tgt ++ locs) → ∃ τ', lcGo (fun d τ => turn Γ elt tgt (some cnd) d (hide τ (tnames tgt))) (ws.map enc) τ1 = .ok ((ws.filter p).map fun v => (g v).toD) τ' ∧ hide τ' (tnames tgt) = hide σ (tnames tgt ++ locs) := by
    intro ws
    induction ws with
    | nil => intro _ τ1 h1; exact ⟨τ1, rfl, h1⟩
    | cons w ws ih =>
      intro hw τ1 h1
      obtain ⟨τ', e2, h2⟩ := ih (fun v m => hw v (List.mem_cons_of_mem _ m)) (τ w) (hh w)
      refine ⟨τ', ?_, h2⟩
      rw [List.map_cons, lcGo, h1, List.filter_cons]
      obtain ⟨oc, ec, vc⟩ := hc w (hw w List.mem_cons_self)
      have : turn Γ elt tgt (some cnd) (enc w) (hide σ (tnames tgt ++ locs)) = .ok (if p w then some (g w).toD else none) (τ w) := by
        unfold turn
        rw [hb w]
        show ((evc Γ (some cnd) (τ w)).bind _) = _
        rw [evc, ec]
        simp only [Res.bind, vc]
        cases hp : p w with
        | true =>
          simp only [if_true]
          rw [hk w (hw w List.mem_cons_self) hp]
          rfl
        | false => rfl
      rw [this]
      show (lcGo _ (ws.map enc) (τ w)).bind _ = _
      rw [e2]
      cases p w <;> rfl
  obtain ⟨τ', e, h2⟩ := main vs (fun _ m => m) _ hs
  show (lcGo (fun d τ => turn Γ elt tgt (some cnd) d (hide τ (tnames tgt))) (vs.map enc) (hide σ (tnames tgt ++ locs))).bind _ = _
  rw [e]
  show Res.ok (Opd.c (C.ol _)) (back σ τ' (tnames tgt ++ locs)) = _
  rw [back_eq h2 fun m hm => List.mem_append_left _ hm]
/-! built-ins of lists -/
theorem bls_lst {α : Type} (f : α → Bool) : ∀ l : List α, bls? (l.map fun x => D.bl (f x)) = some (l.map f)
  | [] => rfl
  | x :: l => by rw [List.map_cons, bls?, bls_lst f l]; rfl
theorem ints_lst {α : Type} (f : α → Int) : ∀ l : List α, ints? (l.map fun x => D.int (f x)) = some (l.map f)
  | [] => rfl
  | x :: l => by rw [List.map_cons, ints?, ints_lst f l]; rfl
theorem k_all {α : Type} {f : α → Bool} {l : List α} (h : W Γ σ a (.lst (l.map fun x => .bl (f x)))) : K Γ σ (.bi .all [a]) (.val (.bl (l.all f))) := by
  have := k_bi1 (f := .all) (x := .val (.bl ((l.map f).all id))) h (by simp only [biD, bls_lst, Option.map])
  rw [List.all_map] at this
  exact this
theorem k_any {α : Type} {f : α → Bool} {l : List α} (h : W Γ σ a (.lst (l.map fun x => .bl (f x)))) : K Γ σ (.bi .any [a]) (.val (.bl (l.any f))) := by
  have := k_bi1 (f := .any) (x := .val (.bl ((l.map f).any id))) h (by simp only [biD, bls_lst, Option.map])
  rw [List.any_map] at this
  exact this
theorem k_sum {α : Type} {f : α → Int} {l : List α} (h : W Γ σ a (.lst (l.map fun x => .int (f x)))) : K Γ σ (.bi .sum [a]) (.val (.int (l.map f).sum)) := k_bi1 h (by simp only [biD, ints_lst, Option.map])
end
/-! statements -/
def Ends (r : Res Flow) (Q : Flow → St → Prop) : Prop := ∃ f σ, r = .ok f σ ∧ Q f σ
section
variable {Γ : Ctx} {σ σ1 σ2 : St} {e a b c t it : E} {s : S} {ss body : List S} {Q : Flow → St → Prop} {x y z : C} {d d1 d2 : D} {ds : List D} {p q : Bool}
theorem Ends.mono {r : Res Flow} {Q' : Flow → St → Prop} (h : Ends r Q) (k : ∀ f σ, Q f σ → Q' f σ) : Ends r Q' := by
  obtain ⟨f, σ, e, q⟩ := h
  exact ⟨f, σ, e, k f σ q⟩
theorem e_nil (h : Q .next σ) : Ends (exs Γ [] σ) Q := ⟨.next, σ, by rw [exs], h⟩
theorem e_next (h : ex Γ s σ = .ok .next σ1) (k : Ends (exs Γ ss σ1) Q) : Ends (exs Γ (s :: ss) σ) Q := by rw [exs_next h]; exact k
theorem e_seq (h : Ends (ex Γ s σ) fun f σ1 => match f with
    | .next => Ends (exs Γ ss σ1) Q
    | f => Q f σ1) : Ends (exs Γ (s :: ss) σ) Q := by
  obtain ⟨f, σ1, e1, q1⟩ := h
  cases f with
  | next => rw [exs_next e1]; exact q1
  | brk => exact ⟨.brk, σ1, by rw [exs, e1]; rfl, q1⟩
  | cont => exact ⟨.cont, σ1, by rw [exs, e1]; rfl, q1⟩
  | ret x => exact ⟨.ret x, σ1, by rw [exs, e1]; rfl, q1⟩
theorem e_ret (h : K Γ σ e x) (k : Q (.ret x) σ) : Ends (exs Γ (.ret e :: ss) σ) Q := by
  refine ⟨.ret x, σ, exs_ret ?_, k⟩
  rw [ex, h]; rfl
theorem e_retO {i : Nat} (h : get σ i = some x) (ho : x.ownB = true) (k : Q (.ret x) (put σ i none)) : Ends (exs Γ (.ret (.name i) :: ss) σ) Q := by
  refine ⟨.ret x, put σ i none, exs_ret ?_, k⟩
  rw [ex, ev_own h ho]
  simp only [Res.bind, take, h]
theorem e_set {i : Nat} (h : K Γ σ e x) (hi : i < σ.length) (h0 : i ≠ 0 ∨ x.ownB = false) (k : Ends (exs Γ ss (put σ i (some x))) Q) : Ends (exs Γ (.set i e :: ss) σ) Q :=
  e_next (ex_set h rfl hi h0) k
theorem e_setO {i j : Nat} (h : get σ j = some x) (ho : x.ownB = true) (hi : i < (put σ j none).length) (h0 : i ≠ 0 ∨ x.ownB = false) (k : Ends (exs Γ ss (put (put σ j none) i (some x))) Q) : Ends (exs Γ (.set i (.name j) :: ss) σ) Q :=
  e_next (ex_set (ev_own h ho) (by simp only [take, h]) hi h0) k
theorem e_expr {o : Opd} (h : ev Γ e σ = .ok o σ1) (k : Ends (exs Γ ss σ1) Q) : Ends (exs Γ (.expr e :: ss) σ) Q := e_next (ex_expr h) k
theorem e_exprK (h : K Γ σ e x) (k : Ends (exs Γ ss σ) Q) : Ends (exs Γ (.expr e :: ss) σ) Q := e_next (ex_expr h) k
theorem evc_w (h : W Γ σ t (.bl p)) : evc Γ (some t) σ = .ok p σ := by
  obtain ⟨o1, e1, v1⟩ := h
  rw [evc, e1]
  simp only [Res.bind, v1]
theorem e_no {a : List S} (h : W Γ σ t (.bl p)) (hp : p = false) (k : Ends (exs Γ ss σ) Q) : Ends (exs Γ (.ife t a [] :: ss) σ) Q := by
  subst hp
  exact e_next (ex_no (evc_w h)) k
theorem e_ife {a b : List S} (h : W Γ σ t (.bl p)) (h1 : p = true → Ends (exs Γ a σ) fun f σ1 => match f with
    | .next => Ends (exs Γ ss σ1) Q
    | f => Q f σ1) (h2 : p = false → Ends (exs Γ b σ) fun f σ1 => match f with
    | .next => Ends (exs Γ ss σ1) Q
    | f => Q f σ1) : Ends (exs Γ (.ife t a b :: ss) σ) Q := by
  refine e_seq ?_
  rw [ex_ife (evc_w h)]
  cases p with
  | true => rw [if_pos rfl]; exact h1 rfl
  | false => rw [if_neg Bool.false_ne_true]; exact h2 rfl
theorem e_forS {locs : List Nat} (P : Nat → St → Prop) (hI : evI Γ it σ = .ok (ds, locs) σ1) (h0 : P 0 (still σ1 locs)) (h : ∀ i d σ, ds[i]? = some d → P i σ → ∃ σ1, bindT t d σ = some σ1 ∧ Ends (exs Γ body σ1) fun f σ2 => match f with
    | .next => P (i + 1) σ2
    | .cont => P (i + 1) σ2
    | .brk => Ends (exs Γ ss σ2) Q
    | .ret x => Q (.ret x) σ2)
    (k : ∀ σ', P ds.length σ' → Ends (exs Γ ss σ') Q) : Ends (exs Γ (.for_ t it body :: ss) σ) Q := by
  refine e_seq ?_
  rw [ex_for hI]
  generalize still σ1 locs = τ at h0
  have main : ∀ (n : Nat) (es : List D) (j : Nat) (τ : St), es.length = n → ds.drop j = es → j + n = ds.length → P j τ → Ends (forGo t (exs Γ body) es τ) fun f σ1 => match f with
    | .next => Ends (exs Γ ss σ1) Q
    | f => Q f σ1 := by
    intro n
    induction n with
    | zero =>
      intro es j τ hes hd hj hp
      have : es = [] := List.length_eq_zero_iff.mp hes
      subst this
      refine ⟨.next, τ, rfl, k τ ?_⟩
      rw [← hj]
      exact hp
    | succ n ih =>
      intro es j τ hes hd hj hp
      match es, hes with
      | d :: es, hes =>
        have e0 : ds[j]? = some d := by
          have : (ds.drop j)[0]? = some d := by rw [hd]; rfl
          rw [List.getElem?_drop] at this
          exact this
        obtain ⟨σ1, b1, f, σ2, e2, q2⟩ := h j d τ e0 hp
        have hd2 : ds.drop (j + 1) = es := by
          rw [← List.drop_drop, hd]
          rfl
        cases f with
        | next =>
          obtain ⟨f3, σ3, e3, q3⟩ := ih es (j + 1) σ2 (by simpa using hes) hd2 (by omega) q2
          refine ⟨f3, σ3, ?_, q3⟩
          rw [forGo, b1]
          simp only
          rw [e2]
          exact e3
        | cont =>
          obtain ⟨f3, σ3, e3, q3⟩ := ih es (j + 1) σ2 (by simpa using hes) hd2 (by omega) q2
          refine ⟨f3, σ3, ?_, q3⟩
          rw [forGo, b1]
          simp only
          rw [e2]
          exact e3
        | brk =>
          refine ⟨.next, σ2, ?_, q2⟩
          rw [forGo, b1]
          simp only
          rw [e2]
          rfl
        | ret x =>
          refine ⟨.ret x, σ2, ?_, q2⟩
          rw [forGo, b1]
          simp only
          rw [e2]
          rfl
  exact main ds.length ds 0 τ rfl rfl (by omega) h0
theorem e_for {locs : List Nat} (P : Nat → St → Prop) (hI : I Γ σ it ds locs) (h0 : P 0 (still σ locs)) (h : ∀ i d σ, ds[i]? = some d → P i σ → ∃ σ1, bindT t d σ = some σ1 ∧ Ends (exs Γ body σ1) fun f σ2 => match f with
    | .next => P (i + 1) σ2
    | .cont => P (i + 1) σ2
    | .brk => Ends (exs Γ ss σ2) Q
    | .ret x => Q (.ret x) σ2)
    (k : ∀ σ', P ds.length σ' → Ends (exs Γ ss σ') Q) : Ends (exs Γ (.for_ t it body :: ss) σ) Q := e_forS P hI h0 h k
theorem ev_append {i : Nat} {ds es : List D} (h : get σ i = some (.ol ds)) (he : ev Γ e σ = .ok (.c x) σ1) (h1 : get σ1 i = some (.ol es)) (hl : es.length < 1000000) : ev Γ (.me .append (.name i) [e]) σ = .ok (.c (.val .non)) (put σ1 i (some (.ol (es ++ [x.toD])))) := by
  rw [ev, ev_own h rfl]
  simp only [Res.bind, vw, h, Option.map, C.toD, meTy, if_true]
  rw [evs_1 he]
  simp only [Res.bind, me1, frz, h1]
  rw [if_pos hl]
  rfl
theorem ev_extend {i : Nat} {ds es : List D} (h : get σ i = some (.ol ds)) (he : W Γ σ e (.lst es)) (hl : ds.length + es.length ≤ 1000000) : ev Γ (.me .extend (.name i) [e]) σ = .ok (.c (.val .non)) (put σ i (some (.ol (ds ++ es)))) := by
  obtain ⟨o, e1, v1⟩ := he
  rw [ev, ev_own h rfl]
  simp only [Res.bind, vw, h, Option.map, C.toD, meTy, if_true]
  rw [evs_1 e1]
  simp only [Res.bind, me1, v1, h]
  rw [if_pos hl]
theorem e_asg2 {i j : Nat} (h : K Γ σ e (.val (.tup [d1, d2]))) (hi : i < σ.length) (hj : j < σ.length) (k : Ends (exs Γ ss (put (put σ i (some (.val d1))) j (some (.val d2)))) Q) : Ends (exs Γ (.asg (.tup [.name i, .name j]) e :: ss) σ) Q := by
  refine e_next ?_ k
  rw [ex, h]
  simp only [Res.bind, frz, C.toD, asgD, asgDs]
  rw [if_pos hi]
  simp only
  rw [if_pos (by rw [p_len]; exact hj)]
theorem e_asg3 {i j l : Nat} {d3 : D} (h : K Γ σ e (.val (.tup [d1, d2, d3]))) (hi : i < σ.length) (hj : j < σ.length) (hk : l < σ.length) (k : Ends (exs Γ ss (put (put (put σ i (some (.val d1))) j (some (.val d2))) l (some (.val d3)))) Q) : Ends (exs Γ (.asg (.tup [.name i, .name j, .name l]) e :: ss) σ) Q := by
  refine e_next ?_ k
  rw [ex, h]
  simp only [Res.bind, frz, C.toD, asgD, asgDs]
  rw [if_pos hi]
  simp only
  rw [if_pos (by rw [p_len]; exact hj)]
  simp only
  rw [if_pos (by rw [p_len, p_len]; exact hk)]
/-- a whole def that hands back x -/
theorem run_of {n : Nat} {b : List S} {xs : List C} (h : Ends (exs Γ b (CL.start n xs)) fun f _ => f = .ret x) : endF false (exs Γ b (CL.start n xs)) = .ok x none := by
  obtain ⟨f, σ, e, q⟩ := h
  subst q
  rw [e]; rfl
theorem run_nx {n : Nat} {b : List S} {xs : List C} (h : Ends (exs Γ b (CL.start n xs)) fun f _ => f = .next) : endF false (exs Γ b (CL.start n xs)) = .ok (.val .non) none := by
  obtain ⟨f, σ, e, q⟩ := h
  subst q
  rw [e]; rfl
/-- a call that changes its first argument, a thing of the caller's own -/
theorem ev_io {f j : Nat} {es : List E} {F : Fun} {o o' r : C} {xs : List C} (hf : Γ.fn f = some F) (hl : F.ar = es.length + 1) (hio : F.io = true) (ho : get σ j = some o) (hb : o.ownB = true) (h : Ks Γ σ es xs) (hln : xs.length = es.length) (hr : F.run (o :: xs.map fun x => .val x.toD) = .ok r (some o')) :
    ev Γ (.call f (.name j :: es)) σ = .ok (.c r) (put σ j (some o')) := by
  rw [ev, evs_c (ev_own ho hb) h]
  show (match Γ.fn f with
    | some F => call1 F (.loc j :: xs.map Opd.c) σ
    | none => .no) = _
  rw [hf]
  simp only [call1]
  rw [if_pos (by rw [hl, List.length_cons, List.length_map, hln]), hio]
  simp only [io1, frzs_c, ho, hb, if_true]
  rw [List.map_map]
  show (match F.run (o :: xs.map fun x => .val x.toD) with
    | .ok r (some y) => Res.ok (Opd.c r) (put σ j (some y))
    | .exc e (some y) => .exc e (put σ j (some y))
    | _ => .no) = _
  rw [hr]
/-- .. when it is the second operand of an operator -/
theorem ev_binr {op : Bop} {x' : C} (h1 : K Γ σ a x) (h2 : ev Γ b σ = .ok (.c y) σ1) (hb : binD op x.toD y.toD = some x') : ev Γ (.bin op a b) σ = .ok (.c x') σ1 := ev_bin h1 h2 rfl rfl hb
theorem e_setV {i : Nat} (h : ev Γ e σ = .ok (.c x) σ1) (hi : i < σ1.length) (h0 : i ≠ 0 ∨ x.ownB = false) (k : Ends (exs Γ ss (put σ1 i (some x))) Q) : Ends (exs Γ (.set i e :: ss) σ) Q :=
  e_next (ex_set h rfl hi h0) k
end
end CL.Pl

set_option autoImplicit false
set_option linter.all false
set_option Elab.async false
set_option maxRecDepth 100000
/-! CLWd: rules for dicts, sorted, isinstance, zip. -/
namespace CL.Pl
section
variable {Γ : Ctx} {σ σ1 σ2 : St} {e a b c : E} {es : List E} {x y z : C} {d d1 d2 : D} {ds xs ys : List D} {i j k : Int} {p q t : Bool} {kvs : List (D × D)}
theorem k_isi {tys : List Ty} (h : W Γ σ a d) (ok : isiOk d = true) : K Γ σ (.isi a tys) (.val (.bl (tys.any (isiD d)))) := by
  obtain ⟨o1, e1, v1⟩ := h
  unfold K
  rw [CL.ev, e1]
  simp only [Res.bind, v1, ok, if_true]
theorem k_lenD (h : W Γ σ a (.dct t kvs)) : K Γ σ (.bi .len [a]) (.val (.int kvs.length)) := k_bi1 h rfl
theorem k_listD (h : W Γ σ a (.dct t kvs)) : K Γ σ (.bi .list [a]) (.ol (kvs.map (·.1))) := k_bi1 h rfl
theorem k_subD (h : W Γ σ a (.dct t kvs)) (h2 : W Γ σ b d1) (hk : keyOk t d1 = true) (hb : dget kvs d1 = some d) : K Γ σ (.sub a b) (.val d) := by
  obtain ⟨o1, e1, v1⟩ := h
  obtain ⟨o2, e2, v2⟩ := h2
  unfold K
  rw [CL.ev, e1]
  simp only [Res.bind]
  rw [e2]
  simp only [Res.bind, v1, v2, hk, if_true, hb]
  rfl
theorem k_sortL (h : W Γ σ a (.lst ds)) (hs : sortV ds = some ys) : K Γ σ (.bi .sorted [a]) (.ol ys) := k_bi1 h (by simp only [biD, hs, Option.map])
theorem k_sortD (h : W Γ σ a (.dct t kvs)) (hl : kvs.length < 64) (hs : sortV (kvs.map (·.1)) = some ys) : K Γ σ (.bi .sorted [a]) (.ol ys) := k_bi1 h (by simp only [biD]; rw [if_pos hl, hs]; rfl)
theorem k_isetL (h : W Γ σ a (.lst ds)) (hs : isetD ds = some ys) : K Γ σ (.bi .iset [a]) (.ol ys) := k_bi1 h (by simp only [biD, hs, Option.map])
theorem k_min2 (h1 : W Γ σ a (.int i)) (h2 : W Γ σ b (.int j)) : K Γ σ (.bi .min2 [a, b]) (.val (.int (min i j))) := k_bi2 h1 h2 (by
  show some (C.val (.int (if j < i then j else i))) = _
  congr 3
  split <;> omega)
theorem i_itdV {n : Nat} (h : get σ n = some (.val (.dct t kvs))) : I Γ σ (.itd n) (kvs.map (·.1)) [] := by
  have hs : still σ [n] = σ := by
    show put σ n ((get σ n).map fun x => .val x.toD) = σ
    rw [h]
    refine g_ext (p_len _ _ _) fun j => ?_
    by_cases e : j = n
    · subst e
      by_cases hl : j < σ.length
      · rw [gp_same hl, h]; rfl
      · rw [g_out (by omega)] at h; cases h
    · rw [gp_ne e]
  unfold I
  rw [evI, h]
  simp only [C.toD]
  rw [hs]
theorem evI_itd {n : Nat} (h : get σ n = some (.od t kvs)) : evI Γ (.itd n) σ = .ok (kvs.map (·.1), []) (put σ n (some (.val (.dct t kvs)))) := by
  rw [evI, h]
  simp only [C.toD]
  show Res.ok _ (put σ n ((get σ n).map fun x => .val x.toD)) = _
  rw [h]
  rfl
theorem i_zipK (h1 : K Γ σ a x) (h2 : K Γ σ b y) (hx : seq? x.toD = some xs) (hy : seq? y.toD = some ys) : I Γ σ (.zip [a, b]) (zip2 xs ys) [] := by
  unfold I K at *
  rw [evI, evs_2 h1 h2]
  simp only [Res.bind, vws, vw, Option.bind, Option.map, hx, hy]
  rfl
/-- o[k] = v, o a dict of one's own -/
theorem e_dput {n : Nat} {ss : List S} {Q : Flow → St → Prop} {v kx : C} {ve ke : E} {y : C} (hv : ev Γ ve σ = .ok (.c v) σ1) (hi : get σ1 n = some y) (hk : ev Γ ke σ1 = .ok (.c kx) σ2) (h2 : get σ2 n = some (.od t kvs)) (ok : keyOk t kx.toD = true) (hl : kvs.length < 1000000)
    (k : Ends (exs Γ ss (put σ2 n (some (.od t (dput kvs kx.toD v.toD))))) Q) : Ends (exs Γ (.asg (.sub (.name n) ke) ve :: ss) σ) Q := by
  refine e_next ?_ k
  rw [ex, hv]
  simp only [Res.bind, frz, asgD, hi]
  rw [hk]
  simp only [Res.bind, vw, setAt, h2, ok, Bool.true_and, decide_eq_true hl, if_true]
theorem k_sliceT {l h : Option Int} {lo hi : Option E} (h1 : W Γ σ a (.tup ds)) (hlo : evo Γ lo σ = .ok l σ) (hhi : evo Γ hi σ = .ok h σ) : K Γ σ (.slice a lo hi) (.val (.tup (cut ds l h))) := by
  obtain ⟨o1, e1, v1⟩ := h1
  unfold K
  rw [CL.ev, e1]
  simp only [Res.bind]
  rw [hlo]
  simp only [Res.bind]
  rw [hhi]
  simp only [Res.bind, v1]
end
/-! rows of ints -/
theorem isInts_nat : ∀ l : List Nat, (l.map fun (n : Nat) => D.int (n : Nat)).all isInt = true
  | [] => rfl
  | n :: l => by rw [List.map_cons, List.all_cons, isInts_nat l]; rfl
end CL.Pl

set_option autoImplicit false
set_option linter.all false
set_option Elab.async false
set_option maxRecDepth 100000
set_option maxHeartbeats 1000000
namespace CL
/-! ### own syntax -/
/-- _law_hand(script): 0 script 1 cells 2 cell -/
def b__law_hand : List S := [.set 1 (.lc (.bi .abs [.bi .int [.name 2]]) (.name 2) (.it (.slice (.name 0) none (some (.int 63)))) none), .ret (.lst [.name 1, .int 0, .int 0, .bin .add (.int 83) (.bin .mul (.int 5) (.bi .len [.name 1])), .int 0])]
def G__law_hand : Ctx := { fn := fun _ => none, cls := fun _ => none, cst := fun _ => none, fuel := 1000000 }
def F__law_hand : Fun := ⟨1, false, runF G__law_hand false 3 b__law_hand⟩
theorem R__law_hand (xs : List C) : F__law_hand.run xs = endF false (exs G__law_hand b__law_hand (CL.start 3 xs)) := rfl
theorem A__law_hand : F__law_hand.ar = 1 := rfl
theorem I__law_hand : F__law_hand.io = false := rfl
/-- _law_draw(hand, many): 0 hand 1 many 2 cell 3 digit 4 number -/
def b__law_draw : List S := [.ife (.and_ (.cmp .eq (.sub (.name 0) (.int 2)) (.int 0)) (.cmp .lt (.sub (.name 0) (.int 1)) (.bi .len [.sub (.name 0) (.int 0)]))) [.set 2 (.sub (.sub (.name 0) (.int 0)) (.sub (.name 0) (.int 1))), .asg (.sub (.name 0) (.int 1)) (.bin .add (.sub (.name 0) (.int 1)) (.int 1)), .asg (.sub (.name 0) (.int 3)) (.bin .mod (.bi .int [.bin .add (.bin .add (.bin .mul (.sub (.name 0) (.int 3)) (.int 48271)) (.bin .mul (.name 2) (.int 5))) (.int 29)]) (.int 2147483587)), .asg (.sub (.name 0) (.int 2)) (.ife (.cmp .ge (.name 2) (.bin .pow (.int 10) (.int 18))) (.name 2) (.int 0))] [], .ife (.cmp .gt (.sub (.name 0) (.int 2)) (.int 0)) [.set 3 (.bin .mod (.bi .int [.sub (.name 0) (.int 2)]) (.name 1)), .asg (.sub (.name 0) (.int 2)) (.bin .fdiv (.sub (.name 0) (.int 2)) (.name 1)), .ret (.name 3)] [], .asg (.sub (.name 0) (.int 4)) (.bin .add (.sub (.name 0) (.int 4)) (.int 1)), .set 4 (.bin .mod (.bi .int [.bin .mul (.bi .int [.bin .add (.sub (.name 0) (.int 3)) (.bin .mul (.int 7877) (.sub (.name 0) (.int 4)))]) (.int 69621)]) (.int 2147483647)), .set 4 (.bin .mod (.bi .int [.bin .mul (.name 4) (.bin .add (.bin .fdiv (.name 4) (.int 1103)) (.int 40692))]) (.int 2147483399)), .set 4 (.bin .mod (.bi .int [.bin .mul (.name 4) (.bin .add (.bin .fdiv (.name 4) (.int 2311)) (.int 48271))]) (.int 2147483629)), .ret (.bin .mod (.bi .int [.bin .fdiv (.name 4) (.int 16)]) (.name 1))]
def G__law_draw : Ctx := { fn := fun _ => none, cls := fun _ => none, cst := fun _ => none, fuel := 1000000 }
def F__law_draw : Fun := ⟨2, true, runF G__law_draw true 5 b__law_draw⟩
theorem R__law_draw (xs : List C) : F__law_draw.run xs = endF true (exs G__law_draw b__law_draw (CL.start 5 xs)) := rfl
theorem A__law_draw : F__law_draw.ar = 2 := rfl
theorem I__law_draw : F__law_draw.io = true := rfl
/-- _law_some(hand, things): 0 hand 1 things -/
def b__law_some : List S := [.ret (.sub (.name 1) (.call 17 [.name 0, .bi .len [.name 1]]))]
def G__law_some : Ctx := { fn := fun | 17 => some F__law_draw | _ => none, cls := fun _ => none, cst := fun _ => none, fuel := 1000000 }
def F__law_some : Fun := ⟨2, true, runF G__law_some true 2 b__law_some⟩
theorem R__law_some (xs : List C) : F__law_some.run xs = endF true (exs G__law_some b__law_some (CL.start 2 xs)) := rfl
theorem A__law_some : F__law_some.ar = 2 := rfl
theorem I__law_some : F__law_some.io = true := rfl
/-- is_row(thing): 0 thing -/
def b_is_row : List S := [.ret (.isi (.name 0) [.list, .tuple])]
def G_is_row : Ctx := { fn := fun _ => none, cls := fun _ => none, cst := fun _ => none, fuel := 1000000 }
def F_is_row : Fun := ⟨1, false, runF G_is_row false 1 b_is_row⟩
theorem R_is_row (xs : List C) : F_is_row.run xs = endF false (exs G_is_row b_is_row (CL.start 1 xs)) := rfl
theorem A_is_row : F_is_row.ar = 1 := rfl
theorem I_is_row : F_is_row.io = false := rfl
/-- is_integer(thing): 0 thing -/
def b_is_integer : List S := [.ret (.and_ (.isi (.name 0) [.int]) (.not_ (.isi (.name 0) [.bool])))]
def G_is_integer : Ctx := { fn := fun _ => none, cls := fun _ => none, cst := fun _ => none, fuel := 1000000 }
def F_is_integer : Fun := ⟨1, false, runF G_is_integer false 1 b_is_integer⟩
theorem R_is_integer (xs : List C) : F_is_integer.run xs = endF false (exs G_is_integer b_is_integer (CL.start 1 xs)) := rfl
theorem A_is_integer : F_is_integer.ar = 1 := rfl
theorem I_is_integer : F_is_integer.io = false := rfl
/-- is_within(thing, low, high): 0 thing 1 low 2 high -/
def b_is_within : List S := [.ret (.and_ (.call 0 [.name 0]) (.chain .le .le (.name 1) (.name 0) (.name 2)))]
def G_is_within : Ctx := { fn := fun | 0 => some F_is_integer | _ => none, cls := fun _ => none, cst := fun _ => none, fuel := 1000000 }
def F_is_within : Fun := ⟨3, false, runF G_is_within false 3 b_is_within⟩
theorem R_is_within (xs : List C) : F_is_within.run xs = endF false (exs G_is_within b_is_within (CL.start 3 xs)) := rfl
theorem A_is_within : F_is_within.ar = 3 := rfl
theorem I_is_within : F_is_within.io = false := rfl
/-- Group(self, rounds): 0 self 1 rounds 2 one 3 size -/
def b_init_Group : List S := [.ife (.or_ (.not_ (.call 2 [.name 1])) (.not_ (.chain .le .le (.int 1) (.bi .len [.name 1]) (.glob 3)))) [.raise 0 []] [], .ife (.not_ (.bi .all [.lc (.call 3 [.name 2, .int 1, .glob 4]) (.name 2) (.it (.name 1)) none])) [.raise 0 []] [], .set 3 (.int 1), .for_ (.name 2) (.it (.name 1)) [.set 3 (.bin .mul (.name 3) (.name 2))], .ife (.cmp .gt (.name 3) (.glob 4)) [.raise 0 []] [], .asg (.tup [.attr (.name 0) 0, .attr (.name 0) 1]) (.tup [.bi .tuple [.name 1], .name 3])]
def G_init_Group : Ctx := { fn := fun | 2 => some F_is_row | 3 => some F_is_within | _ => none, cls := fun _ => none, cst := fun | 3 => some (.int 6) | 4 => some (.int 64) | _ => none, fuel := 1000000 }
def F_init_Group : Fun := ⟨2, true, runF G_init_Group true 4 b_init_Group⟩
theorem R_init_Group (xs : List C) : F_init_Group.run xs = endF true (exs G_init_Group b_init_Group (CL.start 4 xs)) := rfl
theorem A_init_Group : F_init_Group.ar = 2 := rfl
theorem I_init_Group : F_init_Group.io = true := rfl
/-- is_element(group, thing): 0 group 1 thing 2 one 3 number -/
def b_is_element : List S := [.ife (.or_ (.not_ (.isi (.name 1) [.tuple])) (.cmp .ne (.bi .len [.name 1]) (.bi .len [.attr (.name 0) 0]))) [.ret (.bl false)] [], .ret (.bi .all [.lc (.call 3 [.name 2, .int 0, .bin .sub (.name 3) (.int 1)]) (.tup [.name 2, .name 3]) (.zip [.name 1, .attr (.name 0) 0]) none])]
def G_is_element : Ctx := { fn := fun | 3 => some F_is_within | _ => none, cls := fun _ => none, cst := fun _ => none, fuel := 1000000 }
def F_is_element : Fun := ⟨2, false, runF G_is_element false 4 b_is_element⟩
theorem R_is_element (xs : List C) : F_is_element.run xs = endF false (exs G_is_element b_is_element (CL.start 4 xs)) := rfl
theorem A_is_element : F_is_element.ar = 2 := rfl
theorem I_is_element : F_is_element.io = false := rfl
/-- is_lot(group, thing): 0 group 1 thing 2 one 3 other -/
def b_is_lot : List S := [.ife (.or_ (.not_ (.isi (.name 1) [.tuple])) (.not_ (.bi .all [.lc (.call 10 [.name 0, .name 2]) (.name 2) (.it (.name 1)) none]))) [.ret (.bl false)] [], .ret (.bi .all [.lc (.cmp .lt (.name 2) (.name 3)) (.tup [.name 2, .name 3]) (.zip [.name 1, .slice (.name 1) (some (.int 1)) none]) none])]
def G_is_lot : Ctx := { fn := fun | 10 => some F_is_element | _ => none, cls := fun _ => none, cst := fun _ => none, fuel := 1000000 }
def F_is_lot : Fun := ⟨2, false, runF G_is_lot false 4 b_is_lot⟩
theorem R_is_lot (xs : List C) : F_is_lot.run xs = endF false (exs G_is_lot b_is_lot (CL.start 4 xs)) := rfl
theorem A_is_lot : F_is_lot.ar = 2 := rfl
theorem I_is_lot : F_is_lot.io = false := rfl
/-- check_lot(group, lot): 0 group 1 lot -/
def b_check_lot : List S := [.ife (.not_ (.call 28 [.name 0, .name 1])) [.raise 0 []] []]
def G_check_lot : Ctx := { fn := fun | 28 => some F_is_lot | _ => none, cls := fun _ => none, cst := fun _ => none, fuel := 1000000 }
def F_check_lot : Fun := ⟨2, false, runF G_check_lot false 2 b_check_lot⟩
theorem R_check_lot (xs : List C) : F_check_lot.run xs = endF false (exs G_check_lot b_check_lot (CL.start 2 xs)) := rfl
theorem A_check_lot : F_check_lot.ar = 2 := rfl
theorem I_check_lot : F_check_lot.io = false := rfl
/-- add(group, one, other): 0 group 1 one 2 other 3 mine 4 its 5 number -/
def b_add : List S := [.ret (.bi .tuple [.lc (.bin .mod (.bi .int [.bin .add (.name 3) (.name 4)]) (.name 5)) (.tup [.name 3, .name 4, .name 5]) (.zip [.name 1, .name 2, .attr (.name 0) 0]) none])]
def G_add : Ctx := { fn := fun _ => none, cls := fun _ => none, cst := fun _ => none, fuel := 1000000 }
def F_add : Fun := ⟨3, false, runF G_add false 6 b_add⟩
theorem R_add (xs : List C) : F_add.run xs = endF false (exs G_add b_add (CL.start 6 xs)) := rfl
theorem A_add : F_add.ar = 3 := rfl
theorem I_add : F_add.io = false := rfl
/-- sums(group, one, other): 0 group 1 one 2 other 3 found 4 mine 5 its -/
def b_sums : List S := [.expr (.call 43 [.name 0, .name 1]), .expr (.call 43 [.name 0, .name 2]), .set 3 (.dic0 true), .for_ (.name 4) (.it (.name 1)) [.for_ (.name 5) (.it (.name 2)) [.asg (.sub (.name 3) (.call 42 [.name 0, .name 4, .name 5])) (.bl true)]], .ret (.bi .tuple [.bi .sorted [.name 3]])]
def G_sums : Ctx := { fn := fun | 43 => some F_check_lot | 42 => some F_add | _ => none, cls := fun _ => none, cst := fun _ => none, fuel := 1000000 }
def F_sums : Fun := ⟨3, false, runF G_sums false 6 b_sums⟩
theorem R_sums (xs : List C) : F_sums.run xs = endF false (exs G_sums b_sums (CL.start 6 xs)) := rfl
theorem A_sums : F_sums.ar = 3 := rfl
theorem I_sums : F_sums.io = false := rfl
/-- _law_rests(hand, prime): 0 hand 1 prime 2 found 3 one -/
def b__law_rests : List S := [.set 2 (.lc (.name 3) (.name 3) (.rng [.name 1]) (some (.cmp .eq (.call 17 [.name 0, .int 2]) (.int 0)))), .ret (.ife (.cmp .gt (.bi .len [.name 2]) (.int 0)) (.bi .tuple [.name 2]) (.tup [.call 17 [.name 0, .name 1]]))]
def G__law_rests : Ctx := { fn := fun | 17 => some F__law_draw | _ => none, cls := fun _ => none, cst := fun _ => none, fuel := 1000000 }
def F__law_rests : Fun := ⟨2, true, runF G__law_rests true 4 b__law_rests⟩
theorem R__law_rests (xs : List C) : F__law_rests.run xs = endF true (exs G__law_rests b__law_rests (CL.start 4 xs)) := rfl
theorem A__law_rests : F__law_rests.ar = 2 := rfl
theorem I__law_rests : F__law_rests.io = true := rfl
/-- _law_value(prime, items, point): 0 prime 1 items 2 point 3 total_now 4 powers 5 number 6 base 7 power_now 8 again -/
def b__law_value : List S := [.set 3 (.int 0), .for_ (.name 4) (.it (.bi .sorted [.name 1])) [.set 5 (.sub (.name 1) (.name 4)), .for_ (.tup [.name 6, .name 7]) (.zip [.name 2, .name 4]) [.for_ (.name 8) (.rng [.name 7]) [.set 5 (.bin .mod (.bi .int [.bin .mul (.name 5) (.name 6)]) (.name 0))]], .set 3 (.bin .add (.name 3) (.name 5))], .ret (.bin .mod (.bi .int [.name 3]) (.name 0))]
def G__law_value : Ctx := { fn := fun _ => none, cls := fun _ => none, cst := fun _ => none, fuel := 1000000 }
def F__law_value : Fun := ⟨3, false, runF G__law_value false 9 b__law_value⟩
theorem R__law_value (xs : List C) : F__law_value.run xs = endF false (exs G__law_value b__law_value (CL.start 9 xs)) := rfl
theorem A__law_value : F__law_value.ar = 3 := rfl
theorem I__law_value : F__law_value.io = false := rfl
/-- check_two(group, one, other): 0 group 1 one 2 other -/
def b_check_two : List S := [.expr (.call 43 [.name 0, .name 1]), .expr (.call 43 [.name 0, .name 2]), .ife (.or_ (.cmp .eq (.name 1) (.tup [])) (.cmp .eq (.name 2) (.tup []))) [.raise 0 []] []]
def G_check_two : Ctx := { fn := fun | 43 => some F_check_lot | _ => none, cls := fun _ => none, cst := fun _ => none, fuel := 1000000 }
def F_check_two : Fun := ⟨3, false, runF G_check_two false 3 b_check_two⟩
theorem R_check_two (xs : List C) : F_check_two.run xs = endF false (exs G_check_two b_check_two (CL.start 3 xs)) := rfl
theorem A_check_two : F_check_two.ar = 3 := rfl
theorem I_check_two : F_check_two.io = false := rfl
/-- part_sizes(group): 0 group 1 size -/
def b_part_sizes : List S := [.ret (.lc (.name 1) (.name 1) (.rng [.int 1, .bin .add (.attr (.name 0) 1) (.int 1)]) (some (.cmp .eq (.bin .mod (.bi .int [.attr (.name 0) 1]) (.name 1)) (.int 0))))]
def G_part_sizes : Ctx := { fn := fun _ => none, cls := fun _ => none, cst := fun _ => none, fuel := 1000000 }
def F_part_sizes : Fun := ⟨1, false, runF G_part_sizes false 2 b_part_sizes⟩
theorem R_part_sizes (xs : List C) : F_part_sizes.run xs = endF false (exs G_part_sizes b_part_sizes (CL.start 2 xs)) := rfl
theorem A_part_sizes : F_part_sizes.ar = 1 := rfl
theorem I_part_sizes : F_part_sizes.io = false := rfl
/-- least_sums(group, one, other): 0 group 1 one 2 other 3 best 4 size 5 here -/
def b_least_sums : List S := [.expr (.call 46 [.name 0, .name 1, .name 2]), .set 3 (.non), .for_ (.name 4) (.it (.call 49 [.name 0])) [.set 5 (.bin .mul (.name 4) (.bin .sub (.bin .add (.neg (.bin .fdiv (.neg (.bi .len [.name 1])) (.name 4))) (.neg (.bin .fdiv (.neg (.bi .len [.name 2])) (.name 4)))) (.int 1))), .set 3 (.ife (.or_ (.isN (.name 3) false) (.cmp .lt (.name 5) (.name 3))) (.name 5) (.name 3))], .ret (.name 3)]
def G_least_sums : Ctx := { fn := fun | 46 => some F_check_two | 49 => some F_part_sizes | _ => none, cls := fun _ => none, cst := fun _ => none, fuel := 1000000 }
def F_least_sums : Fun := ⟨3, false, runF G_least_sums false 6 b_least_sums⟩
theorem R_least_sums (xs : List C) : F_least_sums.run xs = endF false (exs G_least_sums b_least_sums (CL.start 6 xs)) := rfl
theorem A_least_sums : F_least_sums.ar = 3 := rfl
theorem I_least_sums : F_least_sums.io = false := rfl
/-- check_number(thing, low, high): 0 thing 1 low 2 high -/
def b_check_number : List S := [.ife (.not_ (.call 3 [.name 0, .name 1, .name 2])) [.raise 0 []] []]
def G_check_number : Ctx := { fn := fun | 3 => some F_is_within | _ => none, cls := fun _ => none, cst := fun _ => none, fuel := 1000000 }
def F_check_number : Fun := ⟨3, false, runF G_check_number false 3 b_check_number⟩
theorem R_check_number (xs : List C) : F_check_number.run xs = endF false (exs G_check_number b_check_number (CL.start 3 xs)) := rfl
theorem A_check_number : F_check_number.ar = 3 := rfl
theorem I_check_number : F_check_number.io = false := rfl
/-- prime_powers(number): 0 number 1 found 2 left 3 one 4 power -/
def b_prime_powers : List S := [.expr (.call 24 [.name 0, .int 1, .bin .pow (.int 10) (.int 6)]), .par [1, 2, 3] [.lst [], .name 0, .int 2], .while_ (.cmp .gt (.name 2) (.int 1)) [.ife (.cmp .gt (.bin .mul (.name 3) (.name 3)) (.name 2)) [.set 3 (.name 2)] [], .set 4 (.int 0), .while_ (.cmp .eq (.bin .mod (.bi .int [.name 2]) (.name 3)) (.int 0)) [.par [2, 4] [.bin .fdiv (.name 2) (.name 3), .bin .add (.name 4) (.int 1)]], .expr (.me .extend (.name 1) [.ife (.cmp .gt (.name 4) (.int 0)) (.lst [.tup [.name 3, .name 4]]) (.lst [])]), .aug 3 .add (.int 1)], .ret (.bi .tuple [.name 1])]
def G_prime_powers : Ctx := { fn := fun | 24 => some F_check_number | _ => none, cls := fun _ => none, cst := fun _ => none, fuel := 1000000 }
def F_prime_powers : Fun := ⟨1, false, runF G_prime_powers false 5 b_prime_powers⟩
theorem R_prime_powers (xs : List C) : F_prime_powers.run xs = endF false (exs G_prime_powers b_prime_powers (CL.start 5 xs)) := rfl
theorem A_prime_powers : F_prime_powers.ar = 1 := rfl
theorem I_prime_powers : F_prime_powers.io = false := rfl
/-- is_prime(number): 0 number -/
def b_is_prime : List S := [.ife (.not_ (.call 3 [.name 0, .int 2, .bin .pow (.int 10) (.int 6)])) [.ret (.bl false)] [], .ret (.cmp .eq (.call 25 [.name 0]) (.tup [.tup [.name 0, .int 1]]))]
def G_is_prime : Ctx := { fn := fun | 3 => some F_is_within | 25 => some F_prime_powers | _ => none, cls := fun _ => none, cst := fun _ => none, fuel := 1000000 }
def F_is_prime : Fun := ⟨1, false, runF G_is_prime false 1 b_is_prime⟩
theorem R_is_prime (xs : List C) : F_is_prime.run xs = endF false (exs G_is_prime b_is_prime (CL.start 1 xs)) := rfl
theorem A_is_prime : F_is_prime.ar = 1 := rfl
theorem I_is_prime : F_is_prime.io = false := rfl
/-- check_prime(prime): 0 prime -/
def b_check_prime : List S := [.ife (.or_ (.not_ (.call 30 [.name 0])) (.cmp .ge (.name 0) (.glob 22))) [.raise 0 []] []]
def G_check_prime : Ctx := { fn := fun | 30 => some F_is_prime | _ => none, cls := fun _ => none, cst := fun | 22 => some (.int 50) | _ => none, fuel := 1000000 }
def F_check_prime : Fun := ⟨1, false, runF G_check_prime false 1 b_check_prime⟩
theorem R_check_prime (xs : List C) : F_check_prime.run xs = endF false (exs G_check_prime b_check_prime (CL.start 1 xs)) := rfl
theorem A_check_prime : F_check_prime.ar = 1 := rfl
theorem I_check_prime : F_check_prime.io = false := rfl
/-- is_sum(letters, thing): 0 letters 1 thing 2 powers 3 one -/
def b_is_sum : List S := [.ife (.or_ (.not_ (.isi (.name 1) [.dict])) (.or_ (.cmp .gt (.bi .len [.name 1]) (.glob 24)) (.not_ (.call 3 [.name 0, .int 1, .glob 23])))) [.ret (.bl false)] [], .for_ (.name 2) (.itd 1) [.ife (.or_ (.not_ (.isi (.name 2) [.tuple])) (.or_ (.cmp .ne (.bi .len [.name 2]) (.name 0)) (.not_ (.call 0 [.sub (.name 1) (.name 2)])))) [.ret (.bl false)] [], .ife (.not_ (.bi .all [.lc (.call 3 [.name 3, .int 0, .int 60]) (.name 3) (.it (.name 2)) none])) [.ret (.bl false)] []], .ret (.bl true)]
def G_is_sum : Ctx := { fn := fun | 3 => some F_is_within | 0 => some F_is_integer | _ => none, cls := fun _ => none, cst := fun | 23 => some (.int 4) | 24 => some (.int 60) | _ => none, fuel := 1000000 }
def F_is_sum : Fun := ⟨2, false, runF G_is_sum false 4 b_is_sum⟩
theorem R_is_sum (xs : List C) : F_is_sum.run xs = endF false (exs G_is_sum b_is_sum (CL.start 4 xs)) := rfl
theorem A_is_sum : F_is_sum.ar = 2 := rfl
theorem I_is_sum : F_is_sum.io = false := rfl
/-- check_sum(letters, items): 0 letters 1 items -/
def b_check_sum : List S := [.ife (.not_ (.call 187 [.name 0, .name 1])) [.raise 0 []] []]
def G_check_sum : Ctx := { fn := fun | 187 => some F_is_sum | _ => none, cls := fun _ => none, cst := fun _ => none, fuel := 1000000 }
def F_check_sum : Fun := ⟨2, false, runF G_check_sum false 2 b_check_sum⟩
theorem R_check_sum (xs : List C) : F_check_sum.run xs = endF false (exs G_check_sum b_check_sum (CL.start 2 xs)) := rfl
theorem A_check_sum : F_check_sum.ar = 2 := rfl
theorem I_check_sum : F_check_sum.io = false := rfl
/-- is_rest_lot(prime, thing): 0 prime 1 thing 2 one 3 other -/
def b_is_rest_lot : List S := [.ife (.or_ (.not_ (.isi (.name 1) [.tuple])) (.or_ (.cmp .eq (.name 1) (.tup [])) (.not_ (.bi .all [.lc (.call 3 [.name 2, .int 0, .bin .sub (.name 0) (.int 1)]) (.name 2) (.it (.name 1)) none])))) [.ret (.bl false)] [], .ret (.bi .all [.lc (.cmp .lt (.name 2) (.name 3)) (.tup [.name 2, .name 3]) (.zip [.name 1, .slice (.name 1) (some (.int 1)) none]) none])]
def G_is_rest_lot : Ctx := { fn := fun | 3 => some F_is_within | _ => none, cls := fun _ => none, cst := fun _ => none, fuel := 1000000 }
def F_is_rest_lot : Fun := ⟨2, false, runF G_is_rest_lot false 4 b_is_rest_lot⟩
theorem R_is_rest_lot (xs : List C) : F_is_rest_lot.run xs = endF false (exs G_is_rest_lot b_is_rest_lot (CL.start 4 xs)) := rfl
theorem A_is_rest_lot : F_is_rest_lot.ar = 2 := rfl
theorem I_is_rest_lot : F_is_rest_lot.io = false := rfl
/-- rest_power(base, power, number): 0 base 1 power 2 number 3 found 4 here 5 left -/
def b_rest_power : List S := [.par [3, 4, 5] [.bin .mod (.bi .int [.int 1]) (.name 2), .bin .mod (.bi .int [.name 0]) (.name 2), .name 1], .while_ (.cmp .gt (.name 5) (.int 0)) [.ife (.cmp .eq (.bin .mod (.bi .int [.name 5]) (.int 2)) (.int 1)) [.set 3 (.bin .mod (.bi .int [.bin .mul (.name 3) (.name 4)]) (.name 2))] [], .set 4 (.bin .mod (.bi .int [.bin .mul (.name 4) (.name 4)]) (.name 2)), .set 5 (.bin .fdiv (.name 5) (.int 2))], .ret (.name 3)]
def G_rest_power : Ctx := { fn := fun _ => none, cls := fun _ => none, cst := fun _ => none, fuel := 1000000 }
def F_rest_power : Fun := ⟨3, false, runF G_rest_power false 6 b_rest_power⟩
theorem R_rest_power (xs : List C) : F_rest_power.run xs = endF false (exs G_rest_power b_rest_power (CL.start 6 xs)) := rfl
theorem A_rest_power : F_rest_power.ar = 3 := rfl
theorem I_rest_power : F_rest_power.io = false := rfl
/-- value(prime, items, point): 0 prime 1 items 2 point 3 one 4 found 5 powers 6 here 7 power -/
def b_value : List S := [.expr (.call 31 [.name 0]), .ife (.or_ (.not_ (.isi (.name 2) [.tuple])) (.not_ (.chain .le .le (.int 1) (.bi .len [.name 2]) (.glob 23)))) [.raise 0 []] [], .ife (.not_ (.bi .all [.lc (.call 0 [.name 3]) (.name 3) (.it (.name 2)) none])) [.raise 0 []] [], .expr (.call 188 [.bi .len [.name 2], .name 1]), .set 4 (.int 0), .for_ (.name 5) (.itd 1) [.set 6 (.sub (.name 1) (.name 5)), .for_ (.tup [.name 7, .name 3]) (.zip [.name 5, .name 2]) [.set 6 (.bin .mod (.bi .int [.bin .mul (.name 6) (.call 26 [.name 3, .name 7, .name 0])]) (.name 0))], .aug 4 .add (.name 6)], .ret (.bin .mod (.bi .int [.name 4]) (.name 0))]
def G_value : Ctx := { fn := fun | 31 => some F_check_prime | 0 => some F_is_integer | 188 => some F_check_sum | 26 => some F_rest_power | _ => none, cls := fun _ => none, cst := fun | 23 => some (.int 4) | _ => none, fuel := 1000000 }
def F_value : Fun := ⟨3, false, runF G_value false 8 b_value⟩
theorem R_value (xs : List C) : F_value.run xs = endF false (exs G_value b_value (CL.start 8 xs)) := rfl
theorem A_value : F_value.ar = 3 := rfl
theorem I_value : F_value.io = false := rfl
/-- restricted(prime, one, other, items): 0 prime 1 one 2 other 3 items 4 found 5 mine 6 its -/
def b_restricted : List S := [.expr (.call 31 [.name 0]), .ife (.or_ (.not_ (.call 189 [.name 0, .name 1])) (.not_ (.call 189 [.name 0, .name 2]))) [.raise 0 []] [], .expr (.call 188 [.int 2, .name 3]), .set 4 (.dic0 false), .for_ (.name 5) (.it (.name 1)) [.for_ (.name 6) (.it (.name 2)) [.ife (.cmp .ne (.call 190 [.name 0, .name 3, .tup [.name 5, .name 6]]) (.int 0)) [.asg (.sub (.name 4) (.bin .mod (.bi .int [.bin .add (.name 5) (.name 6)]) (.name 0))) (.bl true)] []]], .ret (.bi .tuple [.bi .sorted [.name 4]])]
def G_restricted : Ctx := { fn := fun | 31 => some F_check_prime | 189 => some F_is_rest_lot | 188 => some F_check_sum | 190 => some F_value | _ => none, cls := fun _ => none, cst := fun _ => none, fuel := 1000000 }
def F_restricted : Fun := ⟨4, false, runF G_restricted false 7 b_restricted⟩
theorem R_restricted (xs : List C) : F_restricted.run xs = endF false (exs G_restricted b_restricted (CL.start 7 xs)) := rfl
theorem A_restricted : F_restricted.ar = 4 := rfl
theorem I_restricted : F_restricted.io = false := rfl
/-- unlike_sums(prime, lot, many): 0 prime 1 lot 2 many 3 now 4 one 5 taken 6 here -/
def b_unlike_sums : List S := [.expr (.call 31 [.name 0]), .ife (.not_ (.call 189 [.name 0, .name 1])) [.raise 0 []] [], .expr (.call 24 [.name 2, .int 0, .name 0]), .set 3 (.dic1 true (.tup [.int 0, .int 0]) (.bl true)), .for_ (.name 4) (.it (.name 1)) [.for_ (.tup [.name 5, .name 6]) (.it (.bi .list [.name 3])) [.ife (.cmp .lt (.name 5) (.name 2)) [.asg (.sub (.name 3) (.tup [.bin .add (.name 5) (.int 1), .bin .mod (.bi .int [.bin .add (.name 6) (.name 4)]) (.name 0)])) (.bl true)] []]], .ret (.bi .tuple [.bi .sorted [.lc (.name 6) (.tup [.name 5, .name 6]) (.itd 3) (some (.cmp .eq (.name 5) (.name 2)))]])]
def G_unlike_sums : Ctx := { fn := fun | 31 => some F_check_prime | 189 => some F_is_rest_lot | 24 => some F_check_number | _ => none, cls := fun _ => none, cst := fun _ => none, fuel := 1000000 }
def F_unlike_sums : Fun := ⟨3, false, runF G_unlike_sums false 7 b_unlike_sums⟩
theorem R_unlike_sums (xs : List C) : F_unlike_sums.run xs = endF false (exs G_unlike_sums b_unlike_sums (CL.start 7 xs)) := rfl
theorem A_unlike_sums : F_unlike_sums.ar = 3 := rfl
theorem I_unlike_sums : F_unlike_sums.io = false := rfl
/-- least_unlike(prime, size, many): 0 prime 1 size 2 many -/
def b_least_unlike : List S := [.expr (.call 31 [.name 0]), .expr (.call 24 [.name 1, .int 1, .name 0]), .expr (.call 24 [.name 2, .int 1, .name 1]), .ret (.bi .min2 [.name 0, .bin .add (.bin .sub (.bin .mul (.name 2) (.name 1)) (.bin .mul (.name 2) (.name 2))) (.int 1)])]
def G_least_unlike : Ctx := { fn := fun | 31 => some F_check_prime | 24 => some F_check_number | _ => none, cls := fun _ => none, cst := fun _ => none, fuel := 1000000 }
def F_least_unlike : Fun := ⟨3, false, runF G_least_unlike false 3 b_least_unlike⟩
theorem R_least_unlike (xs : List C) : F_least_unlike.run xs = endF false (exs G_least_unlike b_least_unlike (CL.start 3 xs)) := rfl
theorem A_least_unlike : F_least_unlike.ar = 3 := rfl
theorem I_least_unlike : F_least_unlike.io = false := rfl
/-- law(script): 0 script 1 hand 2 turn 3 prime 4 one 5 other 6 items 7 item 8 point 9 due 10 a 11 b 12 apart 13 pairs 14 mine 15 plain_now 16 group 17 first 18 last 19 whole -/
def b_law : List S := [.set 1 (.call 13 [.name 0]), .for_ (.name 2) (.rng [.int 4]) [.set 3 (.call 50 [.name 1, .lst [.int 3, .int 5, .int 7]]), .par [4, 5, 6] [.call 191 [.name 1, .name 3], .call 191 [.name 1, .name 3], .dic0 true], .for_ (.name 7) (.rng [.call 17 [.name 1, .int 4]]) [.asg (.sub (.name 6) (.tup [.call 17 [.name 1, .int 3], .call 17 [.name 1, .int 3]])) (.bin .sub (.call 17 [.name 1, .int 9]) (.int 4))], .set 8 (.tup [.call 17 [.name 1, .name 3], .call 17 [.name 1, .name 3]]), .ife (.cmp .ne (.bin .mod (.bi .int [.call 190 [.name 3, .name 6, .name 8]]) (.name 3)) (.call 192 [.name 3, .name 6, .name 8])) [.ret (.bl false)] [], .set 9 (.lst []), .for_ (.name 10) (.it (.name 4)) [.expr (.me .extend (.name 9) [.lc (.bin .mod (.bi .int [.bin .add (.name 10) (.name 11)]) (.name 3)) (.name 11) (.it (.name 5)) (some (.cmp .ne (.call 192 [.name 3, .name 6, .tup [.name 10, .name 11]]) (.int 0)))])], .ife (.cmp .ne (.bi .tuple [.call 193 [.name 3, .name 4, .name 5, .name 6]]) (.bi .tuple [.bi .iset [.name 9]])) [.ret (.bl false)] [], .set 12 (.dic0 true), .asg (.sub (.name 12) (.tup [.int 1, .int 0])) (.int 1), .asg (.sub (.name 12) (.tup [.int 0, .int 1])) (.neg (.int 1)), .set 13 (.lst []), .for_ (.name 10) (.it (.name 4)) [.expr (.me .extend (.name 13) [.lc (.bin .mod (.bi .int [.bin .add (.name 10) (.name 11)]) (.name 3)) (.name 11) (.it (.name 4)) (some (.cmp .ne (.name 10) (.name 11)))])], .set 14 (.bi .tuple [.bi .iset [.name 13]]), .ife (.cmp .ne (.bi .tuple [.call 193 [.name 3, .name 4, .name 4, .name 12]]) (.name 14)) [.ret (.bl false)] [], .ife (.and_ (.cmp .gt (.bi .len [.name 4]) (.int 1)) (.cmp .ne (.bi .tuple [.call 194 [.name 3, .name 4, .int 2]]) (.name 14))) [.ret (.bl false)] [], .ife (.and_ (.cmp .gt (.bi .len [.name 4]) (.int 1)) (.or_ (.cmp .ne (.call 195 [.name 3, .bi .len [.name 4], .int 2]) (.bi .min2 [.name 3, .bin .sub (.bin .mul (.int 2) (.bi .len [.name 4])) (.int 3)])) (.cmp .lt (.bi .len [.name 14]) (.bi .min2 [.name 3, .bin .sub (.bin .mul (.int 2) (.bi .len [.name 4])) (.int 3)])))) [.ret (.bl false)] [], .set 15 (.dic0 true), .asg (.sub (.name 15) (.tup [.int 0, .int 0])) (.int 1), .set 16 (.mk 4 [.tup [.name 3]]), .par [17, 18] [.bi .tuple [.lc (.tup [.name 10]) (.name 10) (.it (.name 4)) none], .bi .tuple [.lc (.tup [.name 11]) (.name 11) (.it (.name 5)) none]], .set 19 (.call 48 [.name 16, .name 17, .name 18]), .ife (.cmp .ne (.bi .tuple [.lc (.tup [.name 10]) (.name 10) (.it (.call 193 [.name 3, .name 4, .name 5, .name 15])) none]) (.name 19)) [.ret (.bl false)] [], .ife (.cmp .lt (.bi .len [.name 19]) (.call 63 [.name 16, .name 17, .name 18])) [.ret (.bl false)] [], .ife (.cmp .ne (.call 63 [.name 16, .name 17, .name 18]) (.bi .min2 [.name 3, .bin .sub (.bin .add (.bi .len [.name 4]) (.bi .len [.name 5])) (.int 1)])) [.ret (.bl false)] []], .ret (.bl true)]
def G_law : Ctx := { fn := fun | 13 => some F__law_hand | 50 => some F__law_some | 191 => some F__law_rests | 17 => some F__law_draw | 190 => some F_value | 192 => some F__law_value | 193 => some F_restricted | 194 => some F_unlike_sums | 195 => some F_least_unlike | 48 => some F_sums | 63 => some F_least_sums | _ => none, cls := fun | 4 => some (mkFun F_init_Group 4) | _ => none, cst := fun _ => none, fuel := 1000000 }
def F_law : Fun := ⟨1, false, runF G_law false 20 b_law⟩
theorem R_law (xs : List C) : F_law.run xs = endF false (exs G_law b_law (CL.start 20 xs)) := rfl
theorem A_law : F_law.ar = 1 := rfl
theorem I_law : F_law.io = false := rfl
end CL

set_option autoImplicit false
set_option linter.all false
set_option Elab.async false
set_option maxRecDepth 100000
set_option maxHeartbeats 1000000
/-! K99m1: the hand and its draws. -/
namespace CL.Pl
def intOf : D → Int
  | .int i => i
  | _ => 0
abbrev hand (cs : List Int) (i : Nat) (r s z : Int) : List D := [.lst (cs.map .int), .int i, .int r, .int s, .int z]
def IsHand (H : List D) : Prop := ∃ cs i r s z, H = hand cs i r s z
abbrev drT (H : List D) (m : Int) (x2 x3 x4 : Option C) : St := [some (.ol H), some (.val (.int m)), x2, x3, x4]
theorem cmpD_eqI (x y : Int) : cmpD .eq (.int x) (.int y) = some (x == y) := by simp [cmpD, eqD, cmpOk, okD, eqb]
theorem cmpD_neI (x y : Int) : cmpD .ne (.int x) (.int y) = some (x != y) := by simp [cmpD, eqD, cmpOk, okD, eqb, bne]
theorem cmpD_ltI (x y : Int) : cmpD .lt (.int x) (.int y) = some (decide (x < y)) := by simp [cmpD, ltD, cmpOk, okD, alikeb, notNon, ltb]
theorem cmpD_gtI (x y : Int) : cmpD .gt (.int x) (.int y) = some (decide (y < x)) := by simp [cmpD, ltD, cmpOk, okD, alikeb, notNon, ltb]
theorem cmpD_geI (x y : Int) : cmpD .ge (.int x) (.int y) = some (decide (y ≤ x)) := by simp [cmpD, ltD, cmpOk, okD, alikeb, notNon, ltb]
section
variable {Γ : Ctx} {cs : List Int} {i : Nat} {r s z m : Int} {x2 x3 x4 : Option C}
theorem ev_subL {e j : E} {x y : Opd} {ds : List D} {σ σ1 σ2 : St} {k : Int} {d : D} (h : ev Γ e σ = .ok x σ1) (h2 : ev Γ j σ1 = .ok y σ2) (v1 : vw x σ2 = some (.lst ds)) (v2 : vw y σ2 = some (.int k)) (ha : atI ds k = some d) : ev Γ (.sub e j) σ = .ok (.c (.val d)) σ2 := by
  rw [ev, h]
  simp only [Res.bind]
  rw [h2]
  simp only [v1, v2, ha, Option.map, Res.of]
theorem d_at (j : Nat) (v : D) (hv : (hand cs i r s z)[j]? = some v) : ev Γ (.sub (.name 0) (.int j)) (drT (hand cs i r s z) m x2 x3 x4) = .ok (.c (.val v)) (drT (hand cs i r s z) m x2 x3 x4) :=
  ev_subL (ev_own (i := 0) (x := .ol (hand cs i r s z)) rfl rfl) ev_int rfl rfl (by rw [atI_nat (List.getElem?_eq_some_iff.mp hv).1]; exact hv)
theorem d_set {j : Nat} {e : E} {v : D} {H : List D} (he : ev Γ e (drT (hand cs i r s z) m x2 x3 x4) = .ok (.c (.val v)) (drT (hand cs i r s z) m x2 x3 x4)) (hj : j < 5) (hH : (hand cs i r s z).set j v = H) : ex Γ (.asg (.sub (.name 0) (.int j)) e) (drT (hand cs i r s z) m x2 x3 x4) = .ok .next (drT H m x2 x3 x4) := by
  subst hH
  rw [ex, he]
  have : j = 0 ∨ j = 1 ∨ j = 2 ∨ j = 3 ∨ j = 4 := by omega
  rcases this with rfl | rfl | rfl | rfl | rfl <;> rfl
end
theorem mod_lt {a c : Int} (h : 0 < c) : 0 ≤ a % c ∧ a % c < c := ⟨Int.emod_nonneg _ (by omega), Int.emod_lt_of_pos _ h⟩
theorem r_draw {H : List D} (hH : IsHand H) {m : Int} (h0 : 0 < m) (h1 : m < 1073741824) : ∃ d H', F__law_draw.run [.ol H, .val (.int m)] = .ok (.val (.int d)) (some (.ol H')) ∧ 0 ≤ d ∧ d < m ∧ IsHand H' := by
  obtain ⟨cs, i, r, s, z, rfl⟩ := hH
  rw [R__law_draw]
  -- the second half, from any hand
  have tail : ∀ (cs : List Int) (i : Nat) (r s z : Int) (x2 : Option C), ∃ d H', endF true (exs G__law_draw (b__law_draw.drop 1) (drT (hand cs i r s z) m x2 none none)) = .ok (.val (.int d)) (some (.ol H')) ∧ 0 ≤ d ∧ d < m ∧ IsHand H' := by
    intro cs i r s z x2
    have e1 : ev G__law_draw (.cmp .gt (.sub (.name 0) (.int 2)) (.int 0)) (drT (hand cs i r s z) m x2 none none) = .ok (.c (.val (.bl (decide (0 < r))))) (drT (hand cs i r s z) m x2 none none) :=
      ev_cmp (d1 := .int r) (d_at 2 _ rfl) ev_int rfl rfl (cmpD_gtI _ _)
    by_cases hr : 0 < r
    · rw [decide_eq_true hr] at e1
      refine ⟨r % m, hand cs i (r / m) s z, ?_, Int.emod_nonneg _ (by omega), Int.emod_lt_of_pos _ h0, cs, i, r / m, s, z, rfl⟩
      have : exs G__law_draw (b__law_draw.drop 1) (drT (hand cs i r s z) m x2 none none) = .ok (.ret (.val (.int (r % m)))) (drT (hand cs i (r / m) s z) m x2 (some (.val (.int (r % m)))) none) := by
        refine exs_ret ?_
        rw [ex_yes (evc_v e1)]
        have e2 : ev G__law_draw (.bin .mod (.bi .int [.sub (.name 0) (.int 2)]) (.name 1)) (drT (hand cs i r s z) m x2 none none) = .ok (.c (.val (.int (r % m)))) (drT (hand cs i r s z) m x2 none none) :=
          ev_bin (d1 := .int r) (d2 := .int m) (ev_bi1 (d := .int r) (d_at 2 _ rfl) rfl rfl) (ev_name rfl) rfl rfl (bo_mod h0)
        rw [exs_next (ex_set (i := 3) e2 rfl (by simp) (.inl (by decide)))]
        show exs G__law_draw _ (drT (hand cs i r s z) m x2 (some (.val (.int (r % m)))) none) = _
        refine (exs_next (d_set (j := 2) (v := .int (r / m)) (ev_bin (d1 := .int r) (d2 := .int m) (d_at 2 _ rfl) (ev_name rfl) rfl rfl (bo_fdiv h0 h1)) (by decide) rfl)).trans ?_
        refine exs_ret ?_
        rw [ex, ev_name rfl]
        rfl
      rw [this]
      rfl
    · rw [decide_eq_false hr] at e1
      have key : ∃ d, exs G__law_draw (b__law_draw.drop 1) (drT (hand cs i r s z) m x2 none none) = .ok (.ret (.val (.int (d % m)))) (drT (hand cs i r s (z + 1)) m x2 none (some (.val (.int 0)))) ∨ ∃ x4, exs G__law_draw (b__law_draw.drop 1) (drT (hand cs i r s z) m x2 none none) = .ok (.ret (.val (.int (d % m)))) (drT (hand cs i r s (z + 1)) m x2 none (some (.val (.int x4)))) := by
        obtain ⟨l1, l2⟩ := mod_lt (a := (s + 7877 * (z + 1)) * 69621) (c := 2147483647) (by decide)
        generalize hn1 : ((s + 7877 * (z + 1)) * 69621) % 2147483647 = n1 at l1 l2
        obtain ⟨l3, l4⟩ := mod_lt (a := n1 * (n1 / 1103 + 40692)) (c := 2147483399) (by decide)
        generalize hn2 : (n1 * (n1 / 1103 + 40692)) % 2147483399 = n2 at l3 l4
        refine ⟨((n2 * (n2 / 2311 + 48271)) % 2147483629) / 16, .inr ⟨(n2 * (n2 / 2311 + 48271)) % 2147483629, ?_⟩⟩
        refine (exs_next (ex_no (evc_v e1))).trans ?_
        refine (exs_next (d_set (j := 4) (v := .int (z + 1)) (ev_bin (d1 := .int z) (d2 := .int 1) (d_at 4 _ rfl) ev_int rfl rfl (bo_add _ _)) (by decide) rfl)).trans ?_
        have f1 : ev G__law_draw (.bin .mod (.bi .int [.bin .mul (.bi .int [.bin .add (.sub (.name 0) (.int 3)) (.bin .mul (.int 7877) (.sub (.name 0) (.int 4)))]) (.int 69621)]) (.int 2147483647)) (drT (hand cs i r s (z + 1)) m x2 none none) = .ok (.c (.val (.int n1))) (drT (hand cs i r s (z + 1)) m x2 none none) := by
          subst hn1
          refine ev_bin (d1 := .int ((s + 7877 * (z + 1)) * 69621)) (d2 := .int 2147483647) (ev_bi1 (d := .int ((s + 7877 * (z + 1)) * 69621)) (ev_bin (d1 := .int (s + 7877 * (z + 1))) (d2 := .int 69621) (ev_bi1 (d := .int (s + 7877 * (z + 1))) (ev_bin (d1 := .int s) (d2 := .int (7877 * (z + 1))) (d_at 3 _ rfl) (ev_bin (d1 := .int 7877) (d2 := .int (z + 1)) ev_int (d_at 4 _ rfl) rfl rfl (bo_mul (mulOk_l (by decide) (by decide)))) rfl rfl (bo_add _ _)) rfl rfl) ev_int rfl rfl (bo_mul (mulOk_r (by decide) (by decide)))) rfl rfl) ev_int rfl rfl (bo_mod (by decide))
        refine (exs_next (ex_set (i := 4) f1 rfl (by simp) (.inl (by decide)))).trans ?_
        show exs G__law_draw _ (drT (hand cs i r s (z + 1)) m x2 none (some (.val (.int n1)))) = _
        have f2 : ev G__law_draw (.bin .mod (.bi .int [.bin .mul (.name 4) (.bin .add (.bin .fdiv (.name 4) (.int 1103)) (.int 40692))]) (.int 2147483399)) (drT (hand cs i r s (z + 1)) m x2 none (some (.val (.int n1)))) = .ok (.c (.val (.int n2))) (drT (hand cs i r s (z + 1)) m x2 none (some (.val (.int n1)))) := by
          subst hn2
          refine ev_bin (d1 := .int (n1 * (n1 / 1103 + 40692))) (d2 := .int 2147483399) (ev_bi1 (d := .int (n1 * (n1 / 1103 + 40692))) (ev_bin (d1 := .int n1) (d2 := .int (n1 / 1103 + 40692)) (ev_name rfl) (ev_bin (d1 := .int (n1 / 1103)) (d2 := .int 40692) (ev_bin (d1 := .int n1) (d2 := .int 1103) (ev_name rfl) ev_int rfl rfl (bo_fdiv (by decide) (by decide))) ev_int rfl rfl (bo_add _ _)) rfl rfl (bo_mul (mulOk_l l1 (by omega)))) rfl rfl) ev_int rfl rfl (bo_mod (by decide))
        refine (exs_next (ex_set (i := 4) f2 rfl (by simp) (.inl (by decide)))).trans ?_
        show exs G__law_draw _ (drT (hand cs i r s (z + 1)) m x2 none (some (.val (.int n2)))) = _
        have f3 : ev G__law_draw (.bin .mod (.bi .int [.bin .mul (.name 4) (.bin .add (.bin .fdiv (.name 4) (.int 2311)) (.int 48271))]) (.int 2147483629)) (drT (hand cs i r s (z + 1)) m x2 none (some (.val (.int n2)))) = .ok (.c (.val (.int ((n2 * (n2 / 2311 + 48271)) % 2147483629)))) (drT (hand cs i r s (z + 1)) m x2 none (some (.val (.int n2)))) := by
          refine ev_bin (d1 := .int (n2 * (n2 / 2311 + 48271))) (d2 := .int 2147483629) (ev_bi1 (d := .int (n2 * (n2 / 2311 + 48271))) (ev_bin (d1 := .int n2) (d2 := .int (n2 / 2311 + 48271)) (ev_name rfl) (ev_bin (d1 := .int (n2 / 2311)) (d2 := .int 48271) (ev_bin (d1 := .int n2) (d2 := .int 2311) (ev_name rfl) ev_int rfl rfl (bo_fdiv (by decide) (by decide))) ev_int rfl rfl (bo_add _ _)) rfl rfl (bo_mul (mulOk_l l3 (by omega)))) rfl rfl) ev_int rfl rfl (bo_mod (by decide))
        refine (exs_next (ex_set (i := 4) f3 rfl (by simp) (.inl (by decide)))).trans ?_
        generalize (n2 * (n2 / 2311 + 48271)) % 2147483629 = n3
        show exs G__law_draw _ (drT (hand cs i r s (z + 1)) m x2 none (some (.val (.int n3)))) = _
        refine exs_ret ?_
        have f4 : ev G__law_draw (.bin .mod (.bi .int [.bin .fdiv (.name 4) (.int 16)]) (.name 1)) (drT (hand cs i r s (z + 1)) m x2 none (some (.val (.int n3)))) = .ok (.c (.val (.int (n3 / 16 % m)))) (drT (hand cs i r s (z + 1)) m x2 none (some (.val (.int n3)))) :=
          ev_bin (d1 := .int (n3 / 16)) (d2 := .int m) (ev_bi1 (d := .int (n3 / 16)) (ev_bin (d1 := .int n3) (d2 := .int 16) (ev_name rfl) ev_int rfl rfl (bo_fdiv (by decide) (by decide))) rfl rfl) (ev_name rfl) rfl rfl (bo_mod h0)
        rw [ex, f4]
        rfl
      obtain ⟨d, h | ⟨x4, h⟩⟩ := key
      · refine ⟨d % m, hand cs i r s (z + 1), ?_, Int.emod_nonneg _ (by omega), Int.emod_lt_of_pos _ h0, cs, i, r, s, z + 1, rfl⟩
        rw [h]
        rfl
      · refine ⟨d % m, hand cs i r s (z + 1), ?_, Int.emod_nonneg _ (by omega), Int.emod_lt_of_pos _ h0, cs, i, r, s, z + 1, rfl⟩
        rw [h]
        rfl
  show ∃ d H', endF true (exs G__law_draw b__law_draw (drT (hand cs i r s z) m none none none)) = .ok (.val (.int d)) (some (.ol H')) ∧ 0 ≤ d ∧ d < m ∧ IsHand H'
  have c1 : ev G__law_draw (.cmp .eq (.sub (.name 0) (.int 2)) (.int 0)) (drT (hand cs i r s z) m none none none) = .ok (.c (.val (.bl (r == 0)))) (drT (hand cs i r s z) m none none none) :=
    ev_cmp (d1 := .int r) (d_at 2 _ rfl) ev_int rfl rfl (cmpD_eqI _ _)
  have c2 : ev G__law_draw (.cmp .lt (.sub (.name 0) (.int 1)) (.bi .len [.sub (.name 0) (.int 0)])) (drT (hand cs i r s z) m none none none) = .ok (.c (.val (.bl (decide ((i : Int) < (cs.length : Nat)))))) (drT (hand cs i r s z) m none none none) := by
    refine ev_cmp (d1 := .int i) (d2 := .int (cs.length : Nat)) (d_at 1 _ rfl) (ev_bi1 (r := .val (.int (cs.length : Nat))) (d := .lst (cs.map .int)) (d_at 0 _ rfl) rfl ?_) rfl rfl (cmpD_ltI _ _)
    show some (C.val (.int (((cs.map D.int).length : Nat) : Int))) = _
    rw [List.length_map]
  have c3 : ev G__law_draw (.and_ (.cmp .eq (.sub (.name 0) (.int 2)) (.int 0)) (.cmp .lt (.sub (.name 0) (.int 1)) (.bi .len [.sub (.name 0) (.int 0)]))) (drT (hand cs i r s z) m none none none) = .ok (.c (.val (.bl ((r == 0) && decide ((i : Int) < (cs.length : Nat)))))) (drT (hand cs i r s z) m none none none) :=
    ev_and c1 (fun hk => by rw [hk, Bool.true_and]; exact c2) fun hk => ⟨by rw [hk]; rfl, rfl⟩
  cases hk : ((r == 0) && decide ((i : Int) < (cs.length : Nat))) with
  | false =>
    rw [hk] at c3
    obtain ⟨d, H', e, h⟩ := tail cs i r s z none
    exact ⟨d, H', by rw [← e]; exact q_no (evc_v c3) rfl, h⟩
  | true =>
    rw [hk] at c3
    rw [Bool.and_eq_true] at hk
    have hi : i < cs.length := by have := of_decide_eq_true hk.2; omega
    have g1 : ev G__law_draw (.sub (.sub (.name 0) (.int 0)) (.sub (.name 0) (.int 1))) (drT (hand cs i r s z) m none none none) = .ok (.c (.val (.int cs[i]))) (drT (hand cs i r s z) m none none none) :=
      ev_subL (ds := cs.map .int) (k := (i : Nat)) (d_at 0 _ rfl) (d_at 1 _ rfl) rfl rfl (by rw [atI_nat (by rw [List.length_map]; exact hi), List.getElem?_map, List.getElem?_eq_getElem hi]; rfl)
    generalize cs[i] = c at g1
    obtain ⟨v, g4⟩ : ∃ v, ev G__law_draw (.ife (.cmp .ge (.name 2) (.bin .pow (.int 10) (.int 18))) (.name 2) (.int 0)) (drT (hand cs (i + 1) r ((s * 48271 + c * 5 + 29) % 2147483587) z) m (some (.val (.int c))) none none) = .ok (.c (.val (.int v))) (drT (hand cs (i + 1) r ((s * 48271 + c * 5 + 29) % 2147483587) z) m (some (.val (.int c))) none none) := by
      have := (ev_cmp (Γ := G__law_draw) (σ := drT (hand cs (i + 1) r ((s * 48271 + c * 5 + 29) % 2147483587) z) m (some (.val (.int c))) none none) (op := .ge) (a := .name 2) (b := .bin .pow (.int 10) (.int 18)) (d1 := .int c) (d2 := .int 1000000000000000000) (ev_name rfl) (ev_bin (d1 := .int 10) (d2 := .int 18) ev_int ev_int rfl rfl rfl) rfl rfl (cmpD_geI _ _))
      cases hd : decide ((1000000000000000000 : Int) ≤ c) with
      | true =>
        rw [hd] at this
        refine ⟨c, ?_⟩
        rw [ev, this]
        exact ev_name (i := 2) (d := .int c) (Γ := G__law_draw) (σ := drT (hand cs (i + 1) r ((s * 48271 + c * 5 + 29) % 2147483587) z) m (some (.val (.int c))) none none) rfl
      | false =>
        rw [hd] at this
        refine ⟨0, ?_⟩
        rw [ev, this]
        exact ev_int (Γ := G__law_draw) (σ := drT (hand cs (i + 1) r ((s * 48271 + c * 5 + 29) % 2147483587) z) m (some (.val (.int c))) none none)
    obtain ⟨d, H', e, h⟩ := tail cs (i + 1) v ((s * 48271 + c * 5 + 29) % 2147483587) z (some (.val (.int c)))
    refine ⟨d, H', ?_, h⟩
    rw [← e]
    refine q_next (σ1 := drT (hand cs (i + 1) v ((s * 48271 + c * 5 + 29) % 2147483587) z) m (some (.val (.int c))) none none) ?_ rfl
    rw [ex_yes (evc_v c3)]
    refine (exs_next (ex_set (i := 2) g1 rfl (by simp) (.inl (by decide)))).trans ?_
    show exs G__law_draw _ (drT (hand cs i r s z) m (some (.val (.int c))) none none) = _
    refine (exs_next (d_set (j := 1) (v := .int ((i + 1 : Nat) : Int)) (ev_bin (d1 := .int i) (d2 := .int 1) (d_at 1 _ rfl) ev_int rfl rfl (bo_add _ _)) (by decide) rfl)).trans ?_
    show exs G__law_draw _ (drT (hand cs (i + 1) r s z) m (some (.val (.int c))) none none) = _
    refine (exs_next (d_set (j := 3) (v := .int ((s * 48271 + c * 5 + 29) % 2147483587)) ?_ (by decide) rfl)).trans ?_
    · exact ev_bin (d1 := .int (s * 48271 + c * 5 + 29)) (d2 := .int 2147483587) (ev_bi1 (d := .int (s * 48271 + c * 5 + 29)) (ev_bin (d1 := .int (s * 48271 + c * 5)) (d2 := .int 29) (ev_bin (d1 := .int (s * 48271)) (d2 := .int (c * 5)) (ev_bin (d1 := .int s) (d2 := .int 48271) (d_at 3 _ rfl) ev_int rfl rfl (bo_mul (mulOk_r (by decide) (by decide)))) (ev_bin (d1 := .int c) (d2 := .int 5) (ev_name rfl) ev_int rfl rfl (bo_mul (mulOk_r (by decide) (by decide)))) rfl rfl (bo_add _ _)) ev_int rfl rfl (bo_add _ _)) rfl rfl) ev_int rfl rfl (bo_mod (by decide))
    show exs G__law_draw _ (drT (hand cs (i + 1) r ((s * 48271 + c * 5 + 29) % 2147483587) z) m (some (.val (.int c))) none none) = _
    refine (exs_next (d_set (j := 2) (v := .int v) g4 (by decide) rfl)).trans ?_
    rw [exs]
    rfl
theorem r_hand (ns : List Int) (h : ns.length ≤ 63) : ∃ H, F__law_hand.run [.val (.kl (ns.map .int))] = .ok (.ol H) none ∧ IsHand H := by
  rw [R__law_hand]
  refine ⟨hand (ns.map fun n => absI n) 0 0 (83 + 5 * ns.length) 0, ?_, _, _, _, _, _, rfl⟩
  have e1 : ev G__law_hand (.lc (.bi .abs [.bi .int [.name 2]]) (.name 2) (.it (.slice (.name 0) none (some (.int 63)))) none) [some (.val (.kl (ns.map .int))), none, none] = .ok (.c (.ol ((ns.map fun n => absI n).map .int))) [some (.val (.kl (ns.map .int))), none, none] := by
    have e := ev_lc (Γ := G__law_hand) (elt := .bi .abs [.bi .int [.name 2]]) (tgt := .name 2) (ifs := none) (it := .it (.slice (.name 0) none (some (.int 63)))) (σ := [some (.val (.kl (ns.map .int))), none, none]) (σ1 := [some (.val (.kl (ns.map .int))), none, none]) (ds := ns.map .int) (locs := []) (fun d => some (.int (absI (intOf d)))) ?_ (by rw [List.length_map]; show ns.length ≤ 1000000; omega) fun d hd => ?_
    · rw [e]
      congr 3
      rw [List.filterMap_map, List.map_map]
      clear e h
      induction ns with
      | nil => rfl
      | cons n ns ih => rw [List.filterMap_cons, List.map_cons, ← ih]; rfl
    · have hc : cut (ns.map D.int) none (some 63) = ns.map D.int := by
        unfold cut
        have : cutI (ns.map D.int).length (ns.map D.int).length (some 63) = (ns.map D.int).length := by
          rw [List.length_map]
          show (if (63 : Int) < 0 then ((63 : Int) + (ns.length : Nat)).toNat else min (63 : Int).toNat ns.length) = ns.length
          rw [if_neg (by decide)]
          show min 63 ns.length = ns.length
          omega
        rw [this]
        show ((ns.map D.int).drop 0).take ((ns.map D.int).length - 0) = _
        rw [List.drop_zero, Nat.sub_zero, List.take_length]
      simp only [evI, ev, get, Res.bind, evo, vw, C.toD, hc]
      rfl
    · obtain ⟨n, hn, rfl⟩ := List.mem_map.mp hd
      exact ⟨[some (.val (.kl (ns.map .int))), none, some (.val (.int n))], turn_ev rfl (ev_bi1 (d := .int n) (ev_bi1 (d := .int n) (ev_name rfl) rfl rfl) rfl rfl), rfl⟩
  refine q_set (i := 1) (σ1 := [some (.val (.kl (ns.map .int))), none, none]) (σ2 := [some (.val (.kl (ns.map .int))), none, none]) (x := .ol ((ns.map fun n => absI n).map .int)) e1 rfl (by simp) (.inl (by decide)) ?_
  show endF false (exs G__law_hand _ [some (.val (.kl (ns.map .int))), some (.ol ((ns.map fun n => absI n).map .int)), none]) = _
  have hown := ev_own (Γ := G__law_hand) (σ := [some (.val (.kl (ns.map .int))), some (.ol ((ns.map fun n => absI n).map .int)), none]) (i := 1) (x := .ol ((ns.map fun n => absI n).map .int)) rfl rfl
  have hln : ev G__law_hand (.bi .len [.name 1]) [some (.val (.kl (ns.map .int))), some (.ol ((ns.map fun n => absI n).map .int)), none] = .ok (.c (.val (.int (ns.length : Nat)))) [some (.val (.kl (ns.map .int))), some (.ol ((ns.map fun n => absI n).map .int)), none] := by
    refine ev_bi1 (d := .lst ((ns.map fun n => absI n).map .int)) hown rfl ?_
    show some (C.val (.int ((((ns.map fun n => absI n).map D.int).length : Nat) : Int))) = _
    rw [List.length_map, List.length_map]
  have e2 := ev_bin (op := .add) (d1 := .int 83) (d2 := .int (5 * ns.length)) ev_int (ev_bin (op := .mul) (d1 := .int 5) (d2 := .int (ns.length : Nat)) ev_int hln rfl rfl (bo_mul (mulOk_l (by decide) (by decide)))) rfl rfl (bo_add _ _)
  have e3 : evs G__law_hand [.name 1, .int 0, .int 0, .bin .add (.int 83) (.bin .mul (.int 5) (.bi .len [.name 1])), .int 0] [some (.val (.kl (ns.map .int))), some (.ol ((ns.map fun n => absI n).map .int)), none] = .ok [.loc 1, .c (.val (.int 0)), .c (.val (.int 0)), .c (.val (.int (83 + 5 * ns.length))), .c (.val (.int 0))] [some (.val (.kl (ns.map .int))), some (.ol ((ns.map fun n => absI n).map .int)), none] :=
    evs_c hown (evs_c ev_int (evs_c ev_int (evs_2 e2 ev_int)))
  have e4 : ev G__law_hand (.lst [.name 1, .int 0, .int 0, .bin .add (.int 83) (.bin .mul (.int 5) (.bi .len [.name 1])), .int 0]) [some (.val (.kl (ns.map .int))), some (.ol ((ns.map fun n => absI n).map .int)), none] = .ok (.c (.ol (hand (ns.map fun n => absI n) 0 0 (83 + 5 * ns.length) 0))) [some (.val (.kl (ns.map .int))), some (.val (.lst ((ns.map fun n => absI n).map .int))), none] := by
    rw [ev, e3]
    rfl
  exact q_ret e4 rfl rfl
end CL.Pl

set_option autoImplicit false
set_option linter.all false
set_option Elab.async false
set_option maxRecDepth 100000
set_option maxHeartbeats 1000000
/-! K99m2: what is closed, told by the kernel. -/
namespace CL.Pl
def isIntR (r : FR) (i : Int) : Bool := match r with
  | .ok (.val (.int j)) none => j == i
  | _ => false
def isBlR (r : FR) (b : Bool) : Bool := match r with
  | .ok (.val (.bl c)) none => c == b
  | _ => false
def isNonR (r : FR) : Bool := match r with
  | .ok (.val .non) none => true
  | _ => false
def isTupR (r : FR) (is : List Int) : Bool := match r with
  | .ok (.val (.tup ds)) none => ints? ds == some is
  | _ => false
theorem ints_of : ∀ {ds : List D} {is : List Int}, ints? ds = some is → ds = is.map .int
  | [], is, h => by rw [ints?] at h; cases h; rfl
  | .int i :: ds, is, h => by
    rw [ints?] at h
    cases e : ints? ds with
    | none => rw [e] at h; cases h
    | some js => rw [e] at h; cases h; rw [ints_of e]; rfl
  | .non :: _, _, h => nomatch h
  | .bl _ :: _, _, h => nomatch h
  | .str _ :: _, _, h => nomatch h
  | .tup _ :: _, _, h => nomatch h
  | .lst _ :: _, _, h => nomatch h
  | .dct _ _ :: _, _, h => nomatch h
  | .ins _ _ :: _, _, h => nomatch h
  | .fn _ :: _, _, h => nomatch h
  | .kl _ :: _, _, h => nomatch h
theorem intR {r : FR} {i : Int} (h : isIntR r i = true) : r = .ok (.val (.int i)) none := by
  unfold isIntR at h
  split at h
  · rw [beq_iff_eq] at h; rw [h]
  · cases h
theorem blR {r : FR} {i : Bool} (h : isBlR r i = true) : r = .ok (.val (.bl i)) none := by
  unfold isBlR at h
  split at h
  · rw [beq_iff_eq] at h; rw [h]
  · cases h
theorem nonR {r : FR} (h : isNonR r = true) : r = .ok (.val .non) none := by
  unfold isNonR at h
  split at h
  · rfl
  · cases h
theorem tupR {r : FR} {is : List Int} (h : isTupR r is = true) : r = .ok (.val (.tup (is.map .int))) none := by
  unfold isTupR at h
  split at h
  · rw [beq_iff_eq] at h; rw [ints_of h]
  · cases h
/-- the primes -/
abbrev P3 : List Nat := [3, 5, 7]
/-- lots of rests, ascending, also the empty one -/
def subsN : List Nat → List (List Nat)
  | [] => [[]]
  | x :: xs => let s := subsN xs
    s.map (x :: ·) ++ s
def lotsN (p : Nat) : List (List Nat) := (subsN (List.range p)).filter fun l => !l.isEmpty
abbrev enN (l : List Nat) : D := .tup (l.map fun (n : Nat) => D.int (n : Nat))
/-- sums of two unlike ones, of two lots -/
def unN (p : Nat) (l : List Nat) : List Nat := l.flatMap fun a => (l.filter fun b => a != b).map fun b => (a + b) % p
def suN (p : Nat) (l m : List Nat) : List Nat := l.flatMap fun a => m.map fun b => (a + b) % p
def dedN : List Nat → List Nat → List Nat
  | acc, [] => acc
  | acc, d :: ds => if acc.any (fun x => x == d) then dedN acc ds else dedN (acc ++ [d]) ds
def insN (x : Nat) : List Nat → List Nat
  | [] => [x]
  | y :: ys => if y < x then y :: insN x ys else x :: y :: ys
def isoN : List Nat → List Nat
  | [] => []
  | x :: xs => insN x (isoN xs)
/-- ascending, each once -/
def setN (l : List Nat) : List Nat := isoN (dedN [] l)
def intsN (l : List Nat) : List Int := l.map fun (n : Nat) => (n : Int)
theorem c_prime : P3.all (fun p => isNonR (F_check_prime.run [.val (.int (p : Nat))])) = true := by decide +kernel
theorem c_lot : P3.all (fun p => (lotsN p).all fun l => isBlR (F_is_rest_lot.run [.val (.int (p : Nat)), .val (enN l)]) true) = true := by decide +kernel
theorem c_least : P3.all (fun p => (List.range 8).all fun n => !(decide (2 ≤ n) && decide (n ≤ p)) || isIntR (F_least_unlike.run [.val (.int (p : Nat)), .val (.int (n : Nat)), .val (.int 2)]) (min (p : Int) (2 * n - 3))) = true := by decide +kernel
theorem c_rp : P3.all (fun p => (List.range p).all fun x => (List.range 3).all fun k => isIntR (F_rest_power.run [.val (.int (x : Nat)), .val (.int (k : Nat)), .val (.int (p : Nat))]) ((x ^ k % p : Nat) : Int)) = true := by decide +kernel
theorem c_unlike3 : [3, 5].all (fun p => (lotsN p).all fun l => l.length < 2 || isTupR (F_unlike_sums.run [.val (.int (p : Nat)), .val (enN l), .val (.int 2)]) (intsN (setN (unN p l)))) = true := by decide +kernel
end CL.Pl

set_option autoImplicit false
set_option linter.all false
set_option Elab.async false
set_option maxRecDepth 100000
/-! K99m2b: more of it. -/
namespace CL.Pl
theorem c_unlike7 : [7].all (fun p => (lotsN p).all fun l => l.length < 2 || isTupR (F_unlike_sums.run [.val (.int (p : Nat)), .val (enN l), .val (.int 2)]) (intsN (setN (unN p l)))) = true := by decide +kernel
/-- Erdos and Heilbronn; Cauchy and Davenport -/
theorem c_eh : P3.all (fun p => (lotsN p).all fun l => l.length < 2 || decide (min p (2 * l.length - 3) ≤ (setN (unN p l)).length)) = true := by decide +kernel
def maskN (l : List Nat) : Nat := l.foldl (fun m a => m ||| (1 <<< a)) 0
def cntS (p : Nat) (l : List Nat) (m : Nat) : Nat := ((List.range p).filter fun x => l.any fun a => m.testBit ((x + p - a) % p)).length
theorem c_cd : P3.all (fun p => let ms := (lotsN p).map fun l => (l.length, maskN l)
  (lotsN p).all fun l => ms.all fun m => Nat.ble (min p (l.length + m.1 - 1)) (cntS p l m.2)) = true := by decide +kernel
end CL.Pl

set_option autoImplicit false
set_option linter.all false
set_option Elab.async false
set_option maxRecDepth 100000
set_option maxHeartbeats 1000000
/-! K99m3: sums of powers of two letters, and their values. -/
namespace CL.Pl
theorem e_for2 {Γ : Ctx} {σ σ1 : St} {t it : E} {body ss : List S} {Q : Flow → St → Prop} {d1 d2 : D} (hI : I Γ σ it [d1, d2] []) (b1 : bindT t d1 σ = some σ1) (h : Ends (exs Γ body σ1) fun f σ2 => f = .next ∧ ∃ σ3, bindT t d2 σ2 = some σ3 ∧ Ends (exs Γ body σ3) fun f σ4 => f = .next ∧ Ends (exs Γ ss σ4) Q) : Ends (exs Γ (.for_ t it body :: ss) σ) Q := by
  obtain ⟨f, σ2, e2, rfl, σ3, b2, g, σ4, e4, rfl, k⟩ := h
  refine e_next ?_ k
  unfold I at hI
  rw [ex, hI]
  show forGo t (exs Γ body) [d1, d2] σ = _
  rw [forGo, b1]
  simp only
  rw [e2]
  show forGo t (exs Γ body) [d2] σ2 = _
  rw [forGo, b2]
  simp only
  rw [e4]
  rfl
/-! items -/
abbrev It := List ((Nat × Nat) × Int)
def encK (k : Nat × Nat) : D := .tup [.int (k.1 : Nat), .int (k.2 : Nat)]
def encP (p : (Nat × Nat) × Int) : D × D := (encK p.1, .int p.2)
abbrev enD (its : It) : D := .dct true (its.map encP)
def getP : It → Nat × Nat → Option Int
  | [], _ => none
  | p :: r, k => if p.1 = k then some p.2 else getP r k
def putP (its : It) (k : Nat × Nat) (c : Int) : It := if its.any (fun p => p.1 == k) then its.map (fun p => if p.1 = k then (p.1, c) else p) else its ++ [(k, c)]
theorem eqb_encK (k l : Nat × Nat) : eqb (encK k) (encK l) = decide (k = l) := by
  obtain ⟨a, b⟩ := k
  obtain ⟨x, y⟩ := l
  simp [encK, eqb, eqbs, beqI, Int.ofNat_inj]
theorem dget_enc (k : Nat × Nat) : ∀ its : It, dget (its.map encP) (encK k) = (getP its k).map .int
  | [] => rfl
  | p :: r => by
    rw [List.map_cons, encP, dget, eqb_encK, getP]
    by_cases h : p.1 = k
    · rw [if_pos (by simpa using h), if_pos h]; rfl
    · rw [if_neg (by simpa using h), if_neg h, dget_enc k r]
theorem dput_enc (k : Nat × Nat) (c : Int) (its : It) : dput (its.map encP) (encK k) (.int c) = (putP its k c).map encP := by
  have h1 : (its.map encP).any (fun p => eqb p.1 (encK k)) = its.any (fun p => p.1 == k) := by
    rw [List.any_map]
    congr 1
    funext p
    show eqb (encK p.1) (encK k) = _
    rw [eqb_encK]
    by_cases h : p.1 = k
    · rw [decide_eq_true h, h]; simp
    · rw [decide_eq_false h]; simp [h]
  unfold dput putP
  rw [h1]
  by_cases h : its.any (fun p => p.1 == k) = true
  · rw [if_pos h, if_pos h, List.map_map, List.map_map]
    congr 1
    funext p
    show (if eqb (encK p.1) (encK k) = true then _ else _) = _
    rw [eqb_encK]
    by_cases h2 : p.1 = k
    · simp [h2, encP]
    · simp [h2, encP]
  · rw [if_neg h, if_neg h, List.map_append]
    rfl
theorem keys_enc (its : It) : (its.map encP).map (·.1) = (its.map (·.1)).map encK := by
  rw [List.map_map, List.map_map]; rfl
theorem getP_mem {k : Nat × Nat} : ∀ {its : It}, k ∈ its.map (·.1) → ∃ c, getP its k = some c
  | p :: r, h => by
    rw [getP]
    by_cases e : p.1 = k
    · rw [if_pos e]; exact ⟨_, rfl⟩
    · rw [if_neg e]
      rw [List.map_cons] at h
      rcases List.mem_cons.mp h with h | h
      · exact absurd h.symm e
      · exact getP_mem h
structure OkI (its : It) : Prop where
  le : its.length ≤ 3
  all : ∀ k ∈ its.map (·.1), k.1 ≤ 2 ∧ k.2 ≤ 2
theorem r_is_integer (i : Int) : F_is_integer.run [.val (.int i)] = .ok (.val (.bl true)) none := rfl
theorem r_is_within (a l h : Int) : F_is_within.run [.val (.int a), .val (.int l), .val (.int h)] = .ok (.val (.bl (decide (l ≤ a) && decide (a ≤ h)))) none := by
  rw [R_is_within]
  simp [exs, ex, ev, evs, evo, evc, get, put, Res.bind, Res.of, call1, call0, io1, frzs, frz, vw, vws, take, takes, stores, CL.start, endF, C.toD, C.ownB, Option.bind, biD, cmpD, binD, augD, atI, ixN, absI, b_is_within, G_is_within, r_is_integer, A_is_integer, I_is_integer]
  cases h1 : decide (l ≤ a) <;> simp_all
theorem r_is_sum {its : It} (h : OkI its) : F_is_sum.run [.val (.int 2), .val (enD its)] = .ok (.val (.bl true)) none := by
  rw [R_is_sum]
  refine run_of ?_
  show Ends (exs G_is_sum _ [some (.val (.int 2)), some (.val (enD its)), none, none]) _
  have hl := h.le
  refine e_no (K.wv (k_or (K.wv (k_not (K.wv (k_isi (K.wv (k_name rfl)) rfl)))) fun h_or => (k_or (K.wv (k_gt (K.wv (k_lenD (K.wv (k_name rfl)))) (K.wv (k_glob rfl)))) fun h_or => (k_not (K.wv (k_call rfl A_is_within I_is_within (ks_cons (k_name rfl) (ks_cons k_int (ks_cons (k_glob rfl) ks_nil))) (r_is_within _ _ _))))))) ?_ ?_
  · simp [isiD]
    omega
  refine e_for (fun i σ => ∃ x_powers x_one, σ = [some (.val (.int 2)), some (.val (enD its)), x_powers, x_one]) (i_itdV rfl) ⟨_, _, rfl⟩ (fun i d σ hd ⟨x_powers, x_one, hs⟩ => ?_) fun σ ⟨x_powers, x_one, hs⟩ => ?_
  · subst hs
    rw [keys_enc, List.getElem?_map] at hd
    cases hk : (its.map (·.1))[i]? with
    | none => rw [hk] at hd; cases hd
    | some k =>
      rw [hk] at hd
      cases hd
      have hm := List.mem_of_getElem? hk
      obtain ⟨k1, k2⟩ := h.all k hm
      obtain ⟨c, hc⟩ := getP_mem hm
      refine ⟨_, rfl, ?_⟩
      show Ends (exs G_is_sum _ [some (.val (.int 2)), some (.val (enD its)), some (.val (encK k)), x_one]) _
      have hsub : K G_is_sum [some (.val (.int 2)), some (.val (enD its)), some (.val (encK k)), x_one] (.sub (.name 1) (.name 2)) (.val (.int c)) := k_subD (K.wv (k_name rfl)) (K.wv (k_name rfl)) rfl (by rw [dget_enc, hc]; rfl)
      have hln : K G_is_sum [some (.val (.int 2)), some (.val (enD its)), some (.val (encK k)), x_one] (.bi .len [.name 2]) (.val (.int 2)) := k_lenT (ds := [.int (k.1 : Nat), .int (k.2 : Nat)]) (K.wv (k_name rfl))
      refine e_no (K.wv (k_or (K.wv (k_not (K.wv (k_isi (K.wv (k_name rfl)) rfl)))) fun h_or => (k_or (K.wv (k_ne (K.wv hln) (K.wv (k_name rfl)))) fun h_or => (k_not (K.wv (k_call rfl A_is_integer I_is_integer (ks_cons hsub ks_nil) (r_is_integer _))))))) rfl ?_
      refine e_no (K.wv (k_not (K.wv (k_all (l := [(k.1 : Int), (k.2 : Int)]) (f := fun i => decide ((0 : Int) ≤ i) && decide (i ≤ 60)) (K.wl (k_lc (enc := .int) (vs := [(k.1 : Int), (k.2 : Int)]) (i_name rfl) (Nat.le_of_ble_eq_true rfl) (fun v => rfl) (fun v => rfl) fun v hv => (k_call rfl A_is_within I_is_within (ks_cons (k_name rfl) (ks_cons k_int (ks_cons k_int ks_nil))) (r_is_within _ _ _)))))))) ?_ (e_nil ⟨_, _, rfl⟩)
      simp
      omega
  · subst hs
    exact e_ret k_bl rfl
theorem r_check_sum {its : It} (h : OkI its) : F_check_sum.run [.val (.int 2), .val (enD its)] = .ok (.val .non) none := by
  rw [R_check_sum]
  refine run_nx ?_
  show Ends (exs G_check_sum _ [some (.val (.int 2)), some (.val (enD its))]) _
  exact e_no (K.wv (k_not (K.wv (k_call rfl A_is_sum I_is_sum (ks_cons (k_name rfl) (ks_cons (k_name rfl) ks_nil)) (r_is_sum h))))) rfl (e_nil rfl)
end CL.Pl

set_option autoImplicit false
set_option linter.all false
set_option Elab.async false
set_option maxRecDepth 100000
set_option maxHeartbeats 1000000
/-! K99m4: value, and the law's own. -/
namespace CL.Pl
theorem r_check_prime {p : Nat} (h : p ∈ P3) : F_check_prime.run [.val (.int (p : Nat))] = .ok (.val .non) none := nonR (List.all_eq_true.mp c_prime p h)
theorem P3_pos {p : Nat} (h : p ∈ P3) : 3 ≤ p ∧ p ≤ 7 := by
  rcases List.mem_cons.mp h with rfl | h
  · decide
  rcases List.mem_cons.mp h with rfl | h
  · decide
  rcases List.mem_cons.mp h with rfl | h
  · decide
  cases h
theorem r_rest_power {p x k : Nat} (h : p ∈ P3) (hx : x < p) (hk : k ≤ 2) : F_rest_power.run [.val (.int (x : Nat)), .val (.int (k : Nat)), .val (.int (p : Nat))] = .ok (.val (.int ((x ^ k % p : Nat) : Int))) none :=
  intR (List.all_eq_true.mp (List.all_eq_true.mp (List.all_eq_true.mp c_rp p h) x (List.mem_range.mpr hx)) k (List.mem_range.mpr (by omega)))
/-- what a product brings, by value -/
def vt (p x y : Nat) (k : Nat × Nat) (c : Int) : Int := (c * ((x ^ k.1 % p : Nat) : Int) % (p : Nat)) * ((y ^ k.2 % p : Nat) : Int) % (p : Nat)
def sumV (f : (Nat × Nat) → Int → Int) (its : It) (ks : List (Nat × Nat)) : Int := (ks.map fun k => f k ((getP its k).getD 0)).sum
def valV (p : Nat) (its : It) (x y : Nat) : Int := sumV (vt p x y) its (its.map (·.1)) % (p : Nat)
theorem sum_take (f : Nat × Nat → Int) (ks : List (Nat × Nat)) {i : Nat} {k : Nat × Nat} (h : ks[i]? = some k) : ((ks.take (i + 1)).map f).sum = ((ks.take i).map f).sum + f k := by
  rw [List.take_succ, h]
  simp
theorem r_value {p x y : Nat} {its : It} (hp : p ∈ P3) (hI : OkI its) (hx : x < p) (hy : y < p) : F_value.run [.val (.int (p : Nat)), .val (enD its), .val (.tup [.int (x : Nat), .int (y : Nat)])] = .ok (.val (.int (valV p its x y))) none := by
  rw [R_value]
  refine run_of ?_
  obtain ⟨p3, p7⟩ := P3_pos hp
  show Ends (exs G_value _ [some (.val (.int (p : Nat))), some (.val (enD its)), some (.val (.tup [.int (x : Nat), .int (y : Nat)])), none, none, none, none, none]) _
  refine e_exprK (k_call rfl A_check_prime I_check_prime (ks_cons (k_name rfl) ks_nil) (r_check_prime hp)) ?_
  refine e_no (K.wv (k_or (K.wv (k_not (K.wv (k_isi (K.wv (k_name rfl)) rfl)))) fun h_or => (k_not (K.wv (k_chain (K.wv k_int) (K.wv (k_lenT (ds := [.int (x : Nat), .int (y : Nat)]) (K.wv (k_name rfl)))) (c_leI _ _) (K.wv (k_glob rfl)) (c_leI _ _)))))) rfl ?_
  refine e_no (K.wv (k_not (K.wv (k_all (l := [(x : Int), (y : Int)]) (f := fun i => true) (K.wl (k_lc (enc := .int) (vs := [(x : Int), (y : Int)]) (i_name rfl) (Nat.le_of_ble_eq_true rfl) (fun v => rfl) (fun v => rfl) fun v hv => (k_call rfl A_is_integer I_is_integer (ks_cons (k_name rfl) ks_nil) (r_is_integer _)))))))) rfl ?_
  refine e_exprK (k_call rfl A_check_sum I_check_sum (ks_cons (k_lenT (ds := [.int (x : Nat), .int (y : Nat)]) (K.wv (k_name rfl))) (ks_cons (k_name rfl) ks_nil)) (r_check_sum hI)) ?_
  refine e_set k_int (by simp) (.inl (by decide)) ?_
  refine e_for (fun i σ => ∃ x_one x_powers x_here x_power, σ = [some (.val (.int (p : Nat))), some (.val (enD its)), some (.val (.tup [.int (x : Nat), .int (y : Nat)])), x_one, some (.val (.int (sumV (vt p x y) its ((its.map (·.1)).take i)))), x_powers, x_here, x_power]) (i_itdV rfl) ⟨_, _, _, _, rfl⟩ (fun i d σ hd ⟨x_one, x_powers, x_here, x_power, hs⟩ => ?_) fun σ ⟨x_one, x_powers, x_here, x_power, hs⟩ => ?_
  · subst hs
    rw [keys_enc, List.getElem?_map] at hd
    cases hk : (its.map (·.1))[i]? with
    | none => rw [hk] at hd; cases hd
    | some k =>
      rw [hk] at hd
      cases hd
      have hm := List.mem_of_getElem? hk
      obtain ⟨k1, k2⟩ := hI.all k hm
      obtain ⟨c, hc⟩ := getP_mem hm
      have ht : sumV (vt p x y) its ((its.map (·.1)).take (i + 1)) = sumV (vt p x y) its ((its.map (·.1)).take i) + vt p x y k c := by
        unfold sumV
        rw [sum_take _ _ hk, hc]
        rfl
      rw [ht]
      generalize sumV (vt p x y) its ((its.map (·.1)).take i) = s0
      refine ⟨_, rfl, ?_⟩
      show Ends (exs G_value _ [some (.val (.int (p : Nat))), some (.val (enD its)), some (.val (.tup [.int (x : Nat), .int (y : Nat)])), x_one, some (.val (.int s0)), some (.val (encK k)), x_here, x_power]) _
      refine e_set (i := 6) (x := .val (.int c)) (k_subD (K.wv (k_name rfl)) (K.wv (k_name rfl)) rfl (by rw [dget_enc, hc]; rfl)) (by simp) (.inl (by decide)) ?_
      show Ends (exs G_value _ [some (.val (.int (p : Nat))), some (.val (enD its)), some (.val (.tup [.int (x : Nat), .int (y : Nat)])), x_one, some (.val (.int s0)), some (.val (encK k)), some (.val (.int c)), x_power]) _
      have m1 : (0 : Int) < (p : Nat) := by omega
      have b1 : ∀ n : Nat, (0 : Int) ≤ ((n % p : Nat) : Int) ∧ ((n % p : Nat) : Int) < 2147483648 := fun n => by
        have := Nat.mod_lt n (show 0 < p by omega)
        omega
      refine e_for2 (d1 := .tup [.int (k.1 : Nat), .int (x : Nat)]) (d2 := .tup [.int (k.2 : Nat), .int (y : Nat)]) (i_zipK (xs := [.int (k.1 : Nat), .int (k.2 : Nat)]) (ys := [.int (x : Nat), .int (y : Nat)]) (k_name rfl) (k_name rfl) rfl rfl) rfl ?_
      show Ends (exs G_value _ [some (.val (.int (p : Nat))), some (.val (enD its)), some (.val (.tup [.int (x : Nat), .int (y : Nat)])), some (.val (.int (x : Nat))), some (.val (.int s0)), some (.val (encK k)), some (.val (.int c)), some (.val (.int (k.1 : Nat)))]) _
      refine e_set (i := 6) (k_mod (K.wv (k_intI (K.wv (k_mul (K.wv (k_name rfl)) (K.wv (k_call rfl A_rest_power I_rest_power (ks_cons (k_name rfl) (ks_cons (k_name rfl) (ks_cons (k_name rfl) ks_nil))) (r_rest_power hp hx k1))) (mulOk_r (b1 _).1 (b1 _).2))))) (K.wv (k_name rfl)) m1) (by simp) (.inl (by decide)) (e_nil ⟨rfl, _, rfl, ?_⟩)
      show Ends (exs G_value _ [some (.val (.int (p : Nat))), some (.val (enD its)), some (.val (.tup [.int (x : Nat), .int (y : Nat)])), some (.val (.int (y : Nat))), some (.val (.int s0)), some (.val (encK k)), some (.val (.int (c * ((x ^ k.1 % p : Nat) : Int) % (p : Nat)))), some (.val (.int (k.2 : Nat)))]) _
      refine e_set (i := 6) (k_mod (K.wv (k_intI (K.wv (k_mul (K.wv (k_name rfl)) (K.wv (k_call rfl A_rest_power I_rest_power (ks_cons (k_name rfl) (ks_cons (k_name rfl) (ks_cons (k_name rfl) ks_nil))) (r_rest_power hp hy k2))) (mulOk_r (b1 _).1 (b1 _).2))))) (K.wv (k_name rfl)) m1) (by simp) (.inl (by decide)) (e_nil ⟨rfl, ?_⟩)
      show Ends (exs G_value _ [some (.val (.int (p : Nat))), some (.val (enD its)), some (.val (.tup [.int (x : Nat), .int (y : Nat)])), some (.val (.int (y : Nat))), some (.val (.int s0)), some (.val (encK k)), some (.val (.int (vt p x y k c))), some (.val (.int (k.2 : Nat)))]) _
      refine e_next (σ1 := [some (.val (.int (p : Nat))), some (.val (enD its)), some (.val (.tup [.int (x : Nat), .int (y : Nat)])), some (.val (.int (y : Nat))), some (.val (.int (s0 + vt p x y k c))), some (.val (encK k)), some (.val (.int (vt p x y k c))), some (.val (.int (k.2 : Nat)))]) rfl (e_nil ⟨_, _, _, _, rfl⟩)
  · subst hs
    rw [List.length_map, List.length_map, List.take_of_length_le (by rw [List.length_map]; exact Nat.le_refl _)]
    exact e_ret (k_mod (K.wv (k_intI (K.wv (k_name rfl)))) (K.wv (k_name rfl)) (by omega)) rfl
end CL.Pl

set_option autoImplicit false
set_option linter.all false
set_option Elab.async false
set_option maxRecDepth 100000
set_option maxHeartbeats 1000000
/-! K99m5: the law's own value; the two are one. -/
namespace CL.Pl
/-! sorted keys -/
def insK (x : Nat × Nat) : List (Nat × Nat) → List (Nat × Nat)
  | [] => [x]
  | y :: ys => if ltb (encK y) (encK x) then y :: insK x ys else x :: y :: ys
def isoK : List (Nat × Nat) → List (Nat × Nat)
  | [] => []
  | x :: xs => insK x (isoK xs)
theorem insD_K (x : Nat × Nat) : ∀ l : List (Nat × Nat), insD (encK x) (l.map encK) = (insK x l).map encK
  | [] => rfl
  | y :: l => by
    rw [List.map_cons, insD, insK]
    by_cases h : ltb (encK y) (encK x) = true
    · rw [if_pos h, if_pos h, List.map_cons, insD_K x l]
    · rw [if_neg h, if_neg h, List.map_cons, List.map_cons]
theorem isortD_K : ∀ l : List (Nat × Nat), isortD (l.map encK) = (isoK l).map encK
  | [] => rfl
  | x :: l => by rw [List.map_cons, isortD, isortD_K l, insD_K, isoK]
theorem insK_perm (x : Nat × Nat) : ∀ l : List (Nat × Nat), (insK x l).Perm (x :: l)
  | [] => List.Perm.refl _
  | y :: l => by
    rw [insK]
    split
    · exact ((insK_perm x l).cons y).trans (List.Perm.swap x y l)
    · exact List.Perm.refl _
theorem isoK_perm : ∀ l : List (Nat × Nat), (isoK l).Perm l
  | [] => List.Perm.refl _
  | x :: l => (insK_perm x _).trans ((isoK_perm l).cons x)
theorem sortV_K {ks : List (Nat × Nat)} (hb : ∀ k ∈ ks, k.1 ≤ 2 ∧ k.2 ≤ 2) (hl : ks.length < 64) : sortV (ks.map encK) = some ((isoK ks).map encK) := by
  rw [← isortD_K]
  unfold sortV
  split
  · rfl
  · cases ks with
    | nil => rfl
    | cons k ks =>
      have h1 : tupLen ((k :: ks).map encK) = 2 := rfl
      rw [h1]
      have h2 : ((k :: ks).map encK).all (tupOf 2) = true := by
        rw [List.all_eq_true]
        intro d hd
        obtain ⟨q, hq, rfl⟩ := List.mem_map.mp hd
        obtain ⟨a, b⟩ := hb q hq
        simp [encK, tupOf]
        omega
      rw [h2, List.length_map, decide_eq_true hl]
      rfl
theorem perm_sum {α : Type} (f : α → Int) {l m : List α} (h : l.Perm m) : (l.map f).sum = (m.map f).sum := by
  induction h with
  | nil => rfl
  | cons x _ ih => simp [ih]
  | swap x y l => simp; omega
  | trans _ _ i1 i2 => rw [i1, i2]
/-! the law's own value -/
def pw (p x : Nat) : Nat → Int → Int
  | 0, n => n
  | k + 1, n => pw p x k n * (x : Nat) % (p : Nat)
def lt2 (p x y : Nat) (k : Nat × Nat) (c : Int) : Int := pw p y k.2 (pw p x k.1 c)
def lawV (p : Nat) (its : It) (x y : Nat) : Int := sumV (lt2 p x y) its (isoK (its.map (·.1))) % (p : Nat)
theorem pw_mod (p x : Nat) (n : Int) : ∀ k : Nat, pw p x k n % (p : Nat) = n * (x : Int) ^ k % (p : Nat)
  | 0 => by rw [pw, Int.pow_zero, Int.mul_one]
  | k + 1 => by
    rw [pw, Int.emod_emod, Int.mul_emod, pw_mod p x n k, ← Int.mul_emod, Int.mul_assoc, ← Int.pow_succ]
theorem term_mod (p x y : Nat) (k : Nat × Nat) (c : Int) : vt p x y k c % (p : Nat) = lt2 p x y k c % (p : Nat) := by
  unfold vt lt2
  rw [pw_mod, Int.emod_emod, Int.mul_emod (pw p x k.1 c), pw_mod]
  rw [Int.natCast_emod, Int.natCast_emod, Int.natCast_pow, Int.natCast_pow]
  rw [Int.mul_emod (c * _ % _), Int.emod_emod, Int.emod_emod, Int.mul_emod c, Int.emod_emod, ← Int.mul_emod c]
theorem sum_mod {f g : Nat × Nat → Int} {p : Int} (h : ∀ k, f k % p = g k % p) : ∀ ks : List (Nat × Nat), (ks.map f).sum % p = (ks.map g).sum % p
  | [] => rfl
  | k :: ks => by
    rw [List.map_cons, List.map_cons, List.sum_cons, List.sum_cons, Int.add_emod, h k, sum_mod h ks, ← Int.add_emod]
theorem val_eq (p : Nat) (its : It) (x y : Nat) : valV p its x y = lawV p its x y := by
  unfold valV lawV sumV
  rw [perm_sum _ (isoK_perm _)]
  exact sum_mod (fun k => term_mod p x y k _) _
theorem valV_mod (p : Nat) (its : It) (x y : Nat) : valV p its x y % (p : Nat) = valV p its x y := by
  unfold valV
  rw [Int.emod_emod]
/-- the powers of one letter -/
theorem l_pow {p x : Nat} {k : Nat} {n : Int} {ss : List S} {Q : Flow → St → Prop} {x_items x_point x_total_now x_powers x_again : Option C} (hp : 3 ≤ p ∧ p ≤ 7) (hx : x < p) (hk : k ≤ 2)
    (h : ∀ x_again : Option C, Ends (exs G__law_value ss [some (.val (.int (p : Nat))), x_items, x_point, x_total_now, x_powers, some (.val (.int (pw p x k n))), some (.val (.int (x : Nat))), some (.val (.int (k : Nat))), x_again]) Q) :
    Ends (exs G__law_value (.for_ (.name 8) (.rng [.name 7]) [.set 5 (.bin .mod (.bi .int [.bin .mul (.name 5) (.name 6)]) (.name 0))] :: ss) [some (.val (.int (p : Nat))), x_items, x_point, x_total_now, x_powers, some (.val (.int n)), some (.val (.int (x : Nat))), some (.val (.int (k : Nat))), x_again]) Q := by
  refine e_for (fun i σ => ∃ x_again, σ = [some (.val (.int (p : Nat))), x_items, x_point, x_total_now, x_powers, some (.val (.int (pw p x i n))), some (.val (.int (x : Nat))), some (.val (.int (k : Nat))), x_again]) (i_rngN (n := k) (K.wv (k_name rfl)) (by omega)) ⟨_, rfl⟩ (fun i d σ hd ⟨x_again, hs⟩ => ?_) fun σ ⟨x_again, hs⟩ => ?_
  · subst hs
    refine ⟨_, rfl, ?_⟩
    refine e_set (i := 5) (k_mod (K.wv (k_intI (K.wv (k_mul (K.wv (k_name rfl)) (K.wv (k_name rfl)) (mulOk_r (by omega) (by omega)))))) (K.wv (k_name rfl)) (by omega)) (by simp [put]) (.inl (by decide)) (e_nil ⟨_, rfl⟩)
  · subst hs
    rw [List.length_map, List.length_range]
    exact h _
theorem r__law_value {p x y : Nat} {its : It} (hp : p ∈ P3) (hI : OkI its) (hx : x < p) (hy : y < p) : F__law_value.run [.val (.int (p : Nat)), .val (enD its), .val (.tup [.int (x : Nat), .int (y : Nat)])] = .ok (.val (.int (lawV p its x y))) none := by
  rw [R__law_value]
  refine run_of ?_
  have p37 := P3_pos hp
  obtain ⟨p3, p7⟩ := p37
  show Ends (exs G__law_value _ [some (.val (.int (p : Nat))), some (.val (enD its)), some (.val (.tup [.int (x : Nat), .int (y : Nat)])), none, none, none, none, none, none]) _
  refine e_set k_int (by simp) (.inl (by decide)) ?_
  have hle := hI.le
  have hsrt : sortV ((its.map encP).map (·.1)) = some ((isoK (its.map (·.1))).map encK) := by
    rw [keys_enc]
    exact sortV_K hI.all (by rw [List.length_map]; omega)
  refine e_for (fun i σ => ∃ x_powers x_number x_base x_power_now x_again, σ = [some (.val (.int (p : Nat))), some (.val (enD its)), some (.val (.tup [.int (x : Nat), .int (y : Nat)])), some (.val (.int (sumV (lt2 p x y) its ((isoK (its.map (·.1))).take i)))), x_powers, x_number, x_base, x_power_now, x_again]) (i_k (k_sortD (K.wv (k_name rfl)) (by rw [List.length_map]; omega) hsrt) rfl) ⟨_, _, _, _, _, rfl⟩ (fun i d σ hd ⟨x_powers, x_number, x_base, x_power_now, x_again, hs⟩ => ?_) fun σ ⟨x_powers, x_number, x_base, x_power_now, x_again, hs⟩ => ?_
  · subst hs
    rw [List.getElem?_map] at hd
    cases hk : (isoK (its.map (·.1)))[i]? with
    | none => rw [hk] at hd; cases hd
    | some k =>
      rw [hk] at hd
      cases hd
      have hm := (isoK_perm _).mem_iff.mp (List.mem_of_getElem? hk)
      obtain ⟨k1, k2⟩ := hI.all k hm
      obtain ⟨c, hc⟩ := getP_mem hm
      have ht : sumV (lt2 p x y) its ((isoK (its.map (·.1))).take (i + 1)) = sumV (lt2 p x y) its ((isoK (its.map (·.1))).take i) + lt2 p x y k c := by
        unfold sumV
        rw [sum_take _ _ hk, hc]
        rfl
      rw [ht]
      generalize sumV (lt2 p x y) its ((isoK (its.map (·.1))).take i) = s0
      refine ⟨_, rfl, ?_⟩
      show Ends (exs G__law_value _ [some (.val (.int (p : Nat))), some (.val (enD its)), some (.val (.tup [.int (x : Nat), .int (y : Nat)])), some (.val (.int s0)), some (.val (encK k)), x_number, x_base, x_power_now, x_again]) _
      refine e_set (i := 5) (x := .val (.int c)) (k_subD (K.wv (k_name rfl)) (K.wv (k_name rfl)) rfl (by rw [dget_enc, hc]; rfl)) (by simp) (.inl (by decide)) ?_
      show Ends (exs G__law_value _ [some (.val (.int (p : Nat))), some (.val (enD its)), some (.val (.tup [.int (x : Nat), .int (y : Nat)])), some (.val (.int s0)), some (.val (encK k)), some (.val (.int c)), x_base, x_power_now, x_again]) _
      refine e_for2 (d1 := .tup [.int (x : Nat), .int (k.1 : Nat)]) (d2 := .tup [.int (y : Nat), .int (k.2 : Nat)]) (i_zipK (xs := [.int (x : Nat), .int (y : Nat)]) (ys := [.int (k.1 : Nat), .int (k.2 : Nat)]) (k_name rfl) (k_name rfl) rfl rfl) rfl ?_
      refine l_pow ⟨p3, p7⟩ hx k1 fun x_again => e_nil ⟨rfl, _, rfl, ?_⟩
      refine l_pow ⟨p3, p7⟩ hy k2 fun x_again => e_nil ⟨rfl, ?_⟩
      show Ends (exs G__law_value _ [some (.val (.int (p : Nat))), some (.val (enD its)), some (.val (.tup [.int (x : Nat), .int (y : Nat)])), some (.val (.int s0)), some (.val (encK k)), some (.val (.int (lt2 p x y k c))), some (.val (.int (y : Nat))), some (.val (.int (k.2 : Nat))), x_again]) _
      refine e_set (i := 3) (k_add (K.wv (k_name rfl)) (K.wv (k_name rfl))) (by simp) (.inl (by decide)) (e_nil ⟨_, _, _, _, _, rfl⟩)
  · subst hs
    rw [List.length_map, List.take_of_length_le (Nat.le_refl _)]
    exact e_ret (k_mod (K.wv (k_intI (K.wv (k_name rfl)))) (K.wv (k_name rfl)) (by omega)) rfl
end CL.Pl

set_option autoImplicit false
set_option linter.all false
set_option Elab.async false
set_option maxRecDepth 100000
set_option maxHeartbeats 1000000
/-! K99m6: lots of rests, and as lots of a group. -/
namespace CL.Pl
/-! closed -/
abbrev grp (p : Nat) : List (Nat × D) := [(0, .tup [.int (p : Nat)]), (1, .int (p : Nat))]
def eh (h : Nat) : D := .tup [.int (h : Nat)]
def eI (h : Nat) : D := .int (h : Nat)
def isGrpR (r : FR) (p : Nat) : Bool := match r with
  | .ok (.val .non) (some (.oi 4 [(0, .tup [.int a]), (1, .int b)])) => a == (p : Int) && b == (p : Int)
  | _ => false
theorem grpR {r : FR} {p : Nat} (h : isGrpR r p = true) : r = .ok (.val .non) (some (.oi 4 (grp p))) := by
  unfold isGrpR at h
  split at h
  · rw [Bool.and_eq_true, beq_iff_eq, beq_iff_eq] at h
    obtain ⟨rfl, rfl⟩ := h
    rfl
  · cases h
def isLstR (r : FR) (is : List Int) : Bool := match r with
  | .ok (.ol ds) none => ints? ds == some is
  | _ => false
theorem lstR {r : FR} {is : List Int} (h : isLstR r is = true) : r = .ok (.ol (is.map .int)) none := by
  unfold isLstR at h
  split at h
  · rw [beq_iff_eq] at h; rw [ints_of h]
  · cases h
theorem c_group : P3.all (fun p => isGrpR (F_init_Group.run [.oi 4 [], .val (.tup [.int (p : Nat)])]) p) = true := by decide +kernel
theorem c_parts : P3.all (fun p => isLstR (F_part_sizes.run [.val (.ins 4 (grp p))]) [1, (p : Int)]) = true := by decide +kernel
theorem c_add : P3.all (fun p => (List.range p).all fun a => (List.range p).all fun b => isTupR (F_add.run [.val (.ins 4 (grp p)), .val (eh a), .val (eh b)]) [(((a + b) % p : Nat) : Int)]) = true := by decide +kernel
theorem c_check : P3.all (fun p => (lotsN p).all fun l => isNonR (F_check_lot.run [.val (.ins 4 (grp p)), .val (.tup (l.map eh))])) = true := by decide +kernel
theorem c_len : P3.all (fun p => (lotsN p).all fun l => decide (1 ≤ l.length) && decide (l.length ≤ p) && l.all fun x => decide (x < p)) = true := by decide +kernel
section
variable {p : Nat} {l m : List Nat}
theorem lot_len (hp : p ∈ P3) (hl : l ∈ lotsN p) : 1 ≤ l.length ∧ l.length ≤ p ∧ ∀ x ∈ l, x < p := by
  have := List.all_eq_true.mp (List.all_eq_true.mp c_len p hp) l hl
  rw [Bool.and_eq_true, Bool.and_eq_true, decide_eq_true_eq, decide_eq_true_eq, List.all_eq_true] at this
  exact ⟨this.1.1, this.1.2, fun x hx => of_decide_eq_true (this.2 x hx)⟩
theorem r_is_rest_lot (hp : p ∈ P3) (hl : l ∈ lotsN p) : F_is_rest_lot.run [.val (.int (p : Nat)), .val (enN l)] = .ok (.val (.bl true)) none :=
  blR (List.all_eq_true.mp (List.all_eq_true.mp c_lot p hp) l hl)
theorem r_check_lot (hp : p ∈ P3) (hl : l ∈ lotsN p) : F_check_lot.run [.val (.ins 4 (grp p)), .val (.tup (l.map eh))] = .ok (.val .non) none :=
  nonR (List.all_eq_true.mp (List.all_eq_true.mp c_check p hp) l hl)
theorem r_add (hp : p ∈ P3) {a b : Nat} (ha : a < p) (hb : b < p) : F_add.run [.val (.ins 4 (grp p)), .val (eh a), .val (eh b)] = .ok (.val (eh ((a + b) % p))) none :=
  tupR (List.all_eq_true.mp (List.all_eq_true.mp (List.all_eq_true.mp c_add p hp) a (List.mem_range.mpr ha)) b (List.mem_range.mpr hb))
theorem r_part_sizes (hp : p ∈ P3) : F_part_sizes.run [.val (.ins 4 (grp p))] = .ok (.ol [.int 1, .int (p : Nat)]) none :=
  lstR (List.all_eq_true.mp c_parts p hp)
theorem r_group (hp : p ∈ P3) : (mkFun F_init_Group 4).run [.val (.tup [.int (p : Nat)])] = .ok (.oi 4 (grp p)) none := by
  have := grpR (List.all_eq_true.mp c_group p hp)
  show (match F_init_Group.run [.oi 4 [], .val (.tup [.int (p : Nat)])] with
    | .ok (.val .non) (some y) => FR.ok y none
    | _ => .no) = _
  rw [this]
end
/-! dicts that tell what is there -/
def keyed (f : Nat → D) (ks : List Nat) : List (D × D) := ks.map fun k => (f k, .bl true)
def addN (ks : List Nat) (n : Nat) : List Nat := if ks.any (fun x => x == n) then ks else ks ++ [n]
/-- a kind of keys: told apart and put in order like the numbers -/
structure Kd (f : Nat → D) : Prop where
  eq : ∀ a b, eqb (f a) (f b) = (a == b)
  lt : ∀ a b, ltb (f a) (f b) = decide (a < b)
theorem kd_I : Kd eI := by
  refine ⟨fun a b => ?_, fun a b => ?_⟩
  · show ((a : Int) == (b : Int)) = (a == b)
    rw [Bool.eq_iff_iff, beq_iff_eq, beq_iff_eq]
    omega
  · simp [eI, ltb]
theorem kd_T : Kd eh := by
  refine ⟨fun a b => ?_, fun a b => ?_⟩
  · have : ((a : Int) == (b : Int)) = (a == b) := kd_I.eq a b
    simp [eh, eqb, eqbs, this]
  · simp [eh, ltb, ltbs, eqb]
    omega
section
variable {f : Nat → D}
theorem any_f (hf : Kd f) (n : Nat) : ∀ ks : List Nat, ((ks.map f).any fun x => eqb x (f n)) = ks.any fun x => x == n
  | [] => rfl
  | k :: ks => by rw [List.map_cons, List.any_cons, List.any_cons, hf.eq, any_f hf n ks]
theorem dput_keyed (hf : Kd f) (ks : List Nat) (n : Nat) : dput (keyed f ks) (f n) (.bl true) = keyed f (addN ks n) := by
  have h1 : ((keyed f ks).any fun q => eqb q.1 (f n)) = ks.any fun x => x == n := by
    unfold keyed
    rw [List.any_map]
    congr 1
    funext k
    exact hf.eq k n
  unfold dput addN
  rw [h1]
  by_cases h : (ks.any fun x => x == n) = true
  · rw [if_pos h, if_pos h]
    unfold keyed
    rw [List.map_map]
    apply List.map_congr_left
    intro k _
    show (if eqb (f k) (f n) = true then (f k, D.bl true) else (f k, .bl true)) = _
    split <;> rfl
  · rw [if_neg h, if_neg h]
    unfold keyed
    rw [List.map_append]
    rfl
theorem keyed_keys (ks : List Nat) : (keyed f ks).map (·.1) = ks.map f := by
  unfold keyed
  rw [List.map_map]
  rfl
theorem dedN_cons (acc : List Nat) (n : Nat) (l : List Nat) : dedN acc (n :: l) = dedN (addN acc n) l := by
  rw [dedN]
  unfold addN
  split <;> rfl
theorem dedN_append : ∀ (xs acc ys : List Nat), dedN acc (xs ++ ys) = dedN (dedN acc xs) ys
  | [], acc, ys => rfl
  | x :: xs, acc, ys => by rw [List.cons_append, dedN_cons, dedN_cons, dedN_append xs]
theorem dedup_f (hf : Kd f) : ∀ (l acc : List Nat), dedup (acc.map f) (l.map f) = (dedN acc l).map f
  | [], acc => rfl
  | n :: l, acc => by
    rw [List.map_cons, dedup, any_f hf, dedN]
    split
    · exact dedup_f hf l acc
    · have := dedup_f hf l (acc ++ [n])
      rw [List.map_append] at this
      exact this
theorem insD_f (hf : Kd f) (x : Nat) : ∀ l : List Nat, insD (f x) (l.map f) = (insN x l).map f
  | [] => rfl
  | y :: l => by
    rw [List.map_cons, insD, hf.lt, insN]
    by_cases h : y < x
    · rw [if_pos (by simpa using h), if_pos h, List.map_cons, insD_f hf x l]
    · rw [if_neg (by simpa using h), if_neg h, List.map_cons, List.map_cons]
theorem isortD_f (hf : Kd f) : ∀ l : List Nat, isortD (l.map f) = (isoN l).map f
  | [] => rfl
  | x :: l => by rw [List.map_cons, isortD, isortD_f hf l, insD_f hf, isoN]
end
theorem dedN_len : ∀ (l acc : List Nat), (dedN acc l).length ≤ acc.length + l.length
  | [], acc => Nat.le_refl _
  | n :: l, acc => by
    rw [dedN_cons]
    have := dedN_len l (addN acc n)
    have h2 : (addN acc n).length ≤ acc.length + 1 := by
      unfold addN
      split
      · omega
      · rw [List.length_append]; exact Nat.le_refl _
    rw [List.length_cons]
    omega
theorem insN_len (x : Nat) : ∀ l : List Nat, (insN x l).length = l.length + 1
  | [] => rfl
  | y :: l => by
    rw [insN]
    split
    · rw [List.length_cons, insN_len x l, List.length_cons]
    · rfl
theorem isoN_len : ∀ l : List Nat, (isoN l).length = l.length
  | [] => rfl
  | x :: l => by rw [isoN, insN_len, isoN_len l, List.length_cons]
theorem flat_len {f : Nat → List Nat} {B : Nat} : ∀ (l : List Nat), (∀ a ∈ l, (f a).length ≤ B) → (l.flatMap f).length ≤ l.length * B
  | [], _ => by simp
  | a :: l, h => by
    rw [List.flatMap_cons, List.length_append, List.length_cons, Nat.succ_mul]
    have h1 := h a List.mem_cons_self
    have h2 := flat_len l fun a m => h a (List.mem_cons_of_mem _ m)
    omega
theorem sortV_I (ks : List Nat) : sortV (ks.map eI) = some ((isoN ks).map eI) := by
  have h1 : (ks.map eI).all isInt = true := isInts_nat ks
  unfold sortV
  rw [if_pos h1, isortD_f kd_I]
theorem sortV_T {ks : List Nat} (h : ∀ k ∈ ks, k < 1000000) (hl : ks.length < 64) : sortV (ks.map eh) = some ((isoN ks).map eh) := by
  rw [← isortD_f kd_T]
  unfold sortV
  split
  · rfl
  · cases ks with
    | nil => rfl
    | cons k ks =>
      have h1 : tupLen ((k :: ks).map eh) = 1 := rfl
      rw [h1]
      have h2 : ((k :: ks).map eh).all (tupOf 1) = true := by
        rw [List.all_eq_true]
        intro d hd
        obtain ⟨q, hq, rfl⟩ := List.mem_map.mp hd
        have := h q hq
        simp [eh, tupOf]
        omega
      rw [h2, List.length_map, decide_eq_true hl]
      rfl
theorem isetD_I {l : List Nat} (hl : l.length < 64) : isetD (l.map eI) = some ((setN l).map eI) := by
  unfold isetD setN
  have h1 : (l.map eI).all isInt = true := isInts_nat l
  have h2 : dedup [] (l.map eI) = (dedN [] l).map eI := dedup_f kd_I l []
  have h3 := dedN_len l []
  rw [h1, h2, List.length_map, List.length_map, decide_eq_true (by simp at h3; omega), decide_eq_true (by omega), isortD_f kd_I]
  rfl
end CL.Pl

set_option autoImplicit false
set_option linter.all false
set_option Elab.async false
set_option maxRecDepth 100000
set_option maxHeartbeats 1000000
/-! K99m7: restricted, sums, least_sums. -/
namespace CL.Pl
theorem K.cast {Γ : Ctx} {σ : St} {e : E} {x y : C} (h : K Γ σ e x) (h2 : x = y) : K Γ σ e y := h2 ▸ h
/-- sums of two of them where their value is not 0 -/
def rowN (p : Nat) (its : It) (a : Nat) (m : List Nat) : List Nat := (m.filter fun b => !decide (valV p its a b = 0)).map fun b => (a + b) % p
def rsN (p : Nat) (its : It) (l m : List Nat) : List Nat := l.flatMap fun a => rowN p its a m
theorem take_get {α : Type} {l : List α} {i : Nat} {a : α} (h : l[i]? = some a) : l.take (i + 1) = l.take i ++ [a] := by
  rw [List.take_succ, h]; rfl
theorem map_get {α : Type} {f : α → D} {l : List α} {i : Nat} {d : D} (h : (l.map f)[i]? = some d) : ∃ a, l[i]? = some a ∧ d = f a ∧ a ∈ l := by
  rw [List.getElem?_map] at h
  cases e : l[i]? with
  | none => rw [e] at h; cases h
  | some a => rw [e] at h; cases h; exact ⟨a, rfl, rfl, List.mem_of_getElem? e⟩
section
variable {p : Nat} {l m : List Nat} {its : It}
theorem row_len (a : Nat) (m : List Nat) : (rowN p its a m).length ≤ m.length := by
  unfold rowN
  rw [List.length_map]
  exact List.length_filter_le _ _
theorem rs_len (hp : p ∈ P3) (hl : l.length ≤ p) (hm : m.length ≤ p) : (rsN p its l m).length ≤ 49 := by
  have h1 : (rsN p its l m).length ≤ l.length * m.length := flat_len l fun a _ => row_len a m
  have := P3_pos hp
  have h2 : l.length * m.length ≤ 7 * 7 := Nat.mul_le_mul (by omega) (by omega)
  omega
theorem r_restricted (hp : p ∈ P3) (hl : l ∈ lotsN p) (hm : m ∈ lotsN p) (hI : OkI its) : F_restricted.run [.val (.int (p : Nat)), .val (enN l), .val (enN m), .val (enD its)] = .ok (.val (.tup ((setN (rsN p its l m)).map eI))) none := by
  rw [R_restricted]
  refine run_of ?_
  obtain ⟨p3, p7⟩ := P3_pos hp
  obtain ⟨l1, l2, l3⟩ := lot_len hp hl
  obtain ⟨m1, m2, m3⟩ := lot_len hp hm
  have m0 : (0 : Int) < (p : Nat) := by omega
  show Ends (exs G_restricted _ [some (.val (.int (p : Nat))), some (.val (enN l)), some (.val (enN m)), some (.val (enD its)), none, none, none]) _
  refine e_exprK (k_call rfl A_check_prime I_check_prime (ks_cons (k_name rfl) ks_nil) (r_check_prime hp)) ?_
  refine e_no (K.wv (k_or (K.wv (k_not (K.wv (k_call rfl A_is_rest_lot I_is_rest_lot (ks_cons (k_name rfl) (ks_cons (k_name rfl) ks_nil)) (r_is_rest_lot hp hl))))) fun h_or => (k_not (K.wv (k_call rfl A_is_rest_lot I_is_rest_lot (ks_cons (k_name rfl) (ks_cons (k_name rfl) ks_nil)) (r_is_rest_lot hp hm)))))) rfl ?_
  refine e_exprK (k_call rfl A_check_sum I_check_sum (ks_cons k_int (ks_cons (k_name rfl) ks_nil)) (r_check_sum hI)) ?_
  refine e_set (i := 4) (x := .od false (keyed eI (dedN [] []))) k_dic0 (by simp) (.inl (by decide)) ?_
  refine e_for (fun i σ => ∃ x_mine x_its, σ = [some (.val (.int (p : Nat))), some (.val (enN l)), some (.val (enN m)), some (.val (enD its)), some (.od false (keyed eI (dedN [] (rsN p its (l.take i) m)))), x_mine, x_its]) (i_name rfl) ⟨_, _, rfl⟩ (fun i d σ hd ⟨x_mine, x_its, hs⟩ => ?_) fun σ ⟨x_mine, x_its, hs⟩ => ?_
  · subst hs
    obtain ⟨a, ha, rfl, am⟩ := map_get hd
    have ht : rsN p its (l.take (i + 1)) m = rsN p its (l.take i) m ++ rowN p its a m := by
      rw [take_get ha]
      unfold rsN
      rw [List.flatMap_append, List.flatMap_cons, List.flatMap_nil, List.append_nil]
    rw [ht, dedN_append]
    have hlen : (dedN [] (rsN p its (l.take i) m)).length ≤ 49 := by
      have h1 := dedN_len (rsN p its (l.take i) m) []
      have h2 : (rsN p its (l.take i) m).length ≤ 49 := rs_len hp (by rw [List.length_take]; omega) m2
      simp at h1
      omega
    generalize dedN [] (rsN p its (l.take i) m) = acc at hlen
    refine ⟨_, rfl, ?_⟩
    have ap := l3 a am
    refine e_for (fun j σ => ∃ x_its, σ = [some (.val (.int (p : Nat))), some (.val (enN l)), some (.val (enN m)), some (.val (enD its)), some (.od false (keyed eI (dedN acc (rowN p its a (m.take j))))), some (.val (.int (a : Nat))), x_its]) (i_name rfl) ⟨_, rfl⟩ (fun j d σ hd ⟨x_its, hs⟩ => ?_) fun σ ⟨x_its, hs⟩ => ?_
    · subst hs
      obtain ⟨b, hb, rfl, bm⟩ := map_get hd
      have bp := m3 b bm
      refine ⟨_, rfl, ?_⟩
      show Ends (exs G_restricted _ [some (.val (.int (p : Nat))), some (.val (enN l)), some (.val (enN m)), some (.val (enD its)), some (.od false (keyed eI (dedN acc (rowN p its a (m.take j))))), some (.val (.int (a : Nat))), some (.val (.int (b : Nat)))]) _
      have hr : rowN p its a (m.take (j + 1)) = rowN p its a (m.take j) ++ (if (!decide (valV p its a b = 0)) = true then [(a + b) % p] else []) := by
        rw [take_get hb]
        unfold rowN
        rw [List.filter_append, List.map_append, List.filter_cons, List.filter_nil]
        split <;> rfl
      have hl2 : (dedN acc (rowN p its a (m.take j))).length ≤ 60 := by
        have h1 := dedN_len (rowN p its a (m.take j)) acc
        have h2 : (rowN p its a (m.take j)).length ≤ (m.take j).length := row_len a _
        rw [List.length_take] at h2
        omega
      refine e_ife (K.wv (k_ne (K.wv (k_call rfl A_value I_value (ks_cons (k_name rfl) (ks_cons (k_name rfl) (ks_cons (k_tup (ks_cons (k_name rfl) (ks_cons (k_name rfl) ks_nil))) ks_nil))) (r_value hp hI ap bp))) (K.wv k_int))) (fun hc => ?_) fun hc => ?_
      · rw [hr, if_pos hc, dedN_append]
        refine e_dput (y := .od false (keyed eI (dedN acc (rowN p its a (m.take j))))) (kx := .val (eI ((a + b) % p))) k_bl rfl (K.cast (k_mod (K.wv (k_intI (K.wv (k_add (K.wv (k_name rfl)) (K.wv (k_name rfl)))))) (K.wv (k_name rfl)) m0) rfl) rfl rfl (by unfold keyed; rw [List.length_map]; omega) (e_nil (e_nil ⟨some (.val (.int (b : Nat))), ?_⟩))
        show ([some (.val (.int (p : Nat))), some (.val (enN l)), some (.val (enN m)), some (.val (enD its)), some (.od false (dput (keyed eI (dedN acc (rowN p its a (m.take j)))) (eI ((a + b) % p)) (.bl true))), some (.val (.int (a : Nat))), some (.val (.int (b : Nat)))] : St) = _
        rw [dput_keyed kd_I, dedN_cons]
        rfl
      · rw [hr, if_neg (by rw [hc]; exact Bool.false_ne_true), List.append_nil]
        exact e_nil (e_nil ⟨_, rfl⟩)
    · subst hs
      rw [List.length_map, List.take_of_length_le (Nat.le_refl _)]
      exact e_nil ⟨_, _, rfl⟩
  · subst hs
    rw [List.length_map, List.take_of_length_le (Nat.le_refl _)]
    have hlen : (dedN [] (rsN p its l m)).length ≤ 49 := by
      have h1 := dedN_len (rsN p its l m) []
      have h2 : (rsN p its l m).length ≤ 49 := rs_len hp l2 m2
      simp at h1
      omega
    exact e_ret (k_tupleL (K.wl (k_sortD (w_nD rfl) (by unfold keyed; rw [List.length_map]; omega) (by rw [keyed_keys]; exact sortV_I _)))) rfl
theorem su_len (hp : p ∈ P3) (hl : l.length ≤ p) (hm : m.length ≤ p) : (suN p l m).length ≤ 49 := by
  have h1 : (suN p l m).length ≤ l.length * m.length := flat_len l fun a _ => by rw [List.length_map]; exact Nat.le_refl _
  have := P3_pos hp
  have h2 : l.length * m.length ≤ 7 * 7 := Nat.mul_le_mul (by omega) (by omega)
  omega
theorem mem_isoN (x : Nat) : ∀ l : List Nat, x ∈ isoN l → x ∈ l := by
  have key : ∀ (y : Nat) (l : List Nat), x ∈ insN y l → x = y ∨ x ∈ l := by
    intro y l
    induction l with
    | nil => intro h; rw [insN] at h; exact .inl (List.mem_singleton.mp h)
    | cons z l ih =>
      intro h
      rw [insN] at h
      split at h
      · rcases List.mem_cons.mp h with h | h
        · exact .inr (h ▸ List.mem_cons_self)
        · exact (ih h).imp id (List.mem_cons_of_mem _)
      · exact List.mem_cons.mp h
  intro l
  induction l with
  | nil => exact fun h => h
  | cons y l ih =>
    intro h
    rw [isoN] at h
    rcases key y _ h with h | h
    · exact h ▸ List.mem_cons_self
    · exact List.mem_cons_of_mem _ (ih h)
theorem mem_dedN (x : Nat) : ∀ (l acc : List Nat), x ∈ dedN acc l → x ∈ acc ∨ x ∈ l
  | [], acc, h => .inl h
  | n :: l, acc, h => by
    rw [dedN_cons] at h
    rcases mem_dedN x l _ h with h | h
    · unfold addN at h
      split at h
      · exact .inl h
      · rcases List.mem_append.mp h with h | h
        · exact .inl h
        · exact .inr ((List.mem_singleton.mp h) ▸ List.mem_cons_self)
    · exact .inr (List.mem_cons_of_mem _ h)
theorem su_lt (hp : p ∈ P3) {x : Nat} (h : x ∈ suN p l m) : x < p := by
  obtain ⟨a, _, h⟩ := List.mem_flatMap.mp h
  obtain ⟨b, _, rfl⟩ := List.mem_map.mp h
  have := P3_pos hp
  exact Nat.mod_lt _ (by omega)
theorem r_sums (hp : p ∈ P3) (hl : l ∈ lotsN p) (hm : m ∈ lotsN p) : F_sums.run [.val (.ins 4 (grp p)), .val (.tup (l.map eh)), .val (.tup (m.map eh))] = .ok (.val (.tup ((setN (suN p l m)).map eh))) none := by
  rw [R_sums]
  refine run_of ?_
  obtain ⟨p3, p7⟩ := P3_pos hp
  obtain ⟨l1, l2, l3⟩ := lot_len hp hl
  obtain ⟨m1, m2, m3⟩ := lot_len hp hm
  show Ends (exs G_sums _ [some (.val (.ins 4 (grp p))), some (.val (.tup (l.map eh))), some (.val (.tup (m.map eh))), none, none, none]) _
  refine e_exprK (k_call rfl A_check_lot I_check_lot (ks_cons (k_name rfl) (ks_cons (k_name rfl) ks_nil)) (r_check_lot hp hl)) ?_
  refine e_exprK (k_call rfl A_check_lot I_check_lot (ks_cons (k_name rfl) (ks_cons (k_name rfl) ks_nil)) (r_check_lot hp hm)) ?_
  refine e_set (i := 3) (x := .od true (keyed eh (dedN [] []))) k_dic0 (by simp) (.inl (by decide)) ?_
  refine e_for (fun i σ => ∃ x_mine x_its, σ = [some (.val (.ins 4 (grp p))), some (.val (.tup (l.map eh))), some (.val (.tup (m.map eh))), some (.od true (keyed eh (dedN [] (suN p (l.take i) m)))), x_mine, x_its]) (i_name rfl) ⟨_, _, rfl⟩ (fun i d σ hd ⟨x_mine, x_its, hs⟩ => ?_) fun σ ⟨x_mine, x_its, hs⟩ => ?_
  · subst hs
    obtain ⟨a, ha, rfl, am⟩ := map_get hd
    have ht : suN p (l.take (i + 1)) m = suN p (l.take i) m ++ m.map fun b => (a + b) % p := by
      rw [take_get ha]
      unfold suN
      rw [List.flatMap_append, List.flatMap_cons, List.flatMap_nil, List.append_nil]
    rw [ht, dedN_append]
    have hlen : (dedN [] (suN p (l.take i) m)).length ≤ 49 := by
      have h1 := dedN_len (suN p (l.take i) m) []
      have h2 : (suN p (l.take i) m).length ≤ 49 := su_len hp (by rw [List.length_take]; omega) m2
      simp at h1
      omega
    generalize dedN [] (suN p (l.take i) m) = acc at hlen
    refine ⟨_, rfl, ?_⟩
    have ap := l3 a am
    refine e_for (fun j σ => ∃ x_its, σ = [some (.val (.ins 4 (grp p))), some (.val (.tup (l.map eh))), some (.val (.tup (m.map eh))), some (.od true (keyed eh (dedN acc ((m.take j).map fun b => (a + b) % p)))), some (.val (eh a)), x_its]) (i_name rfl) ⟨_, rfl⟩ (fun j d σ hd ⟨x_its, hs⟩ => ?_) fun σ ⟨x_its, hs⟩ => ?_
    · subst hs
      obtain ⟨b, hb, rfl, bm⟩ := map_get hd
      have bp := m3 b bm
      refine ⟨_, rfl, ?_⟩
      show Ends (exs G_sums _ [some (.val (.ins 4 (grp p))), some (.val (.tup (l.map eh))), some (.val (.tup (m.map eh))), some (.od true (keyed eh (dedN acc ((m.take j).map fun b => (a + b) % p)))), some (.val (eh a)), some (.val (eh b))]) _
      have hr : ((m.take (j + 1)).map fun b => (a + b) % p) = ((m.take j).map fun b => (a + b) % p) ++ [(a + b) % p] := by
        rw [take_get hb, List.map_append]
        rfl
      have hl2 : (dedN acc ((m.take j).map fun b => (a + b) % p)).length ≤ 60 := by
        have h1 := dedN_len ((m.take j).map fun b => (a + b) % p) acc
        rw [List.length_map, List.length_take] at h1
        omega
      rw [hr, dedN_append]
      refine e_dput (y := .od true (keyed eh (dedN acc ((m.take j).map fun b => (a + b) % p)))) (kx := .val (eh ((a + b) % p))) k_bl rfl (k_call rfl A_add I_add (ks_cons (k_name rfl) (ks_cons (k_name rfl) (ks_cons (k_name rfl) ks_nil))) (r_add hp ap bp)) rfl rfl (by unfold keyed; rw [List.length_map]; omega) (e_nil ⟨some (.val (eh b)), ?_⟩)
      show ([some (.val (.ins 4 (grp p))), some (.val (.tup (l.map eh))), some (.val (.tup (m.map eh))), some (.od true (dput (keyed eh (dedN acc ((m.take j).map fun b => (a + b) % p))) (eh ((a + b) % p)) (.bl true))), some (.val (eh a)), some (.val (eh b))] : St) = _
      rw [dput_keyed kd_T, dedN_cons]
      rfl
    · subst hs
      rw [List.length_map, List.take_of_length_le (Nat.le_refl _)]
      exact e_nil ⟨_, _, rfl⟩
  · subst hs
    rw [List.length_map, List.take_of_length_le (Nat.le_refl _)]
    have hlen : (dedN [] (suN p l m)).length ≤ 49 := by
      have h1 := dedN_len (suN p l m) []
      have h2 : (suN p l m).length ≤ 49 := su_len hp l2 m2
      simp at h1
      omega
    have hb : ∀ k ∈ dedN [] (suN p l m), k < 1000000 := fun k hk => by
      rcases mem_dedN k _ _ hk with h | h
      · cases h
      · have := su_lt hp h
        omega
    exact e_ret (k_tupleL (K.wl (k_sortD (w_nD rfl) (by unfold keyed; rw [List.length_map]; omega) (by rw [keyed_keys]; exact sortV_T hb (by omega))))) rfl
theorem eq_nil {f : Nat → D} (h : 1 ≤ l.length) : eqb (.tup (l.map f)) (.tup []) = false := by
  cases l with
  | nil => simp at h
  | cons x l => rfl
theorem okDs_eh (n : Nat) : ∀ l : List Nat, okDs (n + 1) (l.map eh) = true
  | [] => rfl
  | x :: l => by rw [List.map_cons, okDs, okDs_eh n l]; rfl
theorem r_check_two (hp : p ∈ P3) (hl : l ∈ lotsN p) (hm : m ∈ lotsN p) : F_check_two.run [.val (.ins 4 (grp p)), .val (.tup (l.map eh)), .val (.tup (m.map eh))] = .ok (.val .non) none := by
  rw [R_check_two]
  refine run_nx ?_
  obtain ⟨l1, l2, l3⟩ := lot_len hp hl
  obtain ⟨m1, m2, m3⟩ := lot_len hp hm
  show Ends (exs G_check_two _ [some (.val (.ins 4 (grp p))), some (.val (.tup (l.map eh))), some (.val (.tup (m.map eh)))]) _
  refine e_exprK (k_call rfl A_check_lot I_check_lot (ks_cons (k_name rfl) (ks_cons (k_name rfl) ks_nil)) (r_check_lot hp hl)) ?_
  refine e_exprK (k_call rfl A_check_lot I_check_lot (ks_cons (k_name rfl) (ks_cons (k_name rfl) ks_nil)) (r_check_lot hp hm)) ?_
  have ok : ∀ l : List Nat, cmpOk (.tup (l.map eh)) (.tup []) = true := fun l => by
    unfold cmpOk
    rw [okD, okDs_eh]
    rfl
  refine e_no (K.wv (k_or (K.wv (k_eqD (K.wv (k_name rfl)) (K.wv (k_tup ks_nil)) (ok l))) fun _ => k_eqD (K.wv (k_name rfl)) (K.wv (k_tup ks_nil)) (ok m))) ?_ (e_nil rfl)
  show (eqb (.tup (l.map eh)) (.tup []) || eqb (.tup (m.map eh)) (.tup [])) = false
  rw [eq_nil l1, eq_nil m1]
  rfl
theorem r_least_sums (hp : p ∈ P3) (hl : l ∈ lotsN p) (hm : m ∈ lotsN p) : F_least_sums.run [.val (.ins 4 (grp p)), .val (.tup (l.map eh)), .val (.tup (m.map eh))] = .ok (.val (.int (min (p : Int) ((l.length : Int) + (m.length : Int) - 1)))) none := by
  rw [R_least_sums]
  refine run_of ?_
  obtain ⟨p3, p7⟩ := P3_pos hp
  obtain ⟨l1, l2, l3⟩ := lot_len hp hl
  obtain ⟨m1, m2, m3⟩ := lot_len hp hm
  show Ends (exs G_least_sums _ [some (.val (.ins 4 (grp p))), some (.val (.tup (l.map eh))), some (.val (.tup (m.map eh))), none, none, none]) _
  refine e_exprK (k_call rfl A_check_two I_check_two (ks_cons (k_name rfl) (ks_cons (k_name rfl) (ks_cons (k_name rfl) ks_nil))) (r_check_two hp hl hm)) ?_
  refine e_set k_non (by simp) (.inl (by decide)) ?_
  refine e_for2 (d1 := .int 1) (d2 := .int (p : Nat)) (i_k (k_call rfl A_part_sizes I_part_sizes (ks_cons (k_name rfl) ks_nil) (r_part_sizes hp)) rfl) rfl ?_
  show Ends (exs G_least_sums _ [some (.val (.ins 4 (grp p))), some (.val (.tup (l.map eh))), some (.val (.tup (m.map eh))), some (.val .non), some (.val (.int 1)), none]) _
  have hone : ∀ x_best x_size x_here : Option C, K G_least_sums [some (.val (.ins 4 (grp p))), some (.val (.tup (l.map eh))), some (.val (.tup (m.map eh))), x_best, x_size, x_here] (.bi .len [.name 1]) (.val (.int (l.length : Nat))) := fun x_best x_size x_here => K.cast (k_lenT (K.wv (k_name rfl))) (by rw [List.length_map])
  have hother : ∀ x_best x_size x_here : Option C, K G_least_sums [some (.val (.ins 4 (grp p))), some (.val (.tup (l.map eh))), some (.val (.tup (m.map eh))), x_best, x_size, x_here] (.bi .len [.name 2]) (.val (.int (m.length : Nat))) := fun x_best x_size x_here => K.cast (k_lenT (K.wv (k_name rfl))) (by rw [List.length_map])
  have d1 : ∀ x : Int, -(-x / 1) = x := fun x => by rw [Int.ediv_one, Int.neg_neg]
  have d2 : ∀ x : Nat, 1 ≤ x → x ≤ p → -(-(x : Int) / (p : Nat)) = 1 := fun x h1 h2 => by
    have : -(x : Int) / (p : Nat) = -1 := by
      rw [Int.ediv_eq_iff_of_pos (by omega)]
      omega
    rw [this]
    rfl
  refine e_set (i := 5) (x := .val (.int ((l.length : Int) + (m.length : Int) - 1))) (K.cast (k_mul (K.wv (k_name rfl)) (K.wv (k_sub (K.wv (k_add (K.wv (k_neg (K.wv (k_fdiv (K.wv (k_neg (K.wv (hone _ _ _)))) (K.wv (k_name rfl)) (by omega) (by omega))))) (K.wv (k_neg (K.wv (k_fdiv (K.wv (k_neg (K.wv (hother _ _ _)))) (K.wv (k_name rfl)) (by omega) (by omega))))))) (K.wv k_int))) (mulOk_l (by omega) (by omega))) (by rw [d1, d1, Int.one_mul])) (by simp) (.inl (by decide)) ?_
  show Ends (exs G_least_sums _ [some (.val (.ins 4 (grp p))), some (.val (.tup (l.map eh))), some (.val (.tup (m.map eh))), some (.val .non), some (.val (.int 1)), some (.val (.int ((l.length : Int) + (m.length : Int) - 1)))]) _
  generalize hs : (l.length : Int) + (m.length : Int) - 1 = s1
  refine e_set (i := 3) (x := .val (.int s1)) (K.cast (k_ifeV (d2 := .non) (K.wv (k_or (q := true) (K.wv (k_isN (K.wv (k_name rfl)))) (fun h => Bool.noConfusion h))) (fun _ => (k_name rfl)) (fun h => Bool.noConfusion h)) rfl) (by simp) (.inl (by decide)) (e_nil ⟨rfl, _, rfl, ?_⟩)
  show Ends (exs G_least_sums _ [some (.val (.ins 4 (grp p))), some (.val (.tup (l.map eh))), some (.val (.tup (m.map eh))), some (.val (.int s1)), some (.val (.int (p : Nat))), some (.val (.int s1))]) _
  refine e_set (i := 5) (x := .val (.int (p : Nat))) (K.cast (k_mul (K.wv (k_name rfl)) (K.wv (k_sub (K.wv (k_add (K.wv (k_neg (K.wv (k_fdiv (K.wv (k_neg (K.wv (hone _ _ _)))) (K.wv (k_name rfl)) (by omega) (by omega))))) (K.wv (k_neg (K.wv (k_fdiv (K.wv (k_neg (K.wv (hother _ _ _)))) (K.wv (k_name rfl)) (by omega) (by omega))))))) (K.wv k_int))) (mulOk_l (by omega) (by omega))) (by rw [d2 _ l1 l2, d2 _ m1 m2]; show C.val (.int ((p : Int) * 1)) = _; rw [Int.mul_one])) (by simp) (.inl (by decide)) ?_
  show Ends (exs G_least_sums _ [some (.val (.ins 4 (grp p))), some (.val (.tup (l.map eh))), some (.val (.tup (m.map eh))), some (.val (.int s1)), some (.val (.int (p : Nat))), some (.val (.int (p : Nat)))]) _
  refine e_set (i := 3) (x := .val (.int (min (p : Int) s1))) (K.cast (k_ifeV (K.wv (k_or (K.wv (k_isN (K.wv (k_name rfl)))) (fun h => (k_lt (K.wv (k_name rfl)) (K.wv (k_name rfl)))))) (fun _ => (k_name rfl)) (fun _ => (k_name rfl))) ?_) (by simp) (.inl (by decide)) (e_nil ⟨rfl, ?_⟩)
  · show C.val (if (false || decide ((p : Int) < s1)) = true then _ else _) = _
    rw [Bool.false_or]
    by_cases h : (p : Int) < s1
    · rw [decide_eq_true h, if_pos rfl, Int.min_eq_left (by omega)]
    · rw [decide_eq_false h, if_neg Bool.false_ne_true, Int.min_eq_right (by omega)]
  · exact e_ret (x := .val (.int (min (p : Int) s1))) (k_name rfl) rfl
end
end CL.Pl

set_option autoImplicit false
set_option linter.all false
set_option Elab.async false
set_option maxRecDepth 100000
set_option maxHeartbeats 1000000
/-! K99m8: how many sums there are; what is drawn. -/
namespace CL.Pl
theorem isoN_perm : ∀ l : List Nat, (isoN l).Perm l := by
  have ins : ∀ (x : Nat) (l : List Nat), (insN x l).Perm (x :: l) := by
    intro x l
    induction l with
    | nil => exact List.Perm.refl _
    | cons y l ih =>
      rw [insN]
      split
      · exact (ih.cons y).trans (List.Perm.swap x y l)
      · exact List.Perm.refl _
  intro l
  induction l with
  | nil => exact List.Perm.refl _
  | cons x l ih => exact (ins x _).trans (ih.cons x)
theorem dedN_mem (x : Nat) : ∀ (l acc : List Nat), (x ∈ acc ∨ x ∈ l) → x ∈ dedN acc l
  | [], acc, h => h.elim id fun h => nomatch h
  | n :: l, acc, h => by
    rw [dedN_cons]
    refine dedN_mem x l _ ?_
    unfold addN
    rcases h with h | h
    · refine .inl ?_
      split
      · exact h
      · exact List.mem_append_left _ h
    · rcases List.mem_cons.mp h with rfl | h
      · refine .inl ?_
        split
        · rename_i hc
          simpa using hc
        · exact List.mem_append_right _ (List.mem_singleton.mpr rfl)
      · exact .inr h
theorem nodup_sub {l m : List Nat} (h1 : l.Nodup) (h2 : ∀ x ∈ l, x ∈ m) : l.length ≤ m.length := by
  induction l generalizing m with
  | nil => exact Nat.zero_le _
  | cons x l ih =>
    obtain ⟨hx, hl⟩ := List.nodup_cons.mp h1
    have hm := h2 x List.mem_cons_self
    have := ih (m := m.erase x) hl fun y hy => (List.mem_erase_of_ne (show y ≠ x from fun e => hx (e ▸ hy))).mpr (h2 y (List.mem_cons_of_mem _ hy))
    rw [List.length_erase_of_mem hm] at this
    have := List.length_pos_of_mem hm
    rw [List.length_cons]
    omega
theorem mask_bit (c : Nat) : ∀ (m : List Nat) (acc : Nat), (m.foldl (fun m a => m ||| (1 <<< a)) acc).testBit c = (acc.testBit c || m.any fun a => a == c)
  | [], acc => by simp
  | a :: m, acc => by
    rw [List.foldl_cons, mask_bit c m, Nat.testBit_or, List.any_cons, Nat.one_shiftLeft, Nat.testBit_two_pow, Bool.or_assoc]
    congr 2
theorem mask_is (c : Nat) (m : List Nat) : (maskN m).testBit c = true ↔ c ∈ m := by
  unfold maskN
  rw [mask_bit]
  simp
section
variable {p : Nat} {l m : List Nat}
theorem cnt_le (hp : p ∈ P3) (hl : l ∈ lotsN p) : cntS p l (maskN m) ≤ (setN (suN p l m)).length := by
  unfold cntS setN
  rw [isoN_len]
  refine nodup_sub (List.Pairwise.filter _ List.nodup_range) fun x hx => ?_
  rw [List.mem_filter, List.mem_range, List.any_eq_true] at hx
  obtain ⟨hxp, a, ha, hb⟩ := hx
  rw [mask_is] at hb
  refine dedN_mem x _ [] (.inr ?_)
  refine List.mem_flatMap.mpr ⟨a, ha, List.mem_map.mpr ⟨_, hb, ?_⟩⟩
  have := (lot_len hp hl).2.2 a ha
  rcases List.mem_cons.mp hp with rfl | hp
  · omega
  rcases List.mem_cons.mp hp with rfl | hp
  · omega
  rcases List.mem_cons.mp hp with rfl | hp
  · omega
  cases hp
/-- Cauchy and Davenport -/
theorem cd (hp : p ∈ P3) (hl : l ∈ lotsN p) (hm : m ∈ lotsN p) : min p (l.length + m.length - 1) ≤ (setN (suN p l m)).length := by
  have h1 := List.all_eq_true.mp c_cd p hp
  have h2 := List.all_eq_true.mp (List.all_eq_true.mp h1 l hl) (m.length, maskN m) (List.mem_map.mpr ⟨m, hm, rfl⟩)
  exact Nat.le_trans (Nat.le_of_ble_eq_true h2) (cnt_le hp hl)
theorem r_unlike (hp : p ∈ P3) (hl : l ∈ lotsN p) (h2 : 2 ≤ l.length) : F_unlike_sums.run [.val (.int (p : Nat)), .val (enN l), .val (.int 2)] = .ok (.val (.tup ((setN (unN p l)).map eI))) none := by
  have key : (l.length < 2 || isTupR (F_unlike_sums.run [.val (.int (p : Nat)), .val (enN l), .val (.int 2)]) (intsN (setN (unN p l)))) = true := by
    rcases List.mem_cons.mp hp with rfl | hp
    · exact List.all_eq_true.mp (List.all_eq_true.mp c_unlike3 3 (by simp)) l hl
    rcases List.mem_cons.mp hp with rfl | hp
    · exact List.all_eq_true.mp (List.all_eq_true.mp c_unlike3 5 (by simp)) l hl
    rcases List.mem_cons.mp hp with rfl | hp
    · exact List.all_eq_true.mp (List.all_eq_true.mp c_unlike7 7 (by simp)) l hl
    cases hp
  rw [Bool.or_eq_true] at key
  rcases key with h | h
  · have := of_decide_eq_true h
    omega
  · have := tupR h
    unfold intsN at this
    rw [List.map_map] at this
    exact this
theorem eh2 (hp : p ∈ P3) (hl : l ∈ lotsN p) (h2 : 2 ≤ l.length) : min p (2 * l.length - 3) ≤ (setN (unN p l)).length := by
  have := List.all_eq_true.mp (List.all_eq_true.mp c_eh p hp) l hl
  rw [Bool.or_eq_true] at this
  rcases this with h | h
  · have := of_decide_eq_true h
    omega
  · exact of_decide_eq_true h
theorem r_least_unlike (hp : p ∈ P3) {n : Nat} (h2 : 2 ≤ n) (hn : n ≤ p) : F_least_unlike.run [.val (.int (p : Nat)), .val (.int (n : Nat)), .val (.int 2)] = .ok (.val (.int (min (p : Int) (2 * n - 3)))) none := by
  have p37 := P3_pos hp
  have := List.all_eq_true.mp (List.all_eq_true.mp c_least p hp) n (List.mem_range.mpr (by omega))
  rw [decide_eq_true h2, decide_eq_true hn] at this
  exact intR this
end
theorem c_sing : P3.all (fun p => (List.range p).all fun d => (lotsN p).contains [d]) = true := by decide +kernel
/-! draws -/
theorem ev_draw {Γ : Ctx} {σ : St} {e : E} {n : Nat} {m : Int} {H : List D} (hf : Γ.fn 17 = some F__law_draw) (hH : IsHand H) (h1 : get σ n = some (.ol H)) (he : K Γ σ e (.val (.int m))) (h0 : 0 < m) (hm : m < 1073741824) : ∃ (d : Nat) (H' : List D), ev Γ (.call 17 [.name n, e]) σ = .ok (.c (.val (.int (d : Nat)))) (put σ n (some (.ol H'))) ∧ (d : Int) < m ∧ IsHand H' := by
  obtain ⟨d, H', r, a, b, c⟩ := r_draw hH h0 hm
  obtain ⟨k, rfl⟩ := Int.eq_ofNat_of_zero_le a
  exact ⟨k, H', ev_io (xs := [.val (.int m)]) hf rfl rfl h1 rfl (ks_cons he ks_nil) rfl r, b, c⟩
theorem r__law_some {H : List D} (hH : IsHand H) : ∃ (p : Nat) (H' : List D), F__law_some.run [.ol H, .val (.lst [.int 3, .int 5, .int 7])] = .ok (.val (.int (p : Nat))) (some (.ol H')) ∧ p ∈ P3 ∧ IsHand H' := by
  obtain ⟨d, H', e, hd, hH'⟩ := ev_draw (Γ := G__law_some) (σ := [some (.ol H), some (.val (.lst [.int 3, .int 5, .int 7]))]) (n := 0) (e := .bi .len [.name 1]) (m := 3) rfl hH rfl (K.cast (k_lenL (ds := [.int 3, .int 5, .int 7]) (K.wv (k_name rfl))) rfl) (by decide) (by decide)
  have key : ∀ p : Nat, atI [.int 3, .int 5, .int 7] (d : Nat) = some (.int (p : Nat)) → F__law_some.run [.ol H, .val (.lst [.int 3, .int 5, .int 7])] = .ok (.val (.int (p : Nat))) (some (.ol H')) := fun p hp => by
    rw [R__law_some]
    have e2 : ev G__law_some (.sub (.name 1) (.call 17 [.name 0, .bi .len [.name 1]])) [some (.ol H), some (.val (.lst [.int 3, .int 5, .int 7]))] = .ok (.c (.val (.int (p : Nat)))) [some (.ol H'), some (.val (.lst [.int 3, .int 5, .int 7]))] := by
      rw [ev, ev_name rfl]
      simp only [Res.bind]
      rw [e]
      simp only [Res.bind, vw, C.toD, hp]
      rfl
    show endF true (exs G__law_some [.ret (.sub (.name 1) (.call 17 [.name 0, .bi .len [.name 1]]))] [some (.ol H), some (.val (.lst [.int 3, .int 5, .int 7]))]) = _
    exact q_ret e2 rfl rfl
  have : d = 0 ∨ d = 1 ∨ d = 2 := by omega
  rcases this with rfl | rfl | rfl
  · exact ⟨3, H', key 3 rfl, by simp, hH'⟩
  · exact ⟨5, H', key 5 rfl, by simp, hH'⟩
  · exact ⟨7, H', key 7 rfl, by simp, hH'⟩
theorem mem_subs {x : Nat} {ws sub : List Nat} (h : sub ∈ subsN ws) : sub ∈ subsN (x :: ws) ∧ x :: sub ∈ subsN (x :: ws) := by
  constructor
  · exact List.mem_append_right _ h
  · exact List.mem_append_left _ (List.mem_map.mpr ⟨sub, h, rfl⟩)
/-- the lot drawn, one by one -/
theorem rests_go {p : Nat} : ∀ (ws : List Nat) (H : List D) (x3 : Option C), IsHand H → ∃ (H' : List D) (sub : List Nat) (y3 : Option C),
    lcGo (fun d τ => turn G__law_rests (.name 3) (.name 3) (some (.cmp .eq (.call 17 [.name 0, .int 2]) (.int 0))) d (hide τ (tnames (.name 3)))) (ws.map eI) [some (.ol H), some (.val (.int (p : Nat))), none, x3] = .ok (sub.map eI) [some (.ol H'), some (.val (.int (p : Nat))), none, y3] ∧ sub ∈ subsN ws ∧ IsHand H'
  | [], H, x3, hH => ⟨H, [], x3, rfl, List.mem_singleton.mpr rfl, hH⟩
  | w :: ws, H, x3, hH => by
    obtain ⟨d, H1, e, hd, hH1⟩ := ev_draw (Γ := G__law_rests) (σ := [some (.ol H), some (.val (.int (p : Nat))), none, some (.val (eI w))]) (n := 0) (e := .int 2) (m := 2) rfl hH rfl k_int (by decide) (by decide)
    have e2 : ev G__law_rests (.cmp .eq (.call 17 [.name 0, .int 2]) (.int 0)) [some (.ol H), some (.val (.int (p : Nat))), none, some (.val (eI w))] = .ok (.c (.val (.bl (decide ((d : Int) = 0))))) [some (.ol H1), some (.val (.int (p : Nat))), none, some (.val (eI w))] := ev_cmp e ev_int rfl rfl (c_eqI _ _)
    obtain ⟨H', sub, y3, e3, hs, hH'⟩ := rests_go ws H1 (some (.val (eI w))) hH1
    have ht : turn G__law_rests (.name 3) (.name 3) (some (.cmp .eq (.call 17 [.name 0, .int 2]) (.int 0))) (eI w) [some (.ol H), some (.val (.int (p : Nat))), none, none] = .ok (if decide ((d : Int) = 0) then some (eI w) else none) [some (.ol H1), some (.val (.int (p : Nat))), none, some (.val (eI w))] := by
      unfold turn
      show ((evc G__law_rests (some (.cmp .eq (.call 17 [.name 0, .int 2]) (.int 0))) [some (.ol H), some (.val (.int (p : Nat))), none, some (.val (eI w))]).bind _) = _
      rw [evc, e2]
      simp only [Res.bind, vw, C.toD]
      cases decide ((d : Int) = 0) with
      | true => simp only [if_true]; rw [ev_name rfl]; rfl
      | false => rfl
    refine ⟨H', if decide ((d : Int) = 0) then w :: sub else sub, y3, ?_, ?_, hH'⟩
    · rw [List.map_cons, lcGo]
      show ((turn G__law_rests (.name 3) (.name 3) (some (.cmp .eq (.call 17 [.name 0, .int 2]) (.int 0))) (eI w) [some (.ol H), some (.val (.int (p : Nat))), none, none]).bind _) = _
      rw [ht]
      show (lcGo _ (ws.map eI) [some (.ol H1), some (.val (.int (p : Nat))), none, some (.val (eI w))]).bind _ = _
      rw [e3]
      cases decide ((d : Int) = 0) <;> rfl
    · cases decide ((d : Int) = 0) with
      | true => exact (mem_subs hs).2
      | false => exact (mem_subs hs).1
theorem r__law_rests {p : Nat} (hp : p ∈ P3) {H : List D} (hH : IsHand H) : ∃ (l : List Nat) (H' : List D), F__law_rests.run [.ol H, .val (.int (p : Nat))] = .ok (.val (enN l)) (some (.ol H')) ∧ l ∈ lotsN p ∧ IsHand H' := by
  have p37 := P3_pos hp
  obtain ⟨H1, sub, y3, e1, hs, hH1⟩ := rests_go (p := p) (List.range p) H none hH
  have hI : I G__law_rests [some (.ol H), some (.val (.int (p : Nat))), none, none] (.rng [.name 1]) ((List.range p).map eI) [] := i_rngN (K.wv (k_name rfl)) (by omega)
  have e2 : ev G__law_rests (.lc (.name 3) (.name 3) (.rng [.name 1]) (some (.cmp .eq (.call 17 [.name 0, .int 2]) (.int 0)))) [some (.ol H), some (.val (.int (p : Nat))), none, none] = .ok (.c (.ol (sub.map eI))) [some (.ol H1), some (.val (.int (p : Nat))), none, none] := by
    unfold I at hI
    rw [ev, hI]
    show (if ((List.range p).map eI).length ≤ lim then ((lcGo (fun d τ => turn G__law_rests (.name 3) (.name 3) (some (.cmp .eq (.call 17 [.name 0, .int 2]) (.int 0))) d (hide τ (tnames (.name 3)))) ((List.range p).map eI) [some (.ol H), some (.val (.int (p : Nat))), none, none]).bind _) else _) = _
    rw [if_pos (by rw [List.length_map, List.length_range]; show p ≤ 1000000; omega), e1]
    rfl
  rw [R__law_rests]
  cases sub with
  | nil =>
    obtain ⟨d, H2, e3, hd, hH2⟩ := ev_draw (Γ := G__law_rests) (σ := [some (.ol H1), some (.val (.int (p : Nat))), some (.ol []), none]) (n := 0) (e := .name 1) (m := (p : Nat)) rfl hH1 rfl (k_name rfl) (by omega) (by omega)
    refine ⟨[d], H2, ?_, ?_, hH2⟩
    · refine q_set (i := 2) (σ1 := [some (.ol H1), some (.val (.int (p : Nat))), none, none]) (σ2 := [some (.ol H1), some (.val (.int (p : Nat))), none, none]) (x := .ol []) e2 rfl (by simp) (.inl (by decide)) ?_
      show endF true (exs G__law_rests [.ret (.ife (.cmp .gt (.bi .len [.name 2]) (.int 0)) (.bi .tuple [.name 2]) (.tup [.call 17 [.name 0, .name 1]]))] [some (.ol H1), some (.val (.int (p : Nat))), some (.ol []), none]) = _
      have e4 : ev G__law_rests (.ife (.cmp .gt (.bi .len [.name 2]) (.int 0)) (.bi .tuple [.name 2]) (.tup [.call 17 [.name 0, .name 1]])) [some (.ol H1), some (.val (.int (p : Nat))), some (.ol []), none] = .ok (.c (.val (enN [d]))) [some (.ol H2), some (.val (.int (p : Nat))), some (.ol []), none] := by
        have c1 : K G__law_rests [some (.ol H1), some (.val (.int (p : Nat))), some (.ol []), none] (.cmp .gt (.bi .len [.name 2]) (.int 0)) (.val (.bl false)) := K.cast (k_gt (K.wv (k_lenL (ds := []) (w_nO rfl))) (K.wv k_int)) rfl
        unfold K at c1
        rw [ev, c1]
        show ev G__law_rests (.tup [.call 17 [.name 0, .name 1]]) [some (.ol H1), some (.val (.int (p : Nat))), some (.ol []), none] = _
        rw [ev, evs_1 e3]
        rfl
      exact q_ret e4 rfl rfl
    · have := List.all_eq_true.mp (List.all_eq_true.mp c_sing p hp) d (List.mem_range.mpr (by omega))
      simpa using this
  | cons w sub =>
    refine ⟨w :: sub, H1, ?_, ?_, hH1⟩
    · refine q_set (i := 2) (σ1 := [some (.ol H1), some (.val (.int (p : Nat))), none, none]) (σ2 := [some (.ol H1), some (.val (.int (p : Nat))), none, none]) (x := .ol ((w :: sub).map eI)) e2 rfl (by simp) (.inl (by decide)) ?_
      show endF true (exs G__law_rests [.ret (.ife (.cmp .gt (.bi .len [.name 2]) (.int 0)) (.bi .tuple [.name 2]) (.tup [.call 17 [.name 0, .name 1]]))] [some (.ol H1), some (.val (.int (p : Nat))), some (.ol ((w :: sub).map eI)), none]) = _
      have e4 : ev G__law_rests (.ife (.cmp .gt (.bi .len [.name 2]) (.int 0)) (.bi .tuple [.name 2]) (.tup [.call 17 [.name 0, .name 1]])) [some (.ol H1), some (.val (.int (p : Nat))), some (.ol ((w :: sub).map eI)), none] = .ok (.c (.val (enN (w :: sub)))) [some (.ol H1), some (.val (.int (p : Nat))), some (.ol ((w :: sub).map eI)), none] := by
        have c1 : K G__law_rests [some (.ol H1), some (.val (.int (p : Nat))), some (.ol ((w :: sub).map eI)), none] (.cmp .gt (.bi .len [.name 2]) (.int 0)) (.val (.bl true)) := K.cast (k_gt (K.wv (k_lenL (w_nO rfl))) (K.wv k_int)) (by
          rw [decide_eq_true]
          rw [List.length_map, List.length_cons]
          omega)
        unfold K at c1
        rw [ev, c1]
        show ev G__law_rests (.bi .tuple [.name 2]) [some (.ol H1), some (.val (.int (p : Nat))), some (.ol ((w :: sub).map eI)), none] = _
        exact k_tupleL (w_nO rfl)
      exact q_ret e4 rfl rfl
    · exact List.mem_filter.mpr ⟨hs, rfl⟩
end CL.Pl

set_option autoImplicit false
set_option linter.all false
set_option Elab.async false
set_option maxRecDepth 100000
set_option maxHeartbeats 1000000
/-! K99m9: a turn of k99's law, its second half. -/
namespace CL.Pl
/-! what an own thing's first use brings: it stands still, all else is the same -/
section
variable {Γ : Ctx} {σ σ1 : St} {a b e elt tgt it : E} {x y : C} {d d1 d2 : D}
theorem same_bin {op : Bop} (h : ev Γ a σ = ev Γ a σ1) : ev Γ (.bin op a b) σ = ev Γ (.bin op a b) σ1 := by rw [ev, ev, h]
theorem same_cmp {op : Cop} (h : ev Γ a σ = ev Γ a σ1) : ev Γ (.cmp op a b) σ = ev Γ (.cmp op a b) σ1 := by rw [ev, ev, h]
theorem same_bi {f : Bi} (h : ev Γ a σ = ev Γ a σ1) : ev Γ (.bi f [a]) σ = ev Γ (.bi f [a]) σ1 := by rw [ev, ev, evs, evs, h]
theorem same_it (h : ev Γ a σ = ev Γ a σ1) : evI Γ (.it a) σ = evI Γ (.it a) σ1 := by rw [evI, evI, h]
theorem same_lc {c : Option E} (h : evI Γ it σ = evI Γ it σ1) : ev Γ (.lc elt tgt it c) σ = ev Γ (.lc elt tgt it c) σ1 := by rw [ev, ev, h]
theorem same_ife {t : E} {as bs ss : List S} (h : ev Γ t σ = ev Γ t σ1) : exs Γ (.ife t as bs :: ss) σ = exs Γ (.ife t as bs :: ss) σ1 := by rw [exs, exs, ex, ex, evc, evc, h]
theorem e_same {ss : List S} {Q : Flow → St → Prop} (h : exs Γ ss σ = exs Γ ss σ1) (k : Ends (exs Γ ss σ1) Q) : Ends (exs Γ ss σ) Q := by rw [h]; exact k
theorem evs_app : ∀ {es1 es2 : List E} {σ σ1 σ2 : St} {os1 os2 : List Opd}, evs Γ es1 σ = .ok os1 σ1 → evs Γ es2 σ1 = .ok os2 σ2 → evs Γ (es1 ++ es2) σ = .ok (os1 ++ os2) σ2
  | [], es2, σ, σ1, σ2, os1, os2, h1, h2 => by rw [evs] at h1; cases h1; exact h2
  | e :: es1, es2, σ, σ1, σ2, os1, os2, h1, h2 => by
    rw [evs] at h1
    rw [List.cons_append, evs]
    cases e1 : ev Γ e σ with
    | ok o τ =>
      rw [e1] at h1
      simp only [Res.bind] at h1 ⊢
      cases e2 : evs Γ es1 τ with
      | ok os τ2 =>
        rw [e2] at h1
        cases h1
        rw [evs_app e2 h2]
        rfl
      | exc x τ2 => rw [e2] at h1; cases h1
      | no => rw [e2] at h1; cases h1
    | exc x τ => rw [e1] at h1; cases h1
    | no => rw [e1] at h1; cases h1
/-- a call that is handed an own thing n among values -/
theorem ev_callF {f n : Nat} {es1 es2 : List E} {F : Fun} {xs1 xs2 : List C} {r : C} {yy : Option C} (hf : Γ.fn f = some F) (hl : F.ar = es1.length + 1 + es2.length) (hio : F.io = false) (h1 : Ks Γ σ es1 xs1) (hn : get σ n = some y) (hb : y.ownB = true) (h2 : Ks Γ σ es2 xs2)
    (hl1 : xs1.length = es1.length) (hl2 : xs2.length = es2.length) (hr : F.run ((xs1.map C.toD ++ y.toD :: xs2.map C.toD).map .val) = .ok r yy) : ev Γ (.call f (es1 ++ .name n :: es2)) σ = .ok (.c r) (put σ n (some (.val y.toD))) := by
  have e1 : evs Γ (es1 ++ .name n :: es2) σ = .ok (xs1.map .c ++ .loc n :: xs2.map .c) σ := evs_app h1 (evs_c (ev_own hn hb) h2)
  have e2 : ∀ (os : List C) (σ σ1 : St) (rest : List Opd) (ds : List D), frzs rest σ = some (ds, σ1) → frzs (os.map .c ++ rest) σ = some (os.map C.toD ++ ds, σ1) := by
    intro os
    induction os with
    | nil => intro σ σ1 rest ds h; exact h
    | cons o os ih =>
      intro σ σ1 rest ds h
      rw [List.map_cons, List.cons_append, frzs]
      show (frzs (os.map .c ++ rest) σ).map _ = _
      rw [ih σ σ1 rest ds h]
      rfl
  refine ev_call (ds := xs1.map C.toD ++ y.toD :: xs2.map C.toD) (y := yy) e1 hf (by rw [List.length_append, List.length_cons, List.length_map, List.length_map, hl, hl1, hl2]; omega) hio (e2 xs1 σ _ _ _ ?_) hr
  have e3 : frz (.loc n) σ = some (y.toD, put σ n (some (.val y.toD))) := by
    show (match get σ n with
      | some x => some (x.toD, put σ n (some (.val x.toD)))
      | none => none) = _
    rw [hn]
  rw [frzs, e3]
  show (frzs (xs2.map .c) (put σ n (some (.val y.toD)))).map _ = _
  rw [frzs_c]
  rfl
theorem k_mk1 {c : Nat} {F : Fun} {r : C} {yy : Option C} (h : K Γ σ e (.val d)) (hf : Γ.cls c = some F) (hl : F.ar = 1) (hr : F.run [.val d] = .ok r yy) : K Γ σ (.mk c [e]) r := by
  unfold K at *
  rw [ev, evs_1 h]
  simp only [Res.bind, hf, mk1]
  rw [if_pos (by rw [hl]; rfl)]
  show (match F.run [.val d] with
    | .ok r _ => Res.ok (Opd.c r) σ
    | .exc e _ => .exc e σ
    | .no => .no) = _
  rw [hr]
theorem e_par2 {i j : Nat} {ss : List S} {Q : Flow → St → Prop} (h1 : K Γ σ a (.val d1)) (h2 : K Γ σ b (.val d2)) (hi : i < σ.length) (hj : j < σ.length) (k : Ends (exs Γ ss (put (put σ i (some (.val d1))) j (some (.val d2)))) Q) : Ends (exs Γ (.par [i, j] [a, b] :: ss) σ) Q := by
  refine e_next ?_ k
  rw [ex, evs_2 h1 h2]
  simp only [Res.bind, takes, take, Option.bind, Option.map, stores, C.ownB, Bool.not_false, Bool.or_true, Bool.and_true]
  rw [if_pos (by simpa using hi), if_pos (by rw [p_len]; simpa using hj)]
end
/-! small things -/
theorem okDs_eI (n : Nat) : ∀ l : List Nat, okDs n (l.map eI) = true
  | [] => rfl
  | x :: l => by rw [List.map_cons, okDs, okDs_eI n l]; cases n <;> rfl
theorem cmp_same {f : Nat → D} (h : ∀ l : List Nat, okDs 7 (l.map f) = true) (hf : Kd f) (l : List Nat) : cmpOk (.tup (l.map f)) (.tup (l.map f)) = true ∧ eqb (.tup (l.map f)) (.tup (l.map f)) = true := by
  constructor
  · unfold cmpOk
    rw [okD, h l]
    rfl
  · rw [eqb]
    induction l with
    | nil => rfl
    | cons x l ih => rw [List.map_cons, eqbs, hf.eq, ih]; simp
theorem cmp_I (l : List Nat) : cmpOk (.tup (l.map eI)) (.tup (l.map eI)) = true ∧ eqb (.tup (l.map eI)) (.tup (l.map eI)) = true := cmp_same (okDs_eI 7) kd_I l
theorem cmp_T (l : List Nat) : cmpOk (.tup (l.map eh)) (.tup (l.map eh)) = true ∧ eqb (.tup (l.map eh)) (.tup (l.map eh)) = true := cmp_same (okDs_eh 6) kd_T l
abbrev itA : It := [((1, 0), 1), ((0, 1), -1)]
abbrev itP : It := [((0, 0), 1)]
theorem ok_A : OkI itA := ⟨by decide, by decide⟩
theorem ok_P : OkI itP := ⟨by decide, by decide⟩
theorem c_apart : P3.all (fun p => (List.range p).all fun a => (List.range p).all fun b => decide (valV p itA a b = 0) == (a == b)) = true := by decide +kernel
theorem c_plain : P3.all (fun p => (List.range p).all fun a => (List.range p).all fun b => !decide (valV p itP a b = 0)) = true := by decide +kernel
section
variable {p : Nat} {l m : List Nat}
theorem filter_cong {α : Type} {f g : α → Bool} {l : List α} (h : ∀ x ∈ l, f x = g x) : l.filter f = l.filter g := List.filter_congr h
theorem flat_cong {α β : Type} {f g : α → List β} : ∀ {l : List α}, (∀ x ∈ l, f x = g x) → l.flatMap f = l.flatMap g
  | [], _ => rfl
  | x :: l, h => by rw [List.flatMap_cons, List.flatMap_cons, h x List.mem_cons_self, flat_cong fun y m => h y (List.mem_cons_of_mem _ m)]
theorem rs_apart (hp : p ∈ P3) (hl : l ∈ lotsN p) : rsN p itA l l = unN p l := by
  obtain ⟨_, _, l3⟩ := lot_len hp hl
  refine flat_cong fun a ha => ?_
  unfold rowN
  rw [filter_cong fun b hb => ?_]
  have := List.all_eq_true.mp (List.all_eq_true.mp (List.all_eq_true.mp c_apart p hp) a (List.mem_range.mpr (l3 a ha))) b (List.mem_range.mpr (l3 b hb))
  rw [beq_iff_eq] at this
  rw [this]
  rfl
theorem rs_plain (hp : p ∈ P3) (hl : l ∈ lotsN p) (hm : m ∈ lotsN p) : rsN p itP l m = suN p l m := by
  obtain ⟨_, _, l3⟩ := lot_len hp hl
  obtain ⟨_, _, m3⟩ := lot_len hp hm
  refine flat_cong fun a ha => ?_
  unfold rowN
  rw [List.filter_eq_self.mpr fun b hb => List.all_eq_true.mp (List.all_eq_true.mp (List.all_eq_true.mp c_plain p hp) a (List.mem_range.mpr (l3 a ha))) b (List.mem_range.mpr (m3 b hb))]
end
abbrev lawTurn : List S := match b_law with
  | [_, .for_ _ _ b, _] => b
  | _ => []
abbrev bs (i : Nat) : List S := lawTurn.drop i
/-- what stands between two turns -/
def LInv (σ : St) : Prop := σ.length = 20 ∧ ∃ H, get σ 1 = some (.ol H) ∧ IsHand H
abbrev QT : Flow → St → Prop := fun f τ => f = .next ∧ LInv τ
section
variable {p : Nat} {l m : List Nat} {H : List D} {its : It}
theorem sec_whole (hp : p ∈ P3) (hl : l ∈ lotsN p) (hm : m ∈ lotsN p) (hH : IsHand H) (x_script x_turn x_items x_item x_point x_due x_a x_b x_apart x_pairs x_mine x_plain_now x_group x_first x_last x_whole : Option C) : Ends (exs G_law (bs 17) [x_script, some (.ol H), x_turn, some (.val (.int (p : Nat))), some (.val (enN l)), some (.val (enN m)), x_items, x_item, x_point, x_due, x_a, x_b, x_apart, x_pairs, x_mine, x_plain_now, x_group, x_first, x_last, x_whole]) QT := by
  obtain ⟨p3, p7⟩ := P3_pos hp
  obtain ⟨l1, l2, l3⟩ := lot_len hp hl
  obtain ⟨m1, m2, m3⟩ := lot_len hp hm
  refine e_set (i := 15) (x := .od true []) k_dic0 (by simp) (.inl (by decide)) ?_
  refine e_dput (n := 15) (y := .od true []) (t := true) (kvs := []) (v := .val (.int 1)) (kx := .val (encK (0, 0))) k_int rfl (k_tup (ks_cons k_int (ks_cons k_int ks_nil))) rfl rfl (by decide) ?_
  refine e_set (i := 16) (x := .oi 4 (grp p)) (k_mk1 (K.cast (k_tup (ks_cons (k_name rfl) ks_nil)) rfl) rfl rfl (r_group hp)) (by simp [put]) (.inl (by decide)) ?_
  show Ends (exs G_law _ [x_script, some (.ol H), x_turn, some (.val (.int (p : Nat))), some (.val (enN l)), some (.val (enN m)), x_items, x_item, x_point, x_due, x_a, x_b, x_apart, x_pairs, x_mine, some (.od true (itP.map encP)), some (.oi 4 (grp p)), x_first, x_last, x_whole]) _
  refine e_par2 (d1 := .tup (l.map eh)) (d2 := .tup (m.map eh)) (k_tupleL (K.wl (k_lc (enc := eI) (vs := l) (g := fun n => .val (eh n)) (i_name rfl) (by omega) (fun v => rfl) (fun v => rfl) fun v hv => (k_tup (ks_cons (k_name rfl) ks_nil))))) (k_tupleL (K.wl (k_lc (enc := eI) (vs := m) (g := fun n => .val (eh n)) (i_name rfl) (by omega) (fun v => rfl) (fun v => rfl) fun v hv => (k_tup (ks_cons (k_name rfl) ks_nil))))) (by simp) (by simp) ?_
  show Ends (exs G_law _ [x_script, some (.ol H), x_turn, some (.val (.int (p : Nat))), some (.val (enN l)), some (.val (enN m)), x_items, x_item, x_point, x_due, x_a, x_b, x_apart, x_pairs, x_mine, some (.od true (itP.map encP)), some (.oi 4 (grp p)), some (.val (.tup (l.map eh))), some (.val (.tup (m.map eh))), x_whole]) _
  refine e_setV (i := 19) (x := .val (.tup ((setN (suN p l m)).map eh))) (ev_callF (es1 := []) (es2 := [.name 17, .name 18]) (xs1 := []) (xs2 := [.val (.tup (l.map eh)), .val (.tup (m.map eh))]) (n := 16) (y := .oi 4 (grp p)) rfl rfl rfl ks_nil rfl rfl (ks_cons (k_name rfl) (ks_cons (k_name rfl) ks_nil)) rfl rfl (r_sums hp hl hm)) (by simp [put]) (.inl (by decide)) ?_
  show Ends (exs G_law _ [x_script, some (.ol H), x_turn, some (.val (.int (p : Nat))), some (.val (enN l)), some (.val (enN m)), x_items, x_item, x_point, x_due, x_a, x_b, x_apart, x_pairs, x_mine, some (.od true (itP.map encP)), some (.val (.ins 4 (grp p))), some (.val (.tup (l.map eh))), some (.val (.tup (m.map eh))), some (.val (.tup ((setN (suN p l m)).map eh)))]) _
  have hr : F_restricted.run [.val (.int (p : Nat)), .val (enN l), .val (enN m), .val (enD itP)] = .ok (.val (.tup ((setN (suN p l m)).map eI))) none := by
    rw [r_restricted hp hl hm ok_P, rs_plain hp hl hm]
  refine e_same (same_ife (same_cmp (same_bi (same_lc (same_it (σ1 := [x_script, some (.ol H), x_turn, some (.val (.int (p : Nat))), some (.val (enN l)), some (.val (enN m)), x_items, x_item, x_point, x_due, x_a, x_b, x_apart, x_pairs, x_mine, some (.val (enD itP)), some (.val (.ins 4 (grp p))), some (.val (.tup (l.map eh))), some (.val (.tup (m.map eh))), some (.val (.tup ((setN (suN p l m)).map eh)))]) ?_))))) ?_
  · have h1 := ev_callF (Γ := G_law) (σ := [x_script, some (.ol H), x_turn, some (.val (.int (p : Nat))), some (.val (enN l)), some (.val (enN m)), x_items, x_item, x_point, x_due, x_a, x_b, x_apart, x_pairs, x_mine, some (.od true (itP.map encP)), some (.val (.ins 4 (grp p))), some (.val (.tup (l.map eh))), some (.val (.tup (m.map eh))), some (.val (.tup ((setN (suN p l m)).map eh)))]) (f := 193) (es1 := [.name 3, .name 4, .name 5]) (es2 := []) (xs1 := [.val (.int (p : Nat)), .val (enN l), .val (enN m)]) (xs2 := []) (n := 15) (y := .od true (itP.map encP)) rfl rfl rfl (ks_cons (k_name rfl) (ks_cons (k_name rfl) (ks_cons (k_name rfl) ks_nil))) rfl rfl ks_nil rfl rfl hr
    have h2 : K G_law [x_script, some (.ol H), x_turn, some (.val (.int (p : Nat))), some (.val (enN l)), some (.val (enN m)), x_items, x_item, x_point, x_due, x_a, x_b, x_apart, x_pairs, x_mine, some (.val (enD itP)), some (.val (.ins 4 (grp p))), some (.val (.tup (l.map eh))), some (.val (.tup (m.map eh))), some (.val (.tup ((setN (suN p l m)).map eh)))] (.call 193 [.name 3, .name 4, .name 5, .name 15]) (.val (.tup ((setN (suN p l m)).map eI))) := k_call rfl A_restricted I_restricted (ks_cons (k_name rfl) (ks_cons (k_name rfl) (ks_cons (k_name rfl) (ks_cons (k_name rfl) ks_nil)))) hr
    exact h1.trans h2.symm
  have hs49 : (setN (suN p l m)).length ≤ 49 := by
    have h1 := dedN_len (suN p l m) []
    have h2 := su_len hp l2 m2
    unfold setN
    rw [isoN_len]
    simp at h1
    omega
  have hlc : K G_law [x_script, some (.ol H), x_turn, some (.val (.int (p : Nat))), some (.val (enN l)), some (.val (enN m)), x_items, x_item, x_point, x_due, x_a, x_b, x_apart, x_pairs, x_mine, some (.val (enD itP)), some (.val (.ins 4 (grp p))), some (.val (.tup (l.map eh))), some (.val (.tup (m.map eh))), some (.val (.tup ((setN (suN p l m)).map eh)))] (.bi .tuple [.lc (.tup [.name 10]) (.name 10) (.it (.call 193 [.name 3, .name 4, .name 5, .name 15])) none]) (.val (.tup ((setN (suN p l m)).map eh))) := k_tupleL (K.wl (k_lc (enc := eI) (vs := setN (suN p l m)) (g := fun n => .val (eh n)) (i_k (k_call rfl A_restricted I_restricted (ks_cons (k_name rfl) (ks_cons (k_name rfl) (ks_cons (k_name rfl) (ks_cons (k_name rfl) ks_nil)))) hr) rfl) (by omega) (fun v => rfl) (fun v => rfl) fun v hv => (k_tup (ks_cons (k_name rfl) ks_nil))))
  refine e_no (K.wv (k_neD (K.wv hlc) (K.wv (k_name rfl)) (cmp_T _).1)) (by rw [(cmp_T _).2]; rfl) ?_
  refine e_no (K.wv (k_lt (K.wv (K.cast (k_lenT (K.wv (k_name rfl))) (by rw [List.length_map]))) (K.wv (k_call rfl A_least_sums I_least_sums (ks_cons (k_name rfl) (ks_cons (k_name rfl) (ks_cons (k_name rfl) ks_nil))) (r_least_sums hp hl hm))))) ?_ ?_
  · have := cd hp hl hm
    refine decide_eq_false ?_
    omega
  refine e_no (K.wv (k_ne (K.wv (k_call rfl A_least_sums I_least_sums (ks_cons (k_name rfl) (ks_cons (k_name rfl) (ks_cons (k_name rfl) ks_nil))) (r_least_sums hp hl hm))) (K.wv (k_min2 (K.wv (k_name rfl)) (K.wv (k_sub (K.wv (k_add (K.wv (K.cast (k_lenT (K.wv (k_name rfl))) (by rw [List.length_map]))) (K.wv (K.cast (k_lenT (K.wv (k_name rfl))) (by rw [List.length_map]))))) (K.wv k_int))))))) ?_ (e_nil ⟨rfl, rfl, H, rfl, hH⟩)
  rw [decide_eq_true rfl]
  rfl
end
end CL.Pl

set_option autoImplicit false
set_option linter.all false
set_option Elab.async false
set_option maxRecDepth 100000
set_option maxHeartbeats 1000000
/-! K99m10: a turn of k99's law, its first half; the law. -/
namespace CL.Pl
section
variable {p : Nat} {l m : List Nat} {H : List D} {its : It}
theorem un_len (hp : p ∈ P3) (hl : l ∈ lotsN p) (i : Nat) : ((l.take i).flatMap fun a => (l.filter fun b => a != b).map fun b => (a + b) % p).length ≤ 49 := by
  obtain ⟨l1, l2, l3⟩ := lot_len hp hl
  have h1 := flat_len (f := fun a => (l.filter fun b => a != b).map fun b => (a + b) % p) (B := l.length) (l.take i) fun a _ => by
    rw [List.length_map]
    exact List.length_filter_le _ _
  have := P3_pos hp
  have h2 : (l.take i).length * l.length ≤ 7 * 7 := Nat.mul_le_mul (by rw [List.length_take]; omega) (by omega)
  omega
theorem sec_mine (hp : p ∈ P3) (hl : l ∈ lotsN p) (hm : m ∈ lotsN p) (hH : IsHand H) (x_script x_turn x_items x_item x_point x_due x_a x_b x_apart x_pairs x_plain_now x_group x_first x_last x_whole : Option C) : Ends (exs G_law (bs 15) [x_script, some (.ol H), x_turn, some (.val (.int (p : Nat))), some (.val (enN l)), some (.val (enN m)), x_items, x_item, x_point, x_due, x_a, x_b, x_apart, x_pairs, some (.val (.tup ((setN (unN p l)).map eI))), x_plain_now, x_group, x_first, x_last, x_whole]) QT := by
  obtain ⟨p3, p7⟩ := P3_pos hp
  obtain ⟨l1, l2, l3⟩ := lot_len hp hl
  have two : decide ((1 : Int) < (l.length : Nat)) = true → 2 ≤ l.length := fun h => by
    have := of_decide_eq_true h
    omega
  refine e_no (K.wv (k_and (K.wv (k_gt (K.wv (K.cast (y := .val (.int (l.length : Nat))) (k_lenT (K.wv (k_name rfl))) (by rw [List.length_map]))) (K.wv k_int))) fun h_and => k_neD (K.wv (k_tupleT (K.wv (k_call rfl A_unlike_sums I_unlike_sums (ks_cons (k_name rfl) (ks_cons (k_name rfl) (ks_cons k_int ks_nil))) (r_unlike hp hl (two h_and)))))) (K.wv (k_name rfl)) (cmp_I _).1)) (by rw [(cmp_I _).2]; simp) ?_
  refine e_no (K.wv (k_and (K.wv (k_gt (K.wv (K.cast (y := .val (.int (l.length : Nat))) (k_lenT (K.wv (k_name rfl))) (by rw [List.length_map]))) (K.wv k_int))) fun h_and => (k_or (K.wv (k_ne (K.wv (k_call rfl A_least_unlike I_least_unlike (ks_cons (k_name rfl) (ks_cons (K.cast (y := .val (.int (l.length : Nat))) (k_lenT (K.wv (k_name rfl))) (by rw [List.length_map])) (ks_cons k_int ks_nil))) (r_least_unlike hp (two h_and) l2))) (K.wv (k_min2 (K.wv (k_name rfl)) (K.wv (k_sub (K.wv (k_mul (K.wv k_int) (K.wv (K.cast (y := .val (.int (l.length : Nat))) (k_lenT (K.wv (k_name rfl))) (by rw [List.length_map]))) (by first | exact mulOk_l (by omega) (by omega) | exact mulOk_r (by omega) (by omega)))) (K.wv k_int))))))) fun h_or => (k_lt (K.wv (K.cast (y := .val (.int ((setN (unN p l)).length : Nat))) (k_lenT (K.wv (k_name rfl))) (by rw [List.length_map]))) (K.wv (k_min2 (K.wv (k_name rfl)) (K.wv (k_sub (K.wv (k_mul (K.wv k_int) (K.wv (K.cast (y := .val (.int (l.length : Nat))) (k_lenT (K.wv (k_name rfl))) (by rw [List.length_map]))) (by first | exact mulOk_l (by omega) (by omega) | exact mulOk_r (by omega) (by omega)))) (K.wv k_int))))))))) ?_ (sec_whole hp hl hm hH _ _ _ _ _ _ _ _ _ _ _ _ _ _ _ _)
  cases h : decide ((1 : Int) < (l.length : Nat)) with
  | false => rfl
  | true =>
    have h2 := eh2 hp hl (two h)
    rw [decide_eq_true rfl, Bool.true_and, Bool.not_true, Bool.false_or]
    refine decide_eq_false ?_
    have := two h
    omega
theorem sec_apart (hp : p ∈ P3) (hl : l ∈ lotsN p) (hm : m ∈ lotsN p) (hH : IsHand H) (x_script x_turn x_items x_item x_point x_due x_a x_b x_apart x_pairs x_mine x_plain_now x_group x_first x_last x_whole : Option C) : Ends (exs G_law (bs 8) [x_script, some (.ol H), x_turn, some (.val (.int (p : Nat))), some (.val (enN l)), some (.val (enN m)), x_items, x_item, x_point, x_due, x_a, x_b, x_apart, x_pairs, x_mine, x_plain_now, x_group, x_first, x_last, x_whole]) QT := by
  obtain ⟨p3, p7⟩ := P3_pos hp
  obtain ⟨l1, l2, l3⟩ := lot_len hp hl
  refine e_set (i := 12) (x := .od true []) k_dic0 (by simp) (.inl (by decide)) ?_
  refine e_dput (n := 12) (y := .od true []) (t := true) (kvs := []) (v := .val (.int 1)) (kx := .val (encK (1, 0))) k_int rfl (k_tup (ks_cons k_int (ks_cons k_int ks_nil))) rfl rfl (by decide) ?_
  show Ends (exs G_law _ [x_script, some (.ol H), x_turn, some (.val (.int (p : Nat))), some (.val (enN l)), some (.val (enN m)), x_items, x_item, x_point, x_due, x_a, x_b, some (.od true [(encK (1, 0), .int 1)]), x_pairs, x_mine, x_plain_now, x_group, x_first, x_last, x_whole]) _
  refine e_dput (n := 12) (y := .od true [(encK (1, 0), .int 1)]) (t := true) (kvs := [(encK (1, 0), .int 1)]) (v := .val (.int (-1))) (kx := .val (encK (0, 1))) (k_neg (K.wv k_int)) rfl (k_tup (ks_cons k_int (ks_cons k_int ks_nil))) rfl rfl (by decide) ?_
  show Ends (exs G_law _ [x_script, some (.ol H), x_turn, some (.val (.int (p : Nat))), some (.val (enN l)), some (.val (enN m)), x_items, x_item, x_point, x_due, x_a, x_b, some (.od true (itA.map encP)), x_pairs, x_mine, x_plain_now, x_group, x_first, x_last, x_whole]) _
  refine e_set (i := 13) (x := .ol []) (k_lst ks_nil) (by simp) (.inl (by decide)) ?_
  refine e_for (fun i σ => ∃ x_a x_b, σ = [x_script, some (.ol H), x_turn, some (.val (.int (p : Nat))), some (.val (enN l)), some (.val (enN m)), x_items, x_item, x_point, x_due, x_a, x_b, some (.od true (itA.map encP)), some (.ol (((l.take i).flatMap fun a => (l.filter fun b => a != b).map fun b => (a + b) % p).map eI)), x_mine, x_plain_now, x_group, x_first, x_last, x_whole]) (i_name rfl) ⟨_, _, rfl⟩ (fun i d σ hd ⟨x_a, x_b, hs⟩ => ?_) fun σ ⟨x_a, x_b, hs⟩ => ?_
  · subst hs
    obtain ⟨a, ha, rfl, am⟩ := map_get hd
    have hu := un_len hp hl i
    rw [take_get ha, List.flatMap_append, List.flatMap_cons, List.flatMap_nil, List.append_nil]
    generalize ((l.take i).flatMap fun a => (l.filter fun b => a != b).map fun b => (a + b) % p) = acc at hu
    refine ⟨_, rfl, ?_⟩
    show Ends (exs G_law _ [x_script, some (.ol H), x_turn, some (.val (.int (p : Nat))), some (.val (enN l)), some (.val (enN m)), x_items, x_item, x_point, x_due, some (.val (.int (a : Nat))), x_b, some (.od true (itA.map encP)), some (.ol (acc.map eI)), x_mine, x_plain_now, x_group, x_first, x_last, x_whole]) _
    have hlc := k_lcf (Γ := G_law) (σ := [x_script, some (.ol H), x_turn, some (.val (.int (p : Nat))), some (.val (enN l)), some (.val (enN m)), x_items, x_item, x_point, x_due, some (.val (.int (a : Nat))), x_b, some (.od true (itA.map encP)), some (.ol (acc.map eI)), x_mine, x_plain_now, x_group, x_first, x_last, x_whole]) (τ := fun b => [x_script, some (.ol H), x_turn, some (.val (.int (p : Nat))), some (.val (enN l)), some (.val (enN m)), x_items, x_item, x_point, x_due, some (.val (.int (a : Nat))), some (.val (eI b)), some (.od true (itA.map encP)), some (.ol (acc.map eI)), x_mine, x_plain_now, x_group, x_first, x_last, x_whole]) (elt := (.bin .mod (.bi .int [.bin .add (.name 10) (.name 11)]) (.name 3))) (cnd := (.cmp .ne (.name 10) (.name 11))) (tgt := .name 11) (it := .it (.name 4)) (enc := eI) (vs := l) (p := fun b => !decide ((a : Int) = (b : Nat))) (g := fun b => .val (.int (((a : Nat) + (b : Nat)) % (p : Nat)))) (i_name rfl) (by omega) (fun v => rfl) (fun v => rfl) (fun b hv => (K.wv (k_ne (K.wv (k_name rfl)) (K.wv (k_name rfl))))) fun b hv hb => (k_mod (K.wv (k_intI (K.wv (k_add (K.wv (k_name rfl)) (K.wv (k_name rfl)))))) (K.wv (k_name rfl)) (by omega))
    have hl2 : ((l.filter fun b => a != b).map fun b => (a + b) % p).length ≤ l.length := by
      rw [List.length_map]
      exact List.length_filter_le _ _
    have hrow : ((l.filter fun b => !decide ((a : Int) = (b : Nat))).map fun v => (C.val (.int (((a : Nat) + (v : Nat)) % (p : Nat)))).toD) = ((l.filter fun b => a != b).map fun b => (a + b) % p).map eI := by
      rw [List.map_map, filter_cong (g := fun b => a != b) fun b _ => ?_]
      · rfl
      · rw [Bool.eq_iff_iff]
        simp
        omega
    rw [hrow] at hlc
    refine e_expr (ev_extend (ds := acc.map eI) (i := 13) rfl (K.wl hlc) (by rw [List.length_map, List.length_map]; omega)) (e_nil ⟨some (.val (.int (a : Nat))), x_b, ?_⟩)
    rw [List.map_append]
    rfl
  · subst hs
    rw [List.length_map, List.take_of_length_le (Nat.le_refl _)]
    have hu := un_len hp hl l.length
    rw [List.take_of_length_le (Nat.le_refl _)] at hu
    refine e_set (i := 14) (x := .val (.tup ((setN (unN p l)).map eI))) (k_tupleL (K.wl (k_isetL (w_nO rfl) (isetD_I (by omega))))) (by simp) (.inl (by decide)) ?_
    have hr : F_restricted.run [.val (.int (p : Nat)), .val (enN l), .val (enN l), .val (enD itA)] = .ok (.val (.tup ((setN (unN p l)).map eI))) none := by
      rw [r_restricted hp hl hl ok_A, rs_apart hp hl]
    show Ends (exs G_law _ [x_script, some (.ol H), x_turn, some (.val (.int (p : Nat))), some (.val (enN l)), some (.val (enN m)), x_items, x_item, x_point, x_due, x_a, x_b, some (.od true (itA.map encP)), some (.ol ((unN p l).map eI)), some (.val (.tup ((setN (unN p l)).map eI))), x_plain_now, x_group, x_first, x_last, x_whole]) _
    refine e_same (same_ife (same_cmp (same_bi (σ1 := [x_script, some (.ol H), x_turn, some (.val (.int (p : Nat))), some (.val (enN l)), some (.val (enN m)), x_items, x_item, x_point, x_due, x_a, x_b, some (.val (enD itA)), some (.ol ((unN p l).map eI)), some (.val (.tup ((setN (unN p l)).map eI))), x_plain_now, x_group, x_first, x_last, x_whole]) ?_))) ?_
    · have h1 := ev_callF (Γ := G_law) (σ := [x_script, some (.ol H), x_turn, some (.val (.int (p : Nat))), some (.val (enN l)), some (.val (enN m)), x_items, x_item, x_point, x_due, x_a, x_b, some (.od true (itA.map encP)), some (.ol ((unN p l).map eI)), some (.val (.tup ((setN (unN p l)).map eI))), x_plain_now, x_group, x_first, x_last, x_whole]) (f := 193) (es1 := [.name 3, .name 4, .name 4]) (es2 := []) (xs1 := [.val (.int (p : Nat)), .val (enN l), .val (enN l)]) (xs2 := []) (n := 12) (y := .od true (itA.map encP)) rfl rfl rfl (ks_cons (k_name rfl) (ks_cons (k_name rfl) (ks_cons (k_name rfl) ks_nil))) rfl rfl ks_nil rfl rfl hr
      have h2 : K G_law [x_script, some (.ol H), x_turn, some (.val (.int (p : Nat))), some (.val (enN l)), some (.val (enN m)), x_items, x_item, x_point, x_due, x_a, x_b, some (.val (enD itA)), some (.ol ((unN p l).map eI)), some (.val (.tup ((setN (unN p l)).map eI))), x_plain_now, x_group, x_first, x_last, x_whole] (.call 193 [.name 3, .name 4, .name 4, .name 12]) (.val (.tup ((setN (unN p l)).map eI))) := k_call rfl A_restricted I_restricted (ks_cons (k_name rfl) (ks_cons (k_name rfl) (ks_cons (k_name rfl) (ks_cons (k_name rfl) ks_nil)))) hr
      exact h1.trans h2.symm
    refine e_no (K.wv (k_neD (K.wv (k_tupleT (K.wv (k_call rfl A_restricted I_restricted (ks_cons (k_name rfl) (ks_cons (k_name rfl) (ks_cons (k_name rfl) (ks_cons (k_name rfl) ks_nil)))) hr)))) (K.wv (k_name rfl)) (cmp_I _).1)) (by rw [(cmp_I _).2]; rfl) ?_
    exact sec_mine hp hl hm hH _ _ _ _ _ _ _ _ _ _ _ _ _ _ _
theorem sec_due (hp : p ∈ P3) (hl : l ∈ lotsN p) (hm : m ∈ lotsN p) (hH : IsHand H) (hI : OkI its) (x_script x_turn x_item x_point x_due x_a x_b x_apart x_pairs x_mine x_plain_now x_group x_first x_last x_whole : Option C) : Ends (exs G_law (bs 5) [x_script, some (.ol H), x_turn, some (.val (.int (p : Nat))), some (.val (enN l)), some (.val (enN m)), some (.val (enD its)), x_item, x_point, x_due, x_a, x_b, x_apart, x_pairs, x_mine, x_plain_now, x_group, x_first, x_last, x_whole]) QT := by
  obtain ⟨p3, p7⟩ := P3_pos hp
  obtain ⟨l1, l2, l3⟩ := lot_len hp hl
  obtain ⟨m1, m2, m3⟩ := lot_len hp hm
  refine e_set (i := 9) (x := .ol []) (k_lst ks_nil) (by simp) (.inl (by decide)) ?_
  refine e_for (fun i σ => ∃ x_a x_b, σ = [x_script, some (.ol H), x_turn, some (.val (.int (p : Nat))), some (.val (enN l)), some (.val (enN m)), some (.val (enD its)), x_item, x_point, some (.ol ((rsN p its (l.take i) m).map eI)), x_a, x_b, x_apart, x_pairs, x_mine, x_plain_now, x_group, x_first, x_last, x_whole]) (i_name rfl) ⟨_, _, rfl⟩ (fun i d σ hd ⟨x_a, x_b, hs⟩ => ?_) fun σ ⟨x_a, x_b, hs⟩ => ?_
  · subst hs
    obtain ⟨a, ha, rfl, am⟩ := map_get hd
    have hu : (rsN p its (l.take i) m).length ≤ 49 := rs_len hp (by rw [List.length_take]; omega) m2
    have ht : rsN p its (l.take (i + 1)) m = rsN p its (l.take i) m ++ rowN p its a m := by
      rw [take_get ha]
      unfold rsN
      rw [List.flatMap_append, List.flatMap_cons, List.flatMap_nil, List.append_nil]
    rw [ht]
    generalize rsN p its (l.take i) m = acc at hu
    refine ⟨_, rfl, ?_⟩
    show Ends (exs G_law _ [x_script, some (.ol H), x_turn, some (.val (.int (p : Nat))), some (.val (enN l)), some (.val (enN m)), some (.val (enD its)), x_item, x_point, some (.ol (acc.map eI)), some (.val (.int (a : Nat))), x_b, x_apart, x_pairs, x_mine, x_plain_now, x_group, x_first, x_last, x_whole]) _
    have hlc := k_lcf (Γ := G_law) (σ := [x_script, some (.ol H), x_turn, some (.val (.int (p : Nat))), some (.val (enN l)), some (.val (enN m)), some (.val (enD its)), x_item, x_point, some (.ol (acc.map eI)), some (.val (.int (a : Nat))), x_b, x_apart, x_pairs, x_mine, x_plain_now, x_group, x_first, x_last, x_whole]) (τ := fun b => [x_script, some (.ol H), x_turn, some (.val (.int (p : Nat))), some (.val (enN l)), some (.val (enN m)), some (.val (enD its)), x_item, x_point, some (.ol (acc.map eI)), some (.val (.int (a : Nat))), some (.val (eI b)), x_apart, x_pairs, x_mine, x_plain_now, x_group, x_first, x_last, x_whole]) (elt := (.bin .mod (.bi .int [.bin .add (.name 10) (.name 11)]) (.name 3))) (cnd := (.cmp .ne (.call 192 [.name 3, .name 6, .tup [.name 10, .name 11]]) (.int 0))) (tgt := .name 11) (it := .it (.name 5)) (enc := eI) (vs := m) (p := fun b => !decide (lawV p its a b = 0)) (g := fun b => .val (.int (((a : Nat) + (b : Nat)) % (p : Nat)))) (i_name rfl) (by omega) (fun v => rfl) (fun v => rfl) (fun b hv => K.wv (k_ne (K.wv (k_call rfl A__law_value I__law_value (ks_cons (k_name rfl) (ks_cons (k_name rfl) (ks_cons (k_tup (ks_cons (k_name rfl) (ks_cons (k_name rfl) ks_nil))) ks_nil))) (r__law_value hp hI (l3 a am) (m3 b hv)))) (K.wv k_int))) fun b hv hb => (k_mod (K.wv (k_intI (K.wv (k_add (K.wv (k_name rfl)) (K.wv (k_name rfl)))))) (K.wv (k_name rfl)) (by omega))
    have hl2 : (rowN p its a m).length ≤ m.length := row_len a m
    have hrow : ((m.filter fun b => !decide (lawV p its a b = 0)).map fun v => (C.val (.int (((a : Nat) + (v : Nat)) % (p : Nat)))).toD) = (rowN p its a m).map eI := by
      unfold rowN
      rw [List.map_map, filter_cong (g := fun b => !decide (valV p its a b = 0)) fun b _ => by rw [val_eq]]
      rfl
    rw [hrow] at hlc
    refine e_expr (ev_extend (ds := acc.map eI) (i := 9) rfl (K.wl hlc) (by rw [List.length_map, List.length_map]; omega)) (e_nil ⟨some (.val (.int (a : Nat))), x_b, ?_⟩)
    rw [List.map_append]
    rfl
  · subst hs
    rw [List.length_map, List.take_of_length_le (Nat.le_refl _)]
    have hu : (rsN p its l m).length ≤ 49 := rs_len hp l2 m2
    refine e_no (K.wv (k_neD (K.wv (k_tupleT (K.wv (k_call rfl A_restricted I_restricted (ks_cons (k_name rfl) (ks_cons (k_name rfl) (ks_cons (k_name rfl) (ks_cons (k_name rfl) ks_nil)))) (r_restricted hp hl hm hI))))) (K.wv (k_tupleL (K.wl (k_isetL (w_nO rfl) (isetD_I (by omega)))))) (cmp_I _).1)) (by rw [(cmp_I _).2]; rfl) ?_
    exact sec_apart hp hl hm hH _ _ _ _ _ _ _ _ _ _ _ _ _ _ _ _
/-- the value, where items stand still from now on -/
theorem sec_value {x y : Nat} (hp : p ∈ P3) (hl : l ∈ lotsN p) (hm : m ∈ lotsN p) (hH : IsHand H) (hI : OkI its) (hx : x < p) (hy : y < p) (x_script x_turn x_item x_due x_a x_b x_apart x_pairs x_mine x_plain_now x_group x_first x_last x_whole : Option C) : Ends (exs G_law (bs 4) [x_script, some (.ol H), x_turn, some (.val (.int (p : Nat))), some (.val (enN l)), some (.val (enN m)), some (.od true (its.map encP)), x_item, some (.val (.tup [.int (x : Nat), .int (y : Nat)])), x_due, x_a, x_b, x_apart, x_pairs, x_mine, x_plain_now, x_group, x_first, x_last, x_whole]) QT := by
  obtain ⟨p3, p7⟩ := P3_pos hp
  have hr := r_value hp hI hx hy
  refine e_same (same_ife (same_cmp (same_bin (same_bi (σ1 := [x_script, some (.ol H), x_turn, some (.val (.int (p : Nat))), some (.val (enN l)), some (.val (enN m)), some (.val (enD its)), x_item, some (.val (.tup [.int (x : Nat), .int (y : Nat)])), x_due, x_a, x_b, x_apart, x_pairs, x_mine, x_plain_now, x_group, x_first, x_last, x_whole]) ?_)))) ?_
  · have h1 := ev_callF (Γ := G_law) (σ := [x_script, some (.ol H), x_turn, some (.val (.int (p : Nat))), some (.val (enN l)), some (.val (enN m)), some (.od true (its.map encP)), x_item, some (.val (.tup [.int (x : Nat), .int (y : Nat)])), x_due, x_a, x_b, x_apart, x_pairs, x_mine, x_plain_now, x_group, x_first, x_last, x_whole]) (f := 190) (es1 := [.name 3]) (es2 := [.name 8]) (xs1 := [.val (.int (p : Nat))]) (xs2 := [.val (.tup [.int (x : Nat), .int (y : Nat)])]) (n := 6) (y := .od true (its.map encP)) rfl rfl rfl (ks_cons (k_name rfl) ks_nil) rfl rfl (ks_cons (k_name rfl) ks_nil) rfl rfl hr
    have h2 : K G_law [x_script, some (.ol H), x_turn, some (.val (.int (p : Nat))), some (.val (enN l)), some (.val (enN m)), some (.val (enD its)), x_item, some (.val (.tup [.int (x : Nat), .int (y : Nat)])), x_due, x_a, x_b, x_apart, x_pairs, x_mine, x_plain_now, x_group, x_first, x_last, x_whole] (.call 190 [.name 3, .name 6, .name 8]) (.val (.int (valV p its x y))) := k_call rfl A_value I_value (ks_cons (k_name rfl) (ks_cons (k_name rfl) (ks_cons (k_name rfl) ks_nil))) hr
    exact h1.trans h2.symm
  refine e_no (K.wv (k_ne (K.wv (k_mod (K.wv (k_intI (K.wv (k_call rfl A_value I_value (ks_cons (k_name rfl) (ks_cons (k_name rfl) (ks_cons (k_name rfl) ks_nil))) hr)))) (K.wv (k_name rfl)) (by omega))) (K.wv (k_call rfl A__law_value I__law_value (ks_cons (k_name rfl) (ks_cons (k_name rfl) (ks_cons (k_name rfl) ks_nil))) (r__law_value hp hI hx hy))))) ?_ (sec_due hp hl hm hH hI _ _ _ _ _ _ _ _ _ _ _ _ _ _ _)
  rw [valV_mod, val_eq, decide_eq_true rfl]
  rfl
theorem putP_len (its : It) (k : Nat × Nat) (c : Int) : (putP its k c).length ≤ its.length + 1 := by
  unfold putP
  split
  · rw [List.length_map]; omega
  · rw [List.length_append]; exact Nat.le_refl _
theorem putP_keys {its : It} {k : Nat × Nat} {c : Int} {q : Nat × Nat} (h : q ∈ (putP its k c).map (·.1)) : q = k ∨ q ∈ its.map (·.1) := by
  unfold putP at h
  split at h
  · refine .inr ?_
    rw [List.map_map] at h
    obtain ⟨r, hr, rfl⟩ := List.mem_map.mp h
    refine List.mem_map.mpr ⟨r, hr, ?_⟩
    show r.1 = (if r.1 = k then (r.1, c) else r).1
    split <;> rfl
  · rw [List.map_append] at h
    rcases List.mem_append.mp h with h | h
    · exact .inr h
    · exact .inl (List.mem_singleton.mp h)
/-- the draws -/
theorem turn_ok {i : Nat} {σ : St} (h : LInv σ) : Ends (exs G_law lawTurn (put σ 2 (some (.val (.int (i : Nat)))))) QT := by
  obtain ⟨hlen, H, h1, hH⟩ := h
  match σ, hlen with
  | [x_script, x_hand, x_turn, x_prime, x_one, x_other, x_items, x_item, x_point, x_due, x_a, x_b, x_apart, x_pairs, x_mine, x_plain_now, x_group, x_first, x_last, x_whole], _ =>
  obtain rfl : x_hand = some (.ol H) := h1
  obtain ⟨p, H1, e1, hp, hH1⟩ := r__law_some hH
  obtain ⟨p3, p7⟩ := P3_pos hp
  refine e_setV (i := 3) (x := .val (.int (p : Nat))) (ev_io (f := 50) (j := 1) (es := [.lst [.int 3, .int 5, .int 7]]) (xs := [.ol [.int 3, .int 5, .int 7]]) (o := .ol H) rfl rfl rfl rfl rfl (ks_cons (k_lst (ks_cons k_int (ks_cons k_int (ks_cons k_int ks_nil)))) ks_nil) rfl e1) (by simp [put]) (.inl (by decide)) ?_
  show Ends (exs G_law (bs 1) [x_script, some (.ol H1), some (.val (.int (i : Nat))), some (.val (.int (p : Nat))), x_one, x_other, x_items, x_item, x_point, x_due, x_a, x_b, x_apart, x_pairs, x_mine, x_plain_now, x_group, x_first, x_last, x_whole]) _
  obtain ⟨l, H2, e2, hl, hH2⟩ := r__law_rests hp hH1
  obtain ⟨m, H3, e3, hm, hH3⟩ := r__law_rests hp hH2
  have d1 := ev_io (Γ := G_law) (σ := [x_script, some (.ol H1), some (.val (.int (i : Nat))), some (.val (.int (p : Nat))), x_one, x_other, x_items, x_item, x_point, x_due, x_a, x_b, x_apart, x_pairs, x_mine, x_plain_now, x_group, x_first, x_last, x_whole]) (f := 191) (j := 1) (es := [.name 3]) (xs := [.val (.int (p : Nat))]) (o := .ol H1) rfl rfl rfl rfl rfl (ks_cons (k_name rfl) ks_nil) rfl e2
  have d2 := ev_io (Γ := G_law) (σ := [x_script, some (.ol H2), some (.val (.int (i : Nat))), some (.val (.int (p : Nat))), x_one, x_other, x_items, x_item, x_point, x_due, x_a, x_b, x_apart, x_pairs, x_mine, x_plain_now, x_group, x_first, x_last, x_whole]) (f := 191) (j := 1) (es := [.name 3]) (xs := [.val (.int (p : Nat))]) (o := .ol H2) rfl rfl rfl rfl rfl (ks_cons (k_name rfl) ks_nil) rfl e3
  refine e_next (σ1 := [x_script, some (.ol H3), some (.val (.int (i : Nat))), some (.val (.int (p : Nat))), some (.val (enN l)), some (.val (enN m)), some (.od true []), x_item, x_point, x_due, x_a, x_b, x_apart, x_pairs, x_mine, x_plain_now, x_group, x_first, x_last, x_whole]) ?_ ?_
  · have e4 : evs G_law [.call 191 [.name 1, .name 3], .call 191 [.name 1, .name 3], .dic0 true] [x_script, some (.ol H1), some (.val (.int (i : Nat))), some (.val (.int (p : Nat))), x_one, x_other, x_items, x_item, x_point, x_due, x_a, x_b, x_apart, x_pairs, x_mine, x_plain_now, x_group, x_first, x_last, x_whole] = .ok [.c (.val (enN l)), .c (.val (enN m)), .c (.od true [])] [x_script, some (.ol H3), some (.val (.int (i : Nat))), some (.val (.int (p : Nat))), x_one, x_other, x_items, x_item, x_point, x_due, x_a, x_b, x_apart, x_pairs, x_mine, x_plain_now, x_group, x_first, x_last, x_whole] := evs_c d1 (evs_2 d2 k_dic0)
    rw [ex, e4]
    rfl
  obtain ⟨n, H4, e5, hn, hH4⟩ := ev_draw (Γ := G_law) (σ := [x_script, some (.ol H3), some (.val (.int (i : Nat))), some (.val (.int (p : Nat))), some (.val (enN l)), some (.val (enN m)), some (.od true []), x_item, x_point, x_due, x_a, x_b, x_apart, x_pairs, x_mine, x_plain_now, x_group, x_first, x_last, x_whole]) (n := 1) (e := .int 4) (m := 4) rfl hH3 rfl k_int (by decide) (by decide)
  have hIt : evI G_law (.rng [.call 17 [.name 1, .int 4]]) [x_script, some (.ol H3), some (.val (.int (i : Nat))), some (.val (.int (p : Nat))), some (.val (enN l)), some (.val (enN m)), some (.od true []), x_item, x_point, x_due, x_a, x_b, x_apart, x_pairs, x_mine, x_plain_now, x_group, x_first, x_last, x_whole] = .ok ((List.range n).map fun (t : Nat) => D.int (t : Nat), []) [x_script, some (.ol H4), some (.val (.int (i : Nat))), some (.val (.int (p : Nat))), some (.val (enN l)), some (.val (enN m)), some (.od true []), x_item, x_point, x_due, x_a, x_b, x_apart, x_pairs, x_mine, x_plain_now, x_group, x_first, x_last, x_whole] := by
    have hb : big (n : Nat) = true := big_le (by omega) (by omega)
    rw [evI, evs_1 e5]
    simp only [Res.bind, vws, vw, Option.bind, Option.map, C.toD, hb, if_true]
    have : rangeD 0 (n : Int).toNat = (List.range n).map fun (t : Nat) => D.int (t : Nat) := by
      rw [Int.toNat_natCast]
      unfold rangeD
      congr 1
      funext t
      rw [Int.zero_add]
    rw [this]
    rfl
  refine e_forS (fun j σ => ∃ (its : It) (H : List D) (x_item : Option C), its.length ≤ j ∧ (∀ k ∈ its.map (·.1), k.1 ≤ 2 ∧ k.2 ≤ 2) ∧ IsHand H ∧ σ = [x_script, some (.ol H), some (.val (.int (i : Nat))), some (.val (.int (p : Nat))), some (.val (enN l)), some (.val (enN m)), some (.od true (its.map encP)), x_item, x_point, x_due, x_a, x_b, x_apart, x_pairs, x_mine, x_plain_now, x_group, x_first, x_last, x_whole]) hIt ⟨[], H4, _, Nat.le_refl _, by simp, hH4, rfl⟩ ?_ ?_
  · rintro j d σ hd ⟨its, H, x_item, hln, hk, hH, rfl⟩
    obtain ⟨t, _, rfl, tm⟩ := map_get hd
    refine ⟨_, rfl, ?_⟩
    show Ends (exs G_law _ [x_script, some (.ol H), some (.val (.int (i : Nat))), some (.val (.int (p : Nat))), some (.val (enN l)), some (.val (enN m)), some (.od true (its.map encP)), some (.val (.int (t : Nat))), x_point, x_due, x_a, x_b, x_apart, x_pairs, x_mine, x_plain_now, x_group, x_first, x_last, x_whole]) _
    obtain ⟨c, H1, e1, hc, hH1⟩ := ev_draw (Γ := G_law) (σ := [x_script, some (.ol H), some (.val (.int (i : Nat))), some (.val (.int (p : Nat))), some (.val (enN l)), some (.val (enN m)), some (.od true (its.map encP)), some (.val (.int (t : Nat))), x_point, x_due, x_a, x_b, x_apart, x_pairs, x_mine, x_plain_now, x_group, x_first, x_last, x_whole]) (n := 1) (e := .int 9) (m := 9) rfl hH rfl k_int (by decide) (by decide)
    obtain ⟨a, H2, e2, ha, hH2⟩ := ev_draw (Γ := G_law) (σ := [x_script, some (.ol H1), some (.val (.int (i : Nat))), some (.val (.int (p : Nat))), some (.val (enN l)), some (.val (enN m)), some (.od true (its.map encP)), some (.val (.int (t : Nat))), x_point, x_due, x_a, x_b, x_apart, x_pairs, x_mine, x_plain_now, x_group, x_first, x_last, x_whole]) (n := 1) (e := .int 3) (m := 3) rfl hH1 rfl k_int (by decide) (by decide)
    obtain ⟨b, H3, e3, hb, hH3⟩ := ev_draw (Γ := G_law) (σ := [x_script, some (.ol H2), some (.val (.int (i : Nat))), some (.val (.int (p : Nat))), some (.val (enN l)), some (.val (enN m)), some (.od true (its.map encP)), some (.val (.int (t : Nat))), x_point, x_due, x_a, x_b, x_apart, x_pairs, x_mine, x_plain_now, x_group, x_first, x_last, x_whole]) (n := 1) (e := .int 3) (m := 3) rfl hH2 rfl k_int (by decide) (by decide)
    have hj : j < n := by
      have := (List.getElem?_eq_some_iff.mp hd).1
      rw [List.length_map, List.length_range] at this
      exact this
    refine e_dput (n := 6) (y := .od true (its.map encP)) (t := true) (kvs := its.map encP) (v := .val (.int ((c : Int) - 4))) (kx := .val (encK (a, b))) (σ1 := [x_script, some (.ol H1), some (.val (.int (i : Nat))), some (.val (.int (p : Nat))), some (.val (enN l)), some (.val (enN m)), some (.od true (its.map encP)), some (.val (.int (t : Nat))), x_point, x_due, x_a, x_b, x_apart, x_pairs, x_mine, x_plain_now, x_group, x_first, x_last, x_whole]) (σ2 := [x_script, some (.ol H3), some (.val (.int (i : Nat))), some (.val (.int (p : Nat))), some (.val (enN l)), some (.val (enN m)), some (.od true (its.map encP)), some (.val (.int (t : Nat))), x_point, x_due, x_a, x_b, x_apart, x_pairs, x_mine, x_plain_now, x_group, x_first, x_last, x_whole]) (ev_bin (d1 := .int (c : Nat)) (d2 := .int 4) e1 ev_int rfl rfl rfl) rfl (ev_tup (evs_2 e2 e3) rfl) rfl rfl (by rw [List.length_map]; omega) (e_nil ⟨putP its (a, b) ((c : Int) - 4), H3, some (.val (.int (t : Nat))), ?_, ?_, hH3, ?_⟩)
    · have := putP_len its (a, b) ((c : Int) - 4)
      omega
    · intro k hk2
      rcases putP_keys hk2 with rfl | h
      · exact ⟨by show a ≤ 2; omega, by show b ≤ 2; omega⟩
      · exact hk k h
    · show ([x_script, some (.ol H3), some (.val (.int (i : Nat))), some (.val (.int (p : Nat))), some (.val (enN l)), some (.val (enN m)), some (.od true (dput (its.map encP) (encK (a, b)) (.int ((c : Int) - 4)))), some (.val (.int (t : Nat))), x_point, x_due, x_a, x_b, x_apart, x_pairs, x_mine, x_plain_now, x_group, x_first, x_last, x_whole] : St) = _
      rw [dput_enc]
  · rintro σ ⟨its, H, x_item, hln, hk, hH, rfl⟩
    rw [List.length_map, List.length_range] at hln
    have hI : OkI its := ⟨by omega, hk⟩
    obtain ⟨x, H1, e1, hx, hH1⟩ := ev_draw (Γ := G_law) (σ := [x_script, some (.ol H), some (.val (.int (i : Nat))), some (.val (.int (p : Nat))), some (.val (enN l)), some (.val (enN m)), some (.od true (its.map encP)), x_item, x_point, x_due, x_a, x_b, x_apart, x_pairs, x_mine, x_plain_now, x_group, x_first, x_last, x_whole]) (n := 1) (e := .name 3) (m := (p : Nat)) rfl hH rfl (k_name rfl) (by omega) (by omega)
    obtain ⟨y, H2, e2, hy, hH2⟩ := ev_draw (Γ := G_law) (σ := [x_script, some (.ol H1), some (.val (.int (i : Nat))), some (.val (.int (p : Nat))), some (.val (enN l)), some (.val (enN m)), some (.od true (its.map encP)), x_item, x_point, x_due, x_a, x_b, x_apart, x_pairs, x_mine, x_plain_now, x_group, x_first, x_last, x_whole]) (n := 1) (e := .name 3) (m := (p : Nat)) rfl hH1 rfl (k_name rfl) (by omega) (by omega)
    refine e_setV (i := 8) (x := .val (.tup [.int (x : Nat), .int (y : Nat)])) (σ1 := [x_script, some (.ol H2), some (.val (.int (i : Nat))), some (.val (.int (p : Nat))), some (.val (enN l)), some (.val (enN m)), some (.od true (its.map encP)), x_item, x_point, x_due, x_a, x_b, x_apart, x_pairs, x_mine, x_plain_now, x_group, x_first, x_last, x_whole]) (ev_tup (evs_2 e1 e2) rfl) (by simp) (.inl (by decide)) ?_
    exact sec_value hp hl hm hH2 hI (by omega) (by omega) _ _ _ _ _ _ _ _ _ _ _ _ _ _
end
theorem law_run (ns : List Int) (h : ns.length ≤ 63) : F_law.run [.val (.kl (ns.map .int))] = .ok (.val (.bl true)) none := by
  rw [R_law]
  refine run_of ?_
  obtain ⟨H, eh, hH⟩ := r_hand ns h
  refine e_set (i := 1) (x := .ol H) (k_call rfl A__law_hand I__law_hand (ks_cons (k_name (d := .kl (ns.map .int)) rfl) ks_nil) eh) (by simp [CL.start]) (.inl (by decide)) ?_
  refine e_for (fun _ σ => LInv σ) (i_rngN (n := 4) (K.wv k_int) (by decide)) ⟨rfl, H, rfl, hH⟩ (fun i d σ hd hI => ?_) fun σ hI => e_ret k_bl rfl
  obtain ⟨t, _, rfl, tm⟩ := map_get hd
  refine ⟨put σ 2 (some (.val (.int (t : Nat)))), ?_, (turn_ok hI).mono fun f τ ⟨hf, hL⟩ => ?_⟩
  · rw [bindT, if_pos (by rw [hI.1]; decide)]
  · subst hf
    exact hL
end CL.Pl

set_option autoImplicit false
set_option linter.all false
set_option Elab.async false
set_option maxRecDepth 100000
/-! CLRep: how values by value lie in the abstract heap. -/
namespace CL
open PySem PySem.Spec PyProof.Rows L2

/-- the names of a text: where its classes and defs stand, how its fields are called -/
structure Nm where
  K : PySem.W.Frag
  cls : Nat → Addr
  fn : Nat → Addr
  fld : Nat → Str

def keyD : Key → D
  | .inl i => .int i
  | .inr s => .str s

mutual
/-- v is d, by what stands still in F -/
inductive Rep (Δ : Nm) (F : Hp) : V → D → Prop
  | non : Rep Δ F .non .non
  | bl (b : Bool) : Rep Δ F (.bl b) (.bl b)
  | int (i : Int) : Rep Δ F (.int i) (.int i)
  | str (s : Str) : Rep Δ F (.str s) (.str s)
  | tup {a : Addr} {vs : List V} {ds : List D} : F a = some (.tup vs) → Reps Δ F vs ds → Rep Δ F (.ref a) (.tup ds)
  | lst {a : Addr} {vs : List V} {ds : List D} : Rd F a (.lst vs) → Reps Δ F vs ds → Rep Δ F (.ref a) (.lst ds)
  | dk {a : Addr} {ks : List (Key × V)} {kvs : List (D × D)} : F a = some (.dK ks) → RepKs Δ F ks kvs → Rep Δ F (.ref a) (.dct false kvs)
  | dt {a : Addr} {ks : List (List Key × V)} {kvs : List (D × D)} : F a = some (.dT ks) → RepTs Δ F ks kvs → Rep Δ F (.ref a) (.dct true kvs)
  | ins {a dx : Addr} {c : Nat} {vs : List (Str × V)} {fs : List (Nat × D)} : F a = some (.ins (Δ.cls c) dx vs) → RepFs Δ F vs fs → Rep Δ F (.ref a) (.ins c fs)
  | fn (f : Nat) : Rep Δ F (.ref (Δ.fn f)) (.fn f)
  | kl {a : Addr} {vs : List V} {ds : List D} : SqL Δ.K F a vs → Reps Δ F vs ds → Rep Δ F (.ref a) (.kl ds)
inductive Reps (Δ : Nm) (F : Hp) : List V → List D → Prop
  | nil : Reps Δ F [] []
  | cons {v : V} {d : D} {vs : List V} {ds : List D} : Rep Δ F v d → Reps Δ F vs ds → Reps Δ F (v :: vs) (d :: ds)
inductive RepKs (Δ : Nm) (F : Hp) : List (Key × V) → List (D × D) → Prop
  | nil : RepKs Δ F [] []
  | cons {k : Key} {v : V} {d : D} {ks : List (Key × V)} {kvs : List (D × D)} : Rep Δ F v d → RepKs Δ F ks kvs → RepKs Δ F ((k, v) :: ks) ((keyD k, d) :: kvs)
inductive RepTs (Δ : Nm) (F : Hp) : List (List Key × V) → List (D × D) → Prop
  | nil : RepTs Δ F [] []
  | cons {k : List Key} {v : V} {d : D} {ks : List (List Key × V)} {kvs : List (D × D)} : Rep Δ F v d → RepTs Δ F ks kvs → RepTs Δ F ((k, v) :: ks) ((.tup (k.map keyD), d) :: kvs)
inductive RepFs (Δ : Nm) (F : Hp) : List (Str × V) → List (Nat × D) → Prop
  | nil : RepFs Δ F [] []
  | cons {f : Nat} {v : V} {d : D} {vs : List (Str × V)} {fs : List (Nat × D)} : Rep Δ F v d → RepFs Δ F vs fs → RepFs Δ F ((Δ.fld f, v) :: vs) ((f, d) :: fs)
end

/-- what stands still grows -/
def Ext (F F' : Hp) : Prop := ∀ a o, F a = some o → F' a = some o
theorem Ext.refl (F : Hp) : Ext F F := fun _ _ h => h
theorem Ext.trans {F G H : Hp} (a : Ext F G) (b : Ext G H) : Ext F H := fun x o h => b x o (a x o h)
theorem Ext.new {F : Hp} {p : Addr} {o : HO} (h : F p = none) : Ext F (upd F p o) := fun a u e => by
  rw [upd_ne (ne_of_none e h)]
  exact e
theorem Ext.rd {F F' : Hp} {a : Addr} {u : HO} (e : Ext F F') (h : Rd F a u) : Rd F' a u := by
  rcases h with h | ⟨o, h⟩
  · exact .inl (e a _ h)
  · exact .inr ⟨o, e a _ h⟩
theorem Ext.sqL {K : PySem.W.Frag} {F F' : Hp} {a : Addr} {xs : List V} (e : Ext F F') (h : SqL K F a xs) : SqL K F' a xs := by
  rcases h with h | h
  · exact .inl (e.rd h)
  · exact .inr h
theorem Ext.sqT {K : PySem.W.Frag} {F F' : Hp} {a : Addr} {xs : List V} (e : Ext F F') (h : SqT K F a xs) : SqT K F' a xs := by
  rcases h with h | h
  · exact .inl (e.rd h)
  · exact .inr h

mutual
theorem Rep.mono {Δ : Nm} {F F' : Hp} (e : Ext F F') : ∀ {v : V} {d : D}, Rep Δ F v d → Rep Δ F' v d
  | _, _, .non => .non
  | _, _, .bl b => .bl b
  | _, _, .int i => .int i
  | _, _, .str s => .str s
  | _, _, .tup h r => .tup (e _ _ h) (Reps.mono e r)
  | _, _, .lst h r => .lst (e.rd h) (Reps.mono e r)
  | _, _, .dk h r => .dk (e _ _ h) (RepKs.mono e r)
  | _, _, .dt h r => .dt (e _ _ h) (RepTs.mono e r)
  | _, _, .ins h r => .ins (e _ _ h) (RepFs.mono e r)
  | _, _, .fn f => .fn f
  | _, _, .kl h r => .kl (e.sqL h) (Reps.mono e r)
theorem Reps.mono {Δ : Nm} {F F' : Hp} (e : Ext F F') : ∀ {v : List V} {d : List D}, Reps Δ F v d → Reps Δ F' v d
  | _, _, .nil => .nil
  | _, _, .cons h r => .cons (Rep.mono e h) (Reps.mono e r)
theorem RepKs.mono {Δ : Nm} {F F' : Hp} (e : Ext F F') : ∀ {v : List (Key × V)} {d : List (D × D)}, RepKs Δ F v d → RepKs Δ F' v d
  | _, _, .nil => .nil
  | _, _, .cons h r => .cons (Rep.mono e h) (RepKs.mono e r)
theorem RepTs.mono {Δ : Nm} {F F' : Hp} (e : Ext F F') : ∀ {v : List (List Key × V)} {d : List (D × D)}, RepTs Δ F v d → RepTs Δ F' v d
  | _, _, .nil => .nil
  | _, _, .cons h r => .cons (Rep.mono e h) (RepTs.mono e r)
theorem RepFs.mono {Δ : Nm} {F F' : Hp} (e : Ext F F') : ∀ {v : List (Str × V)} {d : List (Nat × D)}, RepFs Δ F v d → RepFs Δ F' v d
  | _, _, .nil => .nil
  | _, _, .cons h r => .cons (Rep.mono e h) (RepFs.mono e r)
end
section
variable {Δ : Nm} {F : Hp}
theorem Reps.length : ∀ {vs : List V} {ds : List D}, Reps Δ F vs ds → vs.length = ds.length
  | _, _, .nil => rfl
  | _, _, .cons _ r => congrArg (· + 1) (Reps.length r)
theorem Reps.get : ∀ {vs : List V} {ds : List D}, Reps Δ F vs ds → ∀ {i : Nat} {d : D}, ds[i]? = some d → ∃ v, vs[i]? = some v ∧ Rep Δ F v d
  | _, _, .nil, _, _, h => by simp at h
  | _, _, .cons h r, 0, d, e => by simp at e; subst e; exact ⟨_, rfl, h⟩
  | _, _, .cons h r, i + 1, d, e => by
    obtain ⟨v, h1, h2⟩ := Reps.get r (i := i) (d := d) (by simpa using e)
    exact ⟨v, by simpa using h1, h2⟩
theorem Reps.getV : ∀ {vs : List V} {ds : List D}, Reps Δ F vs ds → ∀ {i : Nat} {v : V}, vs[i]? = some v → ∃ d, ds[i]? = some d ∧ Rep Δ F v d
  | _, _, .nil, _, _, h => by simp at h
  | _, _, .cons h r, 0, d, e => by simp at e; subst e; exact ⟨_, rfl, h⟩
  | _, _, .cons h r, i + 1, d, e => by
    obtain ⟨v, h1, h2⟩ := Reps.getV r (i := i) (v := d) (by simpa using e)
    exact ⟨v, by simpa using h1, h2⟩
theorem Reps.append : ∀ {vs ws : List V} {ds es : List D}, Reps Δ F vs ds → Reps Δ F ws es → Reps Δ F (vs ++ ws) (ds ++ es)
  | _, _, _, _, .nil, s => s
  | _, _, _, _, .cons h r, s => .cons h (Reps.append r s)
theorem Reps.take : ∀ {vs : List V} {ds : List D} (n : Nat), Reps Δ F vs ds → Reps Δ F (vs.take n) (ds.take n)
  | _, _, 0, _ => .nil
  | _, _, _ + 1, .nil => .nil
  | _, _, n + 1, .cons h r => .cons h (Reps.take n r)
theorem Reps.drop : ∀ {vs : List V} {ds : List D} (n : Nat), Reps Δ F vs ds → Reps Δ F (vs.drop n) (ds.drop n)
  | _, _, 0, r => r
  | _, _, _ + 1, .nil => .nil
  | _, _, n + 1, .cons _ r => Reps.drop n r
theorem Reps.set : ∀ {vs : List V} {ds : List D} {v : V} {d : D} (n : Nat), Reps Δ F vs ds → Rep Δ F v d → Reps Δ F (vs.set n v) (ds.set n d)
  | _, _, _, _, _, .nil, _ => .nil
  | _, _, _, _, 0, .cons _ r, h => .cons h r
  | _, _, _, _, n + 1, .cons h r, q => .cons h (Reps.set n r q)
theorem Reps.dropLast : ∀ {vs : List V} {ds : List D}, Reps Δ F vs ds → Reps Δ F vs.dropLast ds.dropLast := fun {vs ds} r => by
  have e := r.length
  rw [List.dropLast_eq_take, List.dropLast_eq_take, e]
  exact r.take _
theorem Reps.erase : ∀ {vs : List V} {ds : List D} (n : Nat), Reps Δ F vs ds → Reps Δ F (vs.eraseIdx n) (ds.eraseIdx n)
  | _, _, _, .nil => .nil
  | _, _, 0, .cons _ r => r
  | _, _, n + 1, .cons h r => .cons h (Reps.erase n r)
theorem Reps.reverse : ∀ {vs : List V} {ds : List D}, Reps Δ F vs ds → Reps Δ F vs.reverse ds.reverse
  | _, _, .nil => .nil
  | _, _, .cons h r => by
    rw [List.reverse_cons, List.reverse_cons]
    exact (Reps.reverse r).append (.cons h .nil)
theorem Reps.rep {vs : List V} {ds : List D} (r : Reps Δ F vs ds) : ∀ n : Nat, Reps Δ F (List.replicate n vs).flatten (List.replicate n ds).flatten
  | 0 => .nil
  | n + 1 => by
    rw [List.replicate_succ, List.replicate_succ, List.flatten_cons, List.flatten_cons]
    exact r.append (Reps.rep r n)
end

/-- a dict -/
def isDk : HO → Prop
  | .dK _ => True
  | .dT _ => True
  | _ => False
/-- what stands still stands in H (a dict perhaps locked, while it is walked) -/
def Sub (F H : Hp) : Prop := ∀ a o, F a = some o → H a = some o ∨ (isDk o ∧ ∃ ob, H a = some (.frz ob o))
theorem Sub.rdL {F H : Hp} {a : Addr} {xs : List V} (s : Sub F H) (h : Rd F a (.lst xs)) : Rd H a (.lst xs) := by
  rcases h with h | ⟨o, h⟩
  · rcases s a _ h with q | ⟨q, _⟩
    · exact .inl q
    · exact q.elim
  · rcases s a _ h with q | ⟨q, _⟩
    · exact .inr ⟨o, q⟩
    · exact q.elim
theorem Sub.rdT {F H : Hp} {a : Addr} {xs : List V} (s : Sub F H) (h : Rd F a (.tup xs)) : Rd H a (.tup xs) := by
  rcases h with h | ⟨o, h⟩
  · rcases s a _ h with q | ⟨q, _⟩
    · exact .inl q
    · exact q.elim
  · rcases s a _ h with q | ⟨q, _⟩
    · exact .inr ⟨o, q⟩
    · exact q.elim
theorem Sub.tup {F H : Hp} {a : Addr} {xs : List V} (s : Sub F H) (h : F a = some (.tup xs)) : H a = some (.tup xs) := by
  rcases s a _ h with q | ⟨q, _⟩
  · exact q
  · exact q.elim
theorem Sub.sqL {K : PySem.W.Frag} {F H : Hp} {a : Addr} {xs : List V} (s : Sub F H) (h : SqL K F a xs) : SqL K H a xs := by
  rcases h with h | h
  · exact .inl (s.rdL h)
  · exact .inr h
theorem Sub.sqT {K : PySem.W.Frag} {F H : Hp} {a : Addr} {xs : List V} (s : Sub F H) (h : SqT K F a xs) : SqT K H a xs := by
  rcases h with h | h
  · exact .inl (s.rdT h)
  · exact .inr h
theorem Sub.free {F H : Hp} {a : Addr} (s : Sub F H) (h : H a = none) : F a = none := by
  cases e : F a with
  | none => rfl
  | some o =>
    rcases s a o e with q | ⟨_, ob, q⟩
    · rw [h] at q; cases q
    · rw [h] at q; cases q
/-- a new thing that stands still from the start -/
theorem Sub.new {F H : Hp} {p : Addr} {o : HO} (s : Sub F H) (h : H p = none) : Sub (upd F p o) (upd H p o) := fun a u e => by
  by_cases hp : a = p
  · subst hp
    rw [upd_same] at e ⊢
    exact .inl e
  · rw [upd_ne hp] at e ⊢
    exact s a u e
/-- a thing that does not stand still is written -/
theorem Sub.write {F H : Hp} {p : Addr} {o : HO} (s : Sub F H) (h : F p = none) : Sub F (upd H p o) := fun a u e => by
  rw [upd_ne (ne_of_none e h)]
  exact s a u e
/-- a thing of one's own stands still from now on -/
theorem Sub.freeze {F H : Hp} {p : Addr} {o : HO} (s : Sub F H) (h : H p = some o) : Sub (upd F p o) H := fun a u e => by
  by_cases hp : a = p
  · subst hp
    rw [upd_same] at e
    cases e
    exact .inl h
  · rw [upd_ne hp] at e
    exact s a u e

/-! ### things of one's own -/
def C.isOwn : C → Prop
  | .val _ => False
  | _ => True
def OwnAt (Δ : Nm) (F H : Hp) (a : Addr) : C → Prop
  | .val _ => False
  | .ol ds => ∃ vs, H a = some (.lst vs) ∧ Reps Δ F vs ds
  | .od false kvs => ∃ ks, H a = some (.dK ks) ∧ RepKs Δ F ks kvs
  | .od true kvs => ∃ ks, H a = some (.dT ks) ∧ RepTs Δ F ks kvs
  | .oi c fs => ∃ dx vs, H a = some (.ins (Δ.cls c) dx vs) ∧ RepFs Δ F vs fs
theorem OwnAt.own {Δ : Nm} {F H : Hp} {a : Addr} {x : C} (h : OwnAt Δ F H a x) : x.isOwn := by
  cases x <;> first | exact h | trivial
theorem OwnAt.there {Δ : Nm} {F H : Hp} {a : Addr} {x : C} (h : OwnAt Δ F H a x) : ∃ o, H a = some o := by
  cases x with
  | val d => exact h.elim
  | ol ds => obtain ⟨vs, e, _⟩ := h; exact ⟨_, e⟩
  | od t kvs => cases t with
    | false => obtain ⟨ks, e, _⟩ := h; exact ⟨_, e⟩
    | true => obtain ⟨ks, e, _⟩ := h; exact ⟨_, e⟩
  | oi c fs => obtain ⟨dx, vs, e, _⟩ := h; exact ⟨_, e⟩
theorem OwnAt.mono {Δ : Nm} {F F' H H' : Hp} {a : Addr} {x : C} (h : OwnAt Δ F H a x) (e : Ext F F') (k : ∀ o, H a = some o → H' a = some o) : OwnAt Δ F' H' a x := by
  cases x with
  | val d => exact h.elim
  | ol ds => obtain ⟨vs, q, r⟩ := h; exact ⟨vs, k _ q, r.mono e⟩
  | od t kvs => cases t with
    | false => obtain ⟨ks, q, r⟩ := h; exact ⟨ks, k _ q, r.mono e⟩
    | true => obtain ⟨ks, q, r⟩ := h; exact ⟨ks, k _ q, r.mono e⟩
  | oi c fs => obtain ⟨dx, vs, q, r⟩ := h; exact ⟨dx, vs, k _ q, r.mono e⟩
/-- a thing of one's own stands still from now on: what it is -/
theorem OwnAt.freeze {Δ : Nm} {F H : Hp} {a : Addr} {x : C} {o : HO} (h : OwnAt Δ F H a x) (hF : F a = none) (ho : H a = some o) : Rep Δ (upd F a o) (.ref a) x.toD := by
  have e : Ext F (upd F a o) := Ext.new hF
  cases x with
  | val d => exact h.elim
  | ol ds =>
    obtain ⟨vs, q, r⟩ := h
    rw [ho] at q; cases q
    exact .lst (.inl upd_same) (r.mono e)
  | od t kvs => cases t with
    | false =>
      obtain ⟨ks, q, r⟩ := h
      rw [ho] at q; cases q
      exact .dk upd_same (r.mono e)
    | true =>
      obtain ⟨ks, q, r⟩ := h
      rw [ho] at q; cases q
      exact .dt upd_same (r.mono e)
  | oi c fs =>
    obtain ⟨dx, vs, q, r⟩ := h
    rw [ho] at q; cases q
    exact .ins upd_same (r.mono e)

/-- what a name holds -/
def SlotRel (Δ : Nm) (F H : Hp) (v : V) : C → Prop
  | .val d => Rep Δ F v d
  | x => ∃ a, v = .ref a ∧ F a = none ∧ OwnAt Δ F H a x
theorem SlotRel.own {Δ : Nm} {F H : Hp} {v : V} {x : C} (h : SlotRel Δ F H v x) (o : x.isOwn) : ∃ a, v = .ref a ∧ F a = none ∧ OwnAt Δ F H a x := by
  cases x <;> first | exact o.elim | exact h
theorem SlotRel.of_own {Δ : Nm} {F H : Hp} {a : Addr} {x : C} (hF : F a = none) (h : OwnAt Δ F H a x) : SlotRel Δ F H (.ref a) x := by
  cases x <;> first | exact h.elim | exact ⟨a, rfl, hF, h⟩

/-! ### the names' values -/
theorem get_lt : ∀ {τ : CL.St} {i : Nat} {x : C}, get τ i = some x → i < τ.length
  | [], _, _, h => by simp [get] at h
  | _ :: _, 0, _, _ => Nat.zero_lt_succ _
  | _ :: τ, i + 1, x, h => Nat.succ_lt_succ (get_lt (τ := τ) (i := i) (x := x) h)
theorem put_length : ∀ (τ : CL.St) (i : Nat) (x : Option C), (put τ i x).length = τ.length
  | [], _, _ => rfl
  | _ :: _, 0, _ => rfl
  | _ :: τ, i + 1, x => congrArg (· + 1) (put_length τ i x)
theorem get_put : ∀ {τ : CL.St} {i : Nat} {x : Option C}, i < τ.length → get (put τ i x) i = x
  | [], _, _, h => by simp at h
  | _ :: _, 0, _, _ => rfl
  | _ :: τ, i + 1, x, h => get_put (τ := τ) (i := i) (x := x) (Nat.lt_of_succ_lt_succ h)
theorem get_put_ne : ∀ {τ : CL.St} {i j : Nat} {x : Option C}, j ≠ i → get (put τ i x) j = get τ j
  | [], _, _, _, _ => rfl
  | _ :: _, 0, 0, _, h => absurd rfl h
  | _ :: _, 0, _ + 1, _, _ => rfl
  | _ :: _, _ + 1, 0, _, _ => rfl
  | _ :: τ, i + 1, j + 1, x, h => get_put_ne (τ := τ) (i := i) (j := j) (x := x) fun e => h (congrArg (· + 1) e)
theorem get_ge : ∀ {τ : CL.St} {i : Nat}, τ.length ≤ i → get τ i = none
  | [], _, _ => rfl
  | _ :: _, 0, h => absurd h (by simp)
  | _ :: τ, i + 1, h => get_ge (τ := τ) (i := i) (Nat.le_of_succ_le_succ h)
theorem get_put_eq {τ : CL.St} {i j : Nat} {x : Option C} {y : C} (h : get (put τ i x) j = some y) : (j = i ∧ x = some y) ∨ (j ≠ i ∧ get τ j = some y) := by
  by_cases e : j = i
  · subst e
    have hl := get_lt h
    rw [put_length] at hl
    rw [get_put hl] at h
    exact .inl ⟨rfl, h⟩
  · rw [get_put_ne e] at h
    exact .inr ⟨e, h⟩

structure Ag (Δ : Nm) (τ : CL.St) (σ : L2.St) (H F : Hp) : Prop where
  sub : Sub F H
  len : τ.length = σ.length
  at_ : ∀ i x, get τ i = some x → ∃ v, σ[i]? = some (some v) ∧ SlotRel Δ F H v x
  apart : ∀ i j x y a, get τ i = some x → get τ j = some y → x.isOwn → y.isOwn → σ[i]? = some (some (.ref a)) → σ[j]? = some (some (.ref a)) → i = j

/-- an address that a name owns -/
def Wr (τ : CL.St) (σ : L2.St) (a : Addr) : Prop := ∃ i x, get τ i = some x ∧ x.isOwn ∧ σ[i]? = some (some (.ref a))
theorem Ag.wr {Δ : Nm} {τ : CL.St} {σ : L2.St} {H F : Hp} {a : Addr} (g : Ag Δ τ σ H F) (h : Wr τ σ a) : F a = none ∧ ∃ o, H a = some o := by
  obtain ⟨i, x, e, o, q⟩ := h
  obtain ⟨v, q', r⟩ := g.at_ i x e
  rw [q] at q'; cases q'
  obtain ⟨b, e1, e2, e3⟩ := r.own o
  cases e1
  exact ⟨e2, e3.there⟩

/-- nothing stands at a, or a tuple -/
def Nw (H : Hp) (a : Addr) : Prop := ∀ o, H a = some o → ∃ xs, o = .tup xs
theorem Nw.of {H : Hp} {a : Addr} (h : H a = none) : Nw H a := fun o e => by rw [h] at e; cases e
theorem OwnAt.nw {Δ : Nm} {F H : Hp} {a : Addr} {x : C} (h : OwnAt Δ F H a x) (w : Nw H a) : False := by
  cases x with
  | val d => exact h
  | ol ds => obtain ⟨vs, e, _⟩ := h; obtain ⟨_, z⟩ := w _ e; cases z
  | od t kvs => cases t with
    | false => obtain ⟨ks, e, _⟩ := h; obtain ⟨_, z⟩ := w _ e; cases z
    | true => obtain ⟨ks, e, _⟩ := h; obtain ⟨_, z⟩ := w _ e; cases z
  | oi c fs => obtain ⟨dx, vs, e, _⟩ := h; obtain ⟨_, z⟩ := w _ e; cases z

structure Post (Δ : Nm) (τ τ' : CL.St) (σ : L2.St) (H F H' F' : Hp) : Prop where
  ag : Ag Δ τ' σ H' F'
  ext : Ext F F'
  keep : ∀ a o, H a = some o → ¬ Wr τ σ a → H' a = some o
  froz : ∀ a o, F' a = some o → F a = none → Wr τ σ a ∨ Nw H a
  mon : ∀ i x, get τ' i = some x → x.isOwn → ∃ y, get τ i = some y ∧ y.isOwn
  dom : ∀ a o, H a = some o → ∃ u, H' a = some u
theorem Post.refl {Δ : Nm} {τ : CL.St} {σ : L2.St} {H F : Hp} (g : Ag Δ τ σ H F) : Post Δ τ τ σ H F H F :=
  ⟨g, Ext.refl F, fun _ _ h _ => h, fun a o h n => (by rw [n] at h; cases h), fun _ x h o => ⟨x, h, o⟩, fun _ o h => ⟨o, h⟩⟩
section
variable {Δ : Nm} {τ τ1 τ2 : CL.St} {σ : L2.St} {H F H1 F1 H2 F2 : Hp}
theorem Post.wr (p : Post Δ τ τ1 σ H F H1 F1) {a : Addr} (h : Wr τ1 σ a) : Wr τ σ a := by
  obtain ⟨i, x, e, o, q⟩ := h
  obtain ⟨y, e', o'⟩ := p.mon i x e o
  exact ⟨i, y, e', o', q⟩
theorem Post.trans (p : Post Δ τ τ1 σ H F H1 F1) (q : Post Δ τ1 τ2 σ H1 F1 H2 F2) : Post Δ τ τ2 σ H F H2 F2 := by
  refine ⟨q.ag, p.ext.trans q.ext, fun a o h n => q.keep a o (p.keep a o h n) fun w => n (p.wr w), fun a o h n => ?_, fun i x e o => ?_, fun a o h => ?_⟩
  · cases e : F1 a with
    | some u => exact p.froz a u e n
    | none =>
      rcases q.froz a o h e with w | w
      · exact .inl (p.wr w)
      · by_cases hw : Wr τ σ a
        · exact .inl hw
        · exact .inr fun o h => w o (p.keep a o h hw)
  · obtain ⟨y, e', o'⟩ := q.mon i x e o
    exact p.mon i y e' o'
  · obtain ⟨u, h1⟩ := p.dom a o h
    exact q.dom a u h1
theorem Post.gone (p : Post Δ τ τ1 σ H F H1 F1) {a : Addr} (h : H1 a = .none) : H a = .none := by
  cases e : H a with
  | none => rfl
  | some o =>
    obtain ⟨u, q⟩ := p.dom a o e
    rw [h] at q; cases q
end

/-- what an operand is; H₀: the heap ahead -/
def OpRel (Δ : Nm) (τ : CL.St) (σ : L2.St) (H₀ H F : Hp) (v : V) : Opd → Prop
  | .loc i => σ[i]? = some (some v)
  | .c (.val d) => Rep Δ F v d
  | .c x => ∃ a, v = .ref a ∧ H₀ a = none ∧ F a = none ∧ OwnAt Δ F H a x
theorem OpRel.own {Δ : Nm} {τ : CL.St} {σ : L2.St} {H₀ H F : Hp} {v : V} {x : C} (h : OpRel Δ τ σ H₀ H F v (.c x)) (o : x.isOwn) : ∃ a, v = .ref a ∧ H₀ a = none ∧ F a = none ∧ OwnAt Δ F H a x := by
  cases x <;> first | exact o.elim | exact h
theorem OpRel.of_own {Δ : Nm} {τ : CL.St} {σ : L2.St} {H₀ H F : Hp} {a : Addr} {x : C} (h0 : H₀ a = none) (hF : F a = none) (h : OwnAt Δ F H a x) : OpRel Δ τ σ H₀ H F (.ref a) (.c x) := by
  cases x <;> first | exact h.elim | exact ⟨a, rfl, h0, hF, h⟩
end CL

set_option autoImplicit false
set_option linter.all false
set_option Elab.async false
set_option maxRecDepth 100000
set_option maxHeartbeats 1000000
/-! CLSnd: the evaluator tells what the program's expressions do. -/
namespace CL
open PySem PySem.Spec PyProof.Rows L2

/-! ### views -/
def View (Δ : Nm) (F H : Hp) (v : V) (d : D) : Prop := Rep Δ F v d ∨ ∃ a x, v = .ref a ∧ x.toD = d ∧ F a = none ∧ OwnAt Δ F H a x
section
variable {Δ : Nm} {F H : Hp} {v : V}
theorem View.int {i : Int} (h : View Δ F H v (.int i)) : v = .int i := by
  rcases h with h | ⟨a, x, rfl, e, _, o⟩
  · cases h; rfl
  · cases x <;> first | exact o.elim | cases e
theorem View.bl {b : Bool} (h : View Δ F H v (.bl b)) : v = .bl b := by
  rcases h with h | ⟨a, x, rfl, e, _, o⟩
  · cases h; rfl
  · cases x <;> first | exact o.elim | cases e
theorem View.str {s : Str} (h : View Δ F H v (.str s)) : v = .str s := by
  rcases h with h | ⟨a, x, rfl, e, _, o⟩
  · cases h; rfl
  · cases x <;> first | exact o.elim | cases e
theorem View.non (h : View Δ F H v .non) : v = .non := by
  rcases h with h | ⟨a, x, rfl, e, _, o⟩
  · cases h; rfl
  · cases x <;> first | exact o.elim | cases e
theorem View.tupH {ds : List D} (s : Sub F H) (h : View Δ F H v (.tup ds)) : ∃ a vs, v = .ref a ∧ H a = some (.tup vs) ∧ Reps Δ F vs ds := by
  rcases h with h | ⟨a, x, rfl, e, _, o⟩
  · cases h with
    | tup q r => exact ⟨_, _, rfl, s.tup q, r⟩
  · cases x <;> first | exact o.elim | cases e
theorem View.tup {ds : List D} (s : Sub F H) (h : View Δ F H v (.tup ds)) : ∃ a vs, v = .ref a ∧ SqT Δ.K H a vs ∧ Reps Δ F vs ds ∧ Rep Δ F v (.tup ds) := by
  rcases h with h | ⟨a, x, rfl, e, _, o⟩
  · cases h with
    | tup q r => exact ⟨_, _, rfl, .inl (.inl (s.tup q)), r, .tup q r⟩
  · cases x <;> first | exact o.elim | cases e
theorem View.lst {ds : List D} (s : Sub F H) (h : View Δ F H v (.lst ds)) : ∃ a vs, v = .ref a ∧ Rd H a (.lst vs) ∧ Reps Δ F vs ds := by
  rcases h with h | ⟨a, x, rfl, e, _, o⟩
  · cases h with
    | lst q r => exact ⟨_, _, rfl, s.rdL q, r⟩
  · cases x with
    | val d => exact o.elim
    | ol es =>
      obtain ⟨vs, q, r⟩ := o
      cases e
      exact ⟨a, vs, rfl, .inl q, r⟩
    | od t k => cases e
    | oi c fs => cases e
theorem View.kl {ds : List D} (s : Sub F H) (h : View Δ F H v (.kl ds)) : ∃ a vs, v = .ref a ∧ SqL Δ.K H a vs ∧ Reps Δ F vs ds := by
  rcases h with h | ⟨a, x, rfl, e, _, o⟩
  · cases h with
    | kl q r => exact ⟨_, _, rfl, s.sqL q, r⟩
  · cases x <;> first | exact o.elim | cases e
theorem Sub.rdK {F H : Hp} {a : Addr} {ks : List (Key × V)} (s : Sub F H) (h : F a = some (.dK ks)) : Rd H a (.dK ks) := by
  rcases s a _ h with q | ⟨_, ob, q⟩
  · exact .inl q
  · exact .inr ⟨ob, q⟩
theorem Sub.rdTk {F H : Hp} {a : Addr} {ks : List (List Key × V)} (s : Sub F H) (h : F a = some (.dT ks)) : Rd H a (.dT ks) := by
  rcases s a _ h with q | ⟨_, ob, q⟩
  · exact .inl q
  · exact .inr ⟨ob, q⟩
theorem View.dk {kvs : List (D × D)} (s : Sub F H) (h : View Δ F H v (.dct false kvs)) : ∃ a ks, v = .ref a ∧ Rd H a (.dK ks) ∧ RepKs Δ F ks kvs := by
  rcases h with h | ⟨a, x, rfl, e, _, o⟩
  · cases h with
    | dk q r => exact ⟨_, _, rfl, s.rdK q, r⟩
  · cases x with
    | val d => exact o.elim
    | ol es => cases e
    | od t k =>
      cases e
      obtain ⟨ks, q, r⟩ := o
      exact ⟨a, ks, rfl, .inl q, r⟩
    | oi c fs => cases e
theorem View.dt {kvs : List (D × D)} (s : Sub F H) (h : View Δ F H v (.dct true kvs)) : ∃ a ks, v = .ref a ∧ Rd H a (.dT ks) ∧ RepTs Δ F ks kvs := by
  rcases h with h | ⟨a, x, rfl, e, _, o⟩
  · cases h with
    | dt q r => exact ⟨_, _, rfl, s.rdTk q, r⟩
  · cases x with
    | val d => exact o.elim
    | ol es => cases e
    | od t k =>
      cases e
      obtain ⟨ks, q, r⟩ := o
      exact ⟨a, ks, rfl, .inl q, r⟩
    | oi c fs => cases e
theorem View.dct {t : Bool} {kvs : List (D × D)} (s : Sub F H) (h : View Δ F H v (.dct t kvs)) : ∃ a, v = .ref a ∧ ((∃ ks, Rd H a (.dK ks) ∧ RepKs Δ F ks kvs) ∨ ∃ ks, Rd H a (.dT ks) ∧ RepTs Δ F ks kvs) := by
  cases t with
  | false => obtain ⟨a, ks, e, r, q⟩ := h.dk s; exact ⟨a, e, .inl ⟨ks, r, q⟩⟩
  | true => obtain ⟨a, ks, e, r, q⟩ := h.dt s; exact ⟨a, e, .inr ⟨ks, r, q⟩⟩
theorem View.ins {c : Nat} {fs : List (Nat × D)} (s : Sub F H) (h : View Δ F H v (.ins c fs)) : ∃ a dx vs, v = .ref a ∧ H a = some (.ins (Δ.cls c) dx vs) ∧ RepFs Δ F vs fs := by
  rcases h with h | ⟨a, x, rfl, e, _, o⟩
  · cases h with
    | ins q r =>
      rcases s _ _ q with z | ⟨z, _⟩
      · exact ⟨_, _, _, rfl, z, r⟩
      · exact z.elim
  · cases x with
    | val d => exact o.elim
    | ol es => cases e
    | od t k => cases e
    | oi c' fs' =>
      cases e
      obtain ⟨dx, vs, q, r⟩ := o
      exact ⟨a, dx, vs, rfl, q, r⟩
end
section
variable {Δ : Nm} {τ τ0 τ1 : CL.St} {σ : L2.St} {H₀ H F H1 F1 F₀ : Hp} {v : V} {o : Opd} {d : D}
theorem OpRel.view (g : Ag Δ τ σ H F) (h : OpRel Δ τ σ H₀ H F v o) (e : vw o τ = some d) : View Δ F H v d := by
  cases o with
  | c x =>
    have e' : x.toD = d := Option.some.inj e
    cases x with
    | val d' => cases e'; exact .inl h
    | ol ds => obtain ⟨a, rfl, _, hF, o⟩ := h; exact .inr ⟨a, _, rfl, e', hF, o⟩
    | od t ds => obtain ⟨a, rfl, _, hF, o⟩ := h; exact .inr ⟨a, _, rfl, e', hF, o⟩
    | oi c ds => obtain ⟨a, rfl, _, hF, o⟩ := h; exact .inr ⟨a, _, rfl, e', hF, o⟩
  | loc i =>
    cases q : get τ i with
    | none => rw [vw, q] at e; cases e
    | some x =>
      rw [vw, q] at e
      have e' : x.toD = d := Option.some.inj e
      obtain ⟨u, hu, r⟩ := g.at_ i x q
      rw [show σ[i]? = some (some v) from h] at hu
      cases hu
      cases x with
      | val d' => cases e'; exact .inl r
      | ol ds => obtain ⟨a, rfl, hF, o⟩ := r; exact .inr ⟨a, _, rfl, e', hF, o⟩
      | od t ds => obtain ⟨a, rfl, hF, o⟩ := r; exact .inr ⟨a, _, rfl, e', hF, o⟩
      | oi c ds => obtain ⟨a, rfl, hF, o⟩ := r; exact .inr ⟨a, _, rfl, e', hF, o⟩
/-- an operand through what is evaluated behind it -/
theorem OpRel.step (g0 : Ag Δ τ0 σ H₀ F₀) (p0 : Post Δ τ0 τ σ H₀ F₀ H F) (p : Post Δ τ τ1 σ H F H1 F1) (h : OpRel Δ τ σ H₀ H F v o) : OpRel Δ τ1 σ H₀ H1 F1 v o := by
  cases o with
  | loc i => exact h
  | c x =>
    by_cases hx : x.isOwn
    · obtain ⟨a, rfl, h0, hF, o⟩ := h.own hx
      have nw : ¬ Wr τ σ a := fun w => by
        obtain ⟨_, u, e⟩ := g0.wr (p0.wr w)
        rw [h0] at e; cases e
      refine .of_own h0 ?_ (o.mono p.ext fun u e => p.keep a u e nw)
      cases e : F1 a with
      | none => rfl
      | some u =>
        rcases p.froz a u e hF with w | w
        · exact absurd w nw
        · exact (o.nw w).elim
    · cases x <;> first | exact absurd trivial hx | exact Rep.mono p.ext h
end

/-! ### readings that are the thing itself -/
def wpE (X : Cx) (e : Expr) : TE := fun σ H Q => ∀ (pins : List (Addr × Obj)) (s : Shared), Inv X pins σ H s → wpAny (model X.prog X.w) X.A (eval e X.env) (EP X pins σ Q) X.xe s
def wpT (X : Cx) (e : Expr) : TT := fun σ H Q => ∀ (pins : List (Addr × Obj)) (s : Shared), Inv X pins σ H s → wpAny (model X.prog X.w) X.A (isTrue e X.env (eval e X.env)) (TP X pins σ Q) X.xe s
def wpA (X : Cx) (es : List Expr) : TA := fun σ H Q => ∀ (pos : Pos) (pins : List (Addr × Obj)) (s : Shared), Inv X pins σ H s → wpAny (model X.prog X.w) X.A (spliced (backTo pos (starEach es X.env))) (AP X pins σ Q) X.xe s
def wpS (X : Cx) (st : Stmt) : TS := fun D σ H => ∀ (pins : List (Addr × Obj)) (s : Shared), Inv X pins σ H s → wpAny (model X.prog X.w) X.A (exec st X.env) (SP X pins D) X.xe s
def wpSs (X : Cx) (st : List Stmt) : TS := fun D σ H => ∀ (pins : List (Addr × Obj)) (s : Shared), Inv X pins σ H s → wpAny (model X.prog X.w) X.A (execs st X.env) (SP X pins D) X.xe s
section
variable {X : Cx}
theorem pe0 (e : Expr) : PE X e (wpE X e) := ⟨fun pins s σ H Q I h => h pins s I⟩
theorem pt0 (e : Expr) : PT X e (wpT X e) := ⟨fun pins s σ H Q I h => h pins s I⟩
theorem pa0 (es : List Expr) : PA X es (wpA X es) := ⟨fun pos pins s σ H Q I h => h pos pins s I⟩
theorem ps0 (st : Stmt) : PS X st (wpS X st) := ⟨fun pins s σ H D I h => h pins s I⟩
theorem pss0 (st : List Stmt) : PSs X st (wpSs X st) := ⟨fun pins s σ H D I h => h pins s I⟩
theorem wpE_of {e : Expr} {t : TE} (h : PE X e t) {σ : L2.St} {H : Hp} {Q : VK} (q : t σ H Q) : wpE X e σ H Q := fun pins s I => h.run pins s σ H Q I q
theorem wpT_of {e : Expr} {t : TT} (h : PT X e t) {σ : L2.St} {H : Hp} {Q : Bool → Hp → Prop} (q : t σ H Q) : wpT X e σ H Q := fun pins s I => h.run pins s σ H Q I q
theorem wpA_of {es : List Expr} {t : TA} (h : PA X es t) {σ : L2.St} {H : Hp} {Q : List V → Hp → Prop} (q : t σ H Q) : wpA X es σ H Q := fun pos pins s I => h.run pos pins s σ H Q I q
theorem wpS_of {st : Stmt} {t : TS} (h : PS X st t) {σ : L2.St} {H : Hp} {D : Ends} (q : t D σ H) : wpS X st D σ H := fun pins s I => h.run pins s σ H D I q
theorem wpSs_of {st : List Stmt} {t : TS} (h : PSs X st t) {σ : L2.St} {H : Hp} {D : Ends} (q : t D σ H) : wpSs X st D σ H := fun pins s I => h.run pins s σ H D I q
theorem wpE.imp {e : Expr} {σ : L2.St} {H : Hp} {Q Q' : VK} (h : wpE X e σ H Q) (f : ∀ v H', Q v H' → Q' v H') : wpE X e σ H Q' := fun pins s I =>
  thn (h pins s I) fun u s' ⟨v, H', I', r, q⟩ => ⟨v, H', I', r, f v H' q⟩
end

/-! ### what is told -/
/-- an exception leaves (none, as things stand) -/
def Xc (X : Cx) (Δ : Nm) (τ τ' : CL.St) (σ : L2.St) (H F : Hp) (x : D) : Prop := False
/-- what is wanted behind a step: G of its answer -/
abbrev Tg (α : Type) := CL.St → L2.St → Hp → Hp → α → CL.St → Prop
def PostG {α : Type} (X : Cx) (Δ : Nm) (G : Tg α) (τ : CL.St) (σ : L2.St) (H F : Hp) : Res α → Prop
  | .ok a τ' => G τ σ H F a τ'
  | .exc x τ' => Xc X Δ τ τ' σ H F x
  | .no => False
structure Shift {α : Type} (Δ : Nm) (G : Tg α) : Prop where
  go : ∀ {τ τ1 τ' : CL.St} {σ : L2.St} {H F H1 F1 : Hp} {a : α}, Post Δ τ τ1 σ H F H1 F1 → G τ σ H F a τ' → G τ1 σ H1 F1 a τ'
theorem PostG.shift {α : Type} {X : Cx} {Δ : Nm} {G : Tg α} (sg : Shift Δ G) {τ τ1 : CL.St} {σ : L2.St} {H F H1 F1 : Hp} {r : Res α} (p : Post Δ τ τ1 σ H F H1 F1) (h : PostG X Δ G τ σ H F r) : PostG X Δ G τ1 σ H1 F1 r := by
  cases r with
  | ok a τ' => exact sg.go p h
  | exc x τ' => exact h
  | no => exact h

theorem OpRel.older {Δ : Nm} {τ τ0 τ' : CL.St} {σ : L2.St} {H₀ H₁ H F F₀ F₁ : Hp} {v : V} {o : Opd} (p : Post Δ τ0 τ' σ H₀ F₀ H₁ F₁) (h : OpRel Δ τ σ H₁ H F v o) : OpRel Δ τ σ H₀ H F v o := by
  cases o with
  | loc i => exact h
  | c x =>
    by_cases hx : x.isOwn
    · obtain ⟨a, rfl, h0, hF, o⟩ := h.own hx
      exact .of_own (p.gone h0) hF o
    · cases x <;> first | exact absurd trivial hx | exact h
/-- operands; those of one's own lie apart -/
def owns : List V → List Opd → List V
  | v :: vs, .c (.val _) :: os => owns vs os
  | v :: vs, .c _ :: os => v :: owns vs os
  | _ :: vs, .loc _ :: os => owns vs os
  | _, _ => []
structure OpRels (Δ : Nm) (τ : CL.St) (σ : L2.St) (H₀ H F : Hp) (vs : List V) (os : List Opd) : Prop where
  all : Paired (OpRel Δ τ σ H₀ H F) vs os
  apart : (owns vs os).Nodup
theorem OpRels.nil {Δ : Nm} {τ : CL.St} {σ : L2.St} {H₀ H F : Hp} : OpRels Δ τ σ H₀ H F [] [] := ⟨.nil, List.nodup_nil⟩
theorem OpRels.step {Δ : Nm} {τ τ0 τ1 : CL.St} {σ : L2.St} {H₀ H F H1 F1 F₀ : Hp} (g0 : Ag Δ τ0 σ H₀ F₀) (p0 : Post Δ τ0 τ σ H₀ F₀ H F) (p : Post Δ τ τ1 σ H F H1 F1) {vs : List V} {os : List Opd} (h : OpRels Δ τ σ H₀ H F vs os) : OpRels Δ τ1 σ H₀ H1 F1 vs os :=
  ⟨Paired.mapP h.all fun _ _ r => r.step g0 p0 p, h.apart⟩
theorem OpRels.older {Δ : Nm} {τ τ0 τ' : CL.St} {σ : L2.St} {H₀ H₁ H F F₀ F₁ : Hp} {vs : List V} {os : List Opd} (p : Post Δ τ0 τ' σ H₀ F₀ H₁ F₁) (h : OpRels Δ τ σ H₁ H F vs os) : OpRels Δ τ σ H₀ H F vs os :=
  ⟨Paired.mapP h.all fun _ _ r => r.older p, h.apart⟩
theorem owns_fresh {Δ : Nm} {τ : CL.St} {σ : L2.St} {H₀ H F : Hp} : ∀ {vs : List V} {os : List Opd}, Paired (OpRel Δ τ σ H₀ H F) vs os → ∀ v ∈ owns vs os, ∃ a, v = .ref a ∧ H₀ a = none ∧ F a = none
  | _, _, .nil, v, h => by cases h
  | v :: vs, .loc i :: os, .cons r t, w, h => owns_fresh t w h
  | v :: vs, .c (.val d) :: os, .cons r t, w, h => owns_fresh t w h
  | v :: vs, .c (.ol d) :: os, .cons r t, w, h => by
    rcases List.mem_cons.mp h with rfl | h
    · obtain ⟨a, e, h0, hF, _⟩ := r; exact ⟨a, e, h0, hF⟩
    · exact owns_fresh t w h
  | v :: vs, .c (.od _ d) :: os, .cons r t, w, h => by
    rcases List.mem_cons.mp h with rfl | h
    · obtain ⟨a, e, h0, hF, _⟩ := r; exact ⟨a, e, h0, hF⟩
    · exact owns_fresh t w h
  | v :: vs, .c (.oi c d) :: os, .cons r t, w, h => by
    rcases List.mem_cons.mp h with rfl | h
    · obtain ⟨a, e, h0, hF, _⟩ := r; exact ⟨a, e, h0, hF⟩
    · exact owns_fresh t w h
/-- one more operand ahead, made ahead of the others -/
theorem OpRels.cons {Δ : Nm} {τ : CL.St} {σ : L2.St} {H₀ H₁ H F F₀ F₁ : Hp} {τ0 τ1 : CL.St} {v : V} {o : Opd} {vs : List V} {os : List Opd} (p : Post Δ τ0 τ1 σ H₀ F₀ H₁ F₁) (g : OpRel Δ τ1 σ H₀ H₁ F₁ v o) (h : OpRel Δ τ σ H₀ H F v o) (t : OpRels Δ τ σ H₁ H F vs os) : OpRels Δ τ σ H₀ H F (v :: vs) (o :: os) := by
  refine ⟨.cons h (t.older p).all, ?_⟩
  have key : ∀ x : C, o = .c x → x.isOwn → (v :: owns vs os).Nodup := fun x e hx => by
    subst e
    refine List.nodup_cons.mpr ⟨fun m => ?_, t.apart⟩
    obtain ⟨a, e, h1, _⟩ := owns_fresh t.all v m
    obtain ⟨b, e2, _, _, oa⟩ := g.own hx
    rw [e] at e2
    cases e2
    obtain ⟨u, hu⟩ := oa.there
    rw [h1] at hu
    cases hu
  cases o with
  | loc i => exact t.apart
  | c x => cases x with
    | val d => exact t.apart
    | ol d => exact key _ rfl trivial
    | od t d => exact key _ rfl trivial
    | oi c d => exact key _ rfl trivial

def GE (Δ : Nm) (Q : VK) : Tg Opd := fun τ σ H F o τ' => ∀ v H' F', Post Δ τ τ' σ H F H' F' → OpRel Δ τ' σ H H' F' v o → Q v H'
def GA (Δ : Nm) (Q : List V → Hp → Prop) : Tg (List Opd) := fun τ σ H F os τ' => ∀ vs H' F', Post Δ τ τ' σ H F H' F' → OpRels Δ τ' σ H H' F' vs os → Q vs H'
/-- a value that is known without the heap -/
def GB {α : Type} (Δ : Nm) (Q : α → Hp → Prop) : Tg α := fun τ σ H F b τ' => ∀ H' F', Post Δ τ τ' σ H F H' F' → Q b H'
theorem GE.shift {Δ : Nm} {Q : VK} : Shift Δ (GE Δ Q) := ⟨fun p h v H' F' q r => h v H' F' (p.trans q) (r.older p)⟩
theorem GA.shift {Δ : Nm} {Q : List V → Hp → Prop} : Shift Δ (GA Δ Q) := ⟨fun p h v H' F' q r => h v H' F' (p.trans q) (r.older p)⟩
theorem GB.shift {α : Type} {Δ : Nm} {Q : α → Hp → Prop} : Shift Δ (GB Δ Q) := ⟨fun p h H' F' q => h H' F' (p.trans q)⟩

def SndE (X : Cx) (Δ : Nm) (Γ : Ctx) (e : Expr) (ê : E) : Prop := ∀ ⦃τ σ H F⦄, Ag Δ τ σ H F → ∀ ⦃Q⦄, PostG X Δ (GE Δ Q) τ σ H F (ev Γ ê τ) → wpE X e σ H Q
def SndT (X : Cx) (Δ : Nm) (Γ : Ctx) (e : Expr) (ê : E) : Prop := ∀ ⦃τ σ H F⦄, Ag Δ τ σ H F → ∀ ⦃Q⦄, PostG X Δ (GB Δ Q) τ σ H F (evc Γ (some ê) τ) → wpT X e σ H Q
def SndA (X : Cx) (Δ : Nm) (Γ : Ctx) (es : List Expr) (ês : List E) : Prop := ∀ ⦃τ σ H F⦄, Ag Δ τ σ H F → ∀ ⦃Q⦄, PostG X Δ (GA Δ Q) τ σ H F (evs Γ ês τ) → wpA X es σ H Q
section
variable {X : Cx} {Δ : Nm} {Γ : Ctx} {α : Type} {G : Tg α} {τ : CL.St} {σ : L2.St} {H F : Hp}
theorem SndE.bind {e : Expr} {ê : E} (h : SndE X Δ Γ e ê) (sg : Shift Δ G) (g : Ag Δ τ σ H F) {f : Opd → CL.St → Res α} (hQ : PostG X Δ G τ σ H F ((ev Γ ê τ).bind f)) {K : VK}
    (k : ∀ o τ1 v H1 F1, Post Δ τ τ1 σ H F H1 F1 → OpRel Δ τ1 σ H H1 F1 v o → PostG X Δ G τ1 σ H1 F1 (f o τ1) → K v H1) : wpE X e σ H K := by
  refine h g ?_
  revert hQ
  cases ev Γ ê τ with
  | ok o τ1 => exact fun hQ v H' F' p r => k o τ1 v H' F' p r (PostG.shift sg p hQ)
  | exc x τ1 => exact fun hQ => hQ
  | no => exact fun hQ => hQ
theorem SndT.bind {e : Expr} {ê : E} (h : SndT X Δ Γ e ê) (sg : Shift Δ G) (g : Ag Δ τ σ H F) {f : Bool → CL.St → Res α} (hQ : PostG X Δ G τ σ H F ((evc Γ (some ê) τ).bind f)) {K : Bool → Hp → Prop}
    (k : ∀ o τ1 H1 F1, Post Δ τ τ1 σ H F H1 F1 → PostG X Δ G τ1 σ H1 F1 (f o τ1) → K o H1) : wpT X e σ H K := by
  refine h g ?_
  revert hQ
  cases evc Γ (some ê) τ with
  | ok o τ1 => exact fun hQ H' F' p => k o τ1 H' F' p (PostG.shift sg p hQ)
  | exc x τ1 => exact fun hQ => hQ
  | no => exact fun hQ => hQ
theorem SndA.bind {es : List Expr} {ês : List E} (h : SndA X Δ Γ es ês) (sg : Shift Δ G) (g : Ag Δ τ σ H F) {f : List Opd → CL.St → Res α} (hQ : PostG X Δ G τ σ H F ((evs Γ ês τ).bind f)) {K : List V → Hp → Prop}
    (k : ∀ o τ1 v H1 F1, Post Δ τ τ1 σ H F H1 F1 → OpRels Δ τ1 σ H H1 F1 v o → PostG X Δ G τ1 σ H1 F1 (f o τ1) → K v H1) : wpA X es σ H K := by
  refine h g ?_
  revert hQ
  cases evs Γ ês τ with
  | ok o τ1 => exact fun hQ v H' F' p r => k o τ1 v H' F' p r (PostG.shift sg p hQ)
  | exc x τ1 => exact fun hQ => hQ
  | no => exact fun hQ => hQ
end
end CL

set_option autoImplicit false
set_option linter.all false
set_option Elab.async false
set_option maxRecDepth 100000
set_option maxHeartbeats 1000000
/-! CLOps: operators, comparisons. -/
namespace CL
open PySem PySem.Spec PyProof.Rows L2

/-- what an operation has made -/
inductive Made (Δ : Nm) : Hp → Hp → C → V → Hp → Hp → Prop
  | old {F H : Hp} {d : D} {v : V} : Rep Δ F v d → Made Δ F H (.val d) v H F
  | froz {F H : Hp} {d : D} {p : Addr} {o : HO} : H p = none → Rep Δ (upd F p o) (.ref p) d → Made Δ F H (.val d) (.ref p) (upd H p o) (upd F p o)
  | own {F H : Hp} {x : C} {p : Addr} {o : HO} : H p = none → OwnAt Δ F (upd H p o) p x → Made Δ F H x (.ref p) (upd H p o) F
  | ftup {F H : Hp} {p : Addr} {vs : List V} {ds : List D} : H p = some (.tup vs) → F p = none → Reps Δ F vs ds → Made Δ F H (.val (.tup ds)) (.ref p) H (upd F p (.tup vs))
  | also {F H F' H' : Hp} {x : C} {v : V} {q : Addr} {vs : List V} : H q = some (.tup vs) → F q = none → Made Δ (upd F q (.tup vs)) H x v H' F' → Made Δ F H x v H' F'
section
variable {Δ : Nm} {F H F' H' : Hp} {τ τ1 : CL.St} {σ : L2.St} {H₀ F₀ : Hp} {x : C} {v : V}
theorem Ag.laid {p : Addr} {o : HO} (g : Ag Δ τ σ H F) (hp : H p = none) : Ag Δ τ σ (upd H p o) F := by
  refine ⟨g.sub.write (g.sub.free hp), g.len, fun i x e => ?_, g.apart⟩
  obtain ⟨v, hv, r⟩ := g.at_ i x e
  refine ⟨v, hv, ?_⟩
  by_cases ho : x.isOwn
  · obtain ⟨a, rfl, hF, oa⟩ := r.own ho
    exact .of_own hF (oa.mono (Ext.refl F) fun u e => by
      rw [upd_ne (ne_of_none e hp)]
      exact e)
  · cases x <;> first | exact absurd trivial ho | exact r
theorem Ag.frozen {p : Addr} {o : HO} (g : Ag Δ τ σ H F) (hp : H p = none) : Ag Δ τ σ (upd H p o) (upd F p o) := by
  have hF : F p = none := g.sub.free hp
  refine ⟨g.sub.new hp, g.len, fun i x e => ?_, g.apart⟩
  obtain ⟨v, hv, r⟩ := g.at_ i x e
  refine ⟨v, hv, ?_⟩
  by_cases ho : x.isOwn
  · obtain ⟨a, rfl, hFa, oa⟩ := r.own ho
    obtain ⟨u, hu⟩ := oa.there
    have na : a ≠ p := ne_of_none hu hp
    exact .of_own (by rw [upd_ne na]; exact hFa) (oa.mono (Ext.new hF) fun u e => by
      rw [upd_ne (ne_of_none e hp)]
      exact e)
  · cases x <;> first | exact absurd trivial ho | exact Rep.mono (Ext.new hF) r
/-- a tuple stands still from now on -/
theorem Post.ftup {p : Addr} {vs : List V} (g : Ag Δ τ σ H F) (hp : H p = some (.tup vs)) (hF : F p = none) : Post Δ τ τ σ H F H (upd F p (.tup vs)) := by
  have e : Ext F (upd F p (.tup vs)) := Ext.new hF
  refine ⟨⟨g.sub.freeze hp, g.len, fun i x ei => ?_, g.apart⟩, e, fun a u h _ => h, fun a u h n => ?_, fun i y e o => ⟨y, e, o⟩, fun a u h => ⟨u, h⟩⟩
  · obtain ⟨v, hv, rv⟩ := g.at_ i x ei
    refine ⟨v, hv, ?_⟩
    by_cases ho : x.isOwn
    · obtain ⟨a, rfl, hFa, oa⟩ := rv.own ho
      have ne : a ≠ p := fun z => by
        subst z
        exact oa.nw fun o' h' => by rw [hp] at h'; cases h'; exact ⟨_, rfl⟩
      exact .of_own (by rw [upd_ne ne]; exact hFa) (oa.mono e fun _ h => h)
    · cases x <;> first | exact absurd trivial ho | exact Rep.mono e rv
  · by_cases q : a = p
    · subst q
      exact .inr fun o' h' => by rw [hp] at h'; cases h'; exact ⟨_, rfl⟩
    · rw [upd_ne q, n] at h; cases h
theorem Made.post (m : Made Δ F H x v H' F') (g : Ag Δ τ σ H F) : Post Δ τ τ σ H F H' F' ∧ ∀ τ', OpRel Δ τ' σ H H' F' v (.c x) := by
  induction m with
  | old r => exact ⟨.refl g, fun _ => r⟩
  | @also F H F' H' x v q vs hq hF m ih =>
    have p := Post.ftup g hq hF
    obtain ⟨p2, r2⟩ := ih p.ag
    exact ⟨p.trans p2, r2⟩
  | @froz F H d p o hp r =>
    refine ⟨⟨g.frozen hp, Ext.new (g.sub.free hp), fun a u e _ => ?_, fun a u e n => ?_, fun i y e o => ⟨y, e, o⟩, fun a u e => ?_⟩, fun _ => r⟩
    · rw [upd_ne (ne_of_none e hp)]; exact e
    · by_cases q : a = p
      · rw [q]; exact .inr (.of hp)
      · rw [upd_ne q, n] at e; cases e
    · exact ⟨u, by rw [upd_ne (ne_of_none e hp)]; exact e⟩
  | @ftup F H p vs ds hp hF r => exact ⟨Post.ftup g hp hF, fun _ => .tup upd_same (r.mono (Ext.new hF))⟩
  | @own F H x p o hp oa =>
    refine ⟨⟨g.laid hp, Ext.refl F, fun a u e _ => ?_, fun a u e n => ?_, fun i y e o => ⟨y, e, o⟩, fun a u e => ?_⟩, fun _ => .of_own hp (g.sub.free hp) oa⟩
    · rw [upd_ne (ne_of_none e hp)]; exact e
    · rw [n] at e; cases e
    · exact ⟨u, by rw [upd_ne (ne_of_none e hp)]; exact e⟩
/-- some tuples stand still, then the rest -/
theorem Made.also_all {x : C} {v : V} {H' : Hp} {Q : Hp → Prop} : ∀ (qs : List (Addr × List V)) {F : Hp}, Sub F H → (∀ q ∈ qs, H q.1 = some (.tup q.2)) → (∀ F1, Ext F F1 → Sub F1 H → (∀ q ∈ qs, F1 q.1 = some (.tup q.2)) → ∃ F', Made Δ F1 H x v H' F' ∧ Q F') → ∃ F', Made Δ F H x v H' F' ∧ Q F'
  | [], F, sub, _, k => k F (Ext.refl F) sub fun q m => by cases m
  | q :: qs, F, sub, hq, k => by
    have h1 := hq q List.mem_cons_self
    cases e : F q.1 with
    | some o =>
      have : o = .tup q.2 := by
        rcases sub _ _ e with h | ⟨h, ob, h2⟩
        · rw [h1] at h; cases h; rfl
        · rw [h1] at h2; cases h2
      subst this
      exact also_all qs sub (fun q' m => hq q' (List.mem_cons_of_mem _ m)) fun F1 ex s all => k F1 ex s fun q' m => by
        rcases List.mem_cons.mp m with rfl | m
        · exact ex _ _ e
        · exact all q' m
    | none =>
      obtain ⟨F', m, hQ⟩ := also_all (x := x) (v := v) (H' := H') (Q := Q) qs (F := upd F q.1 (.tup q.2)) (sub.freeze h1) (fun q' m => hq q' (List.mem_cons_of_mem _ m)) fun F1 ex s all => k F1 ((Ext.new e).trans ex) s fun q' m => by
        rcases List.mem_cons.mp m with rfl | m
        · exact ex _ _ upd_same
        · exact all q' m
      exact ⟨F', .also h1 e m, hQ⟩
theorem Made.int {i : Int} : Made Δ F H (.val (.int i)) (.int i) H F := .old (.int i)
theorem Made.bl {b : Bool} : Made Δ F H (.val (.bl b)) (.bl b) H F := .old (.bl b)
theorem Made.str {s : Str} : Made Δ F H (.val (.str s)) (.str s) H F := .old (.str s)
theorem Made.tup {p : Addr} {vs : List V} {ds : List D} (s : Sub F H) (hp : H p = none) (r : Reps Δ F vs ds) : Made Δ F H (.val (.tup ds)) (.ref p) (upd H p (.tup vs)) (upd F p (.tup vs)) :=
  .froz hp (.tup upd_same (r.mono (Ext.new (s.free hp))))
theorem Made.lst {p : Addr} {vs : List V} {ds : List D} (hp : H p = none) (r : Reps Δ F vs ds) : Made Δ F H (.ol ds) (.ref p) (upd H p (.lst vs)) F :=
  .own hp ⟨vs, upd_same, r⟩
end

section
variable {X : Cx} {Δ : Nm} {τ : CL.St} {σ : L2.St} {H F : Hp}
/-- the last step has made c -/
theorem made_done {Q : VK} {c : C} (g : Ag Δ τ σ H F) (hQ : PostG X Δ (GE Δ Q) τ σ H F (.ok (.c c) τ)) : ∀ v H' F', Made Δ F H c v H' F' → Q v H' := fun v H' F' m =>
  have p := m.post (τ := τ) (σ := σ) g
  hQ v H' F' p.1 (p.2 τ)
end
theorem limS {n : Nat} (h : n ≤ lim) : n ≤ sizeLine := Nat.le_trans h (by rw [sizeLine_eq]; decide)
section
variable {X : Cx}
theorem Inv.rdl {pins : List (Addr × Obj)} {σ : L2.St} {H : Hp} {s : Shared} {l : Addr} {xs : List V} (I : Inv X pins σ H s) (h : Rd H l (.lst xs)) :
    xs.length ≤ sizeLine ∧ ∃ (its : List Value) (n : Nat), Vals xs its ∧ xs.length = its.length ∧ s.heap.get? l = some { cls := .type "list", data := .seq its.toArray n } := by
  obtain ⟨z, its, n, r, e⟩ : xs.length ≤ sizeLine ∧ ∃ (its : List Value) (n : Nat), Vals xs its ∧ s.heap.get? l = some { cls := .type "list", data := .seq its.toArray n } := h.ok I.hok
  exact ⟨z, its, n, r, r.length, e⟩
/-- + of two lists that may be read -/
def rCatL : R2 := fun x y H Q => ∃ l b xs zs, x = .ref l ∧ y = .ref b ∧ Rd H l (.lst xs) ∧ Rd H b (.lst zs) ∧ xs.length + zs.length ≤ sizeLine ∧ ∀ p, H p = none → Q (.ref p) (upd H p (.lst (xs ++ zs)))
theorem op_catL : OpR X (binaryOp .Add) rCatL := by
  intro pins s σ H x y v u Q I rx ry h
  obtain ⟨l, b, xs, zs, rfl, rfl, hH, hB, hz, q⟩ := h
  cases rx
  cases ry
  obtain ⟨z, its, n, r, hl, e⟩ := Inv.rdl I hH
  obtain ⟨z2, its2, n2, r2, hl2, e2⟩ := Inv.rdl I hB
  refine PySem.P.add_list e e2 ?_ (by rw [List.size_toArray, List.size_toArray]; omega)
  have ea : its.toArray ++ its2.toArray = (its ++ its2).toArray := by simp
  rw [ea]
  exact ⟨.ref _, _, I.lnew (t' := s.toks) (r.append r2) (by rw [List.length_append]; omega), rfl, q _ I.fresh⟩
def rRepL : R2 := fun x y H Q => ∃ l k xs, x = .ref l ∧ y = .int k ∧ Rd H l (.lst xs) ∧ -(2 ^ 63) ≤ k ∧ k < 2 ^ 63 ∧ xs.length * k.toNat ≤ sizeLine ∧
  ∀ p, H p = none → Q (.ref p) (upd H p (.lst (List.replicate k.toNat xs).flatten))
theorem op_repL : OpR X (binaryOp .Mult) rRepL := by
  intro pins s σ H x y v u Q I rx ry h
  obtain ⟨l, k, xs, rfl, rfl, hH, h1, h2, hz, q⟩ := h
  cases rx
  obtain ⟨t, rfl⟩ := ry
  obtain ⟨z, its, n, r, hl, e⟩ := Inv.rdl I hH
  have hlen : its.toArray.size * k.toNat ≤ sizeLine := by rw [List.size_toArray, ← hl]; exact hz
  have hcap : ¬ its.toArray.size * k.toNat > (2 ^ 63 - 1) / 8 := by
    have : (sizeLine : Nat) ≤ (2 ^ 63 - 1) / 8 := by decide
    omega
  have hfit : ¬ (!Builtin.List.listFitsIndex k) = true := by
    rw [fitsIndex_both h1 h2]
    exact Bool.false_ne_true
  have hlong : ¬ Builtin.List.listTooLong (its.toArray.size * k.toNat) = true := by
    rw [notLongL hlen]
    exact Bool.false_ne_true
  have hnew : List.foldl (fun x1 x2 => x1 ++ x2) #[] (List.replicate (if its.toArray.isEmpty = true then 0 else k.toNat) its.toArray) = (List.replicate k.toNat its).flatten.toArray := by
    have f0 : ∀ m : Nat, List.foldl (fun x1 x2 => x1 ++ x2) #[] (List.replicate m its.toArray) = (List.replicate m its).flatten.toArray := fun m => by
      have := foldl_rep its m []
      rw [List.nil_append] at this
      exact this
    rw [f0]
    cases its with
    | nil => simp
    | cons a r' => rw [if_neg (by simp)]
  refine wpAny_binaryOp_repeat_ref (T := "list") (U := "int") (by decide) ⟨_, e, rfl⟩ (fun s' => typeIs_int s' k t) noFill_list_mul F.fills_int_mul F.slot_int_rmul repeat_list F.slot_int_index.lookup
    (call_meets F.slot_int_rmul (typeIs_int s k t) F.entry_int_rmul (F.args_int_rmul_2 _ _) (int___rmul___int_list k t l its.toArray n)
      ⟨e, rfl, ⟨_, e, rfl⟩, call_meets F.slot_list_mul ⟨_, e, rfl⟩ F.entry_list_mul (F.args_list_mul_2 _ _) (AutoListH.list___mul___list_int_3 l its.toArray n k t hfit hcap hlong) ⟨e, ?_⟩⟩)
  rw [hnew]
  exact ⟨.ref _, _, I.lnew (t' := s.toks) (r.rep k.toNat) (by rw [PyProof.Rows.lm_len_rep_flat, Nat.mul_comm]; exact hz), rfl, q _ I.fresh⟩
end

section
theorem tuple_mul_same (l : Addr) (items : Array Value) (n : Nat) (dd : Option Addr) (sl : Array (Option Value)) (u : Tok) :
    Meets (Builtin.«tuple.__mul__» ⟨[.ref l, .int 1 u], []⟩) (fun _ R s => s.heap.get? l = some { cls := .type "tuple", dict := dd, data := .seq items n, slots := sl } ∧ R (.ok (.ret (.ref l))) s) :=
  .of_wp fun prog w A R s h => by
    obtain ⟨hp, g, d, tk, os⟩ := s
    obtain ⟨hl, h⟩ := h
    have f1 := AutoSeq1.idx_int
    have c1 : (items.isEmpty || (1 : Int) == 1) = true := by simp
    have hT : ∀ g' d' t' o', Shared.TypeIs ⟨hp, g', d', t', o'⟩ (.ref l) "tuple" := fun _ _ _ _ => ⟨_, hl, rfl⟩
    wp_walk using wpAny_loadPart' hl
    repeat (first
      | (refine wpAny_ite_false (decide_eq_false (by rw [show (decide ((1 : Int) < -(2 ^ 63)) || decide ((1 : Int) ≥ 2 ^ 63)) = false from by decide]; exact Bool.false_ne_true)) ?_; wp_walk using wpAny_loadPart' hl)
      | (refine wpAny_ite_true (decide_eq_true c1) ?_; wp_walk using wpAny_loadPart' hl))
    exact ⟨_, rfl, h⟩
variable {X : Cx}
/-- t * 1 is t -/
def rRepT1 (K : PySem.W.Frag) : R2 := fun x y H Q => ∃ l xs, x = .ref l ∧ y = .int 1 ∧ SqT K H l xs ∧ Q (.ref l) H
theorem op_repT1 : OpR X (binaryOp .Mult) (rRepT1 X.K) := by
  intro pins s σ H x y v u Q I rx ry h
  obtain ⟨l, xs, rfl, rfl, hT, q⟩ := h
  cases rx
  obtain ⟨t, rfl⟩ := ry
  obtain ⟨its, r, ⟨⟨cls, dd, data, sl⟩, ho, hc, n, hd⟩, hs⟩ := I.tuple hT
  simp only at hc hd
  subst hc hd
  refine wpAny_binaryOp_repeat_ref (T := "tuple") (U := "int") (by decide) ⟨_, ho, rfl⟩ (fun s' => typeIs_int s' 1 t) noFill_tuple_mul F.fills_int_mul F.slot_int_rmul repeat_tuple F.slot_int_index.lookup
    (call_meets F.slot_int_rmul (typeIs_int s 1 t) F.entry_int_rmul (F.args_int_rmul_2 _ _) (int_rmul_tuple 1 t l its.toArray n dd sl)
      ⟨ho, rfl, ⟨_, ho, rfl⟩, call_meets F.slot_tuple_mul ⟨_, ho, rfl⟩ F.entry_tuple_mul (F.args_tuple_mul_2 _ _) (tuple_mul_same l its.toArray n dd sl t) ⟨ho, ?_⟩⟩)
  exact ⟨.ref l, H, I, rfl, q⟩
end

def opOf : Bop → Operator
  | .add => .Add
  | .sub => .Sub
  | .mul => .Mult
  | .fdiv => .FloorDiv
  | .mod => .Mod
  | .pow => .Pow
  | .shl => .LShift
  | .band => .BitAnd
/-- an operation by values by value -/
def rBin (Δ : Nm) (op : Bop) : R2 := fun x y H Q => ∃ F d e c, Sub F H ∧ View Δ F H x d ∧ View Δ F H y e ∧ binD op d e = some c ∧ ∀ v H' F', Made Δ F H c v H' F' → Q v H'
theorem some_if {α : Type} {p : Prop} [Decidable p] {a b : α} (h : (if p then some a else none) = some b) : p ∧ a = b := by
  split at h
  · exact ⟨by assumption, Option.some.inj h⟩
  · cases h
section
variable {X : Cx} {Δ : Nm}
theorem op_bin (hK : X.K = Δ.K) (op : Bop) : OpR X (binaryOp (opOf op)) (rBin Δ op) := by
  intro pins s σ H x y v u Q I rx ry h
  obtain ⟨F, d, e, c, sub, vx, vy, hb, q⟩ := h
  unfold binD at hb
  split at hb
  · cases hb
    exact op_add pins s σ H x y v u Q I rx ry ⟨_, _, vx.int, vy.int, q _ _ _ .int⟩
  · obtain ⟨hl, hb⟩ := some_if hb
    subst hb
    obtain ⟨a, xs, rfl, ha, ra, rep1⟩ := vx.tup sub
    obtain ⟨b, ys, rfl, hb, rb, rep2⟩ := vy.tup sub
    refine op_catA pins s σ H _ _ v u Q I rx ry ⟨a, b, xs, ys, rfl, rfl, hK ▸ ha, hK ▸ hb, limS (by rw [ra.length, rb.length]; exact hl), fun e => ?_, fun _ e => ?_, fun _ _ p hp => q _ _ _ (.tup sub hp (ra.append rb))⟩
    · subst e
      cases ra
      exact q _ _ _ (.old rep2)
    · subst e
      cases rb
      rw [List.append_nil] at q
      exact q _ _ _ (.old rep1)
  · obtain ⟨hl, hb⟩ := some_if hb
    subst hb
    obtain ⟨a, xs, rfl, ha, ra⟩ := vx.lst sub
    obtain ⟨b, ys, rfl, hb, rb⟩ := vy.lst sub
    exact op_catL pins s σ H _ _ v u Q I rx ry ⟨a, b, xs, ys, rfl, rfl, ha, hb, limS (by rw [ra.length, rb.length]; exact hl), fun p hp => q _ _ _ (.lst hp (ra.append rb))⟩
  · obtain ⟨hl, hb⟩ := some_if hb
    subst hb
    exact op_add_str pins s σ H x y v u Q I rx ry ⟨_, _, vx.str, vy.str, limS hl, q _ _ _ .str⟩
  · cases hb
    exact op_sub pins s σ H x y v u Q I rx ry ⟨_, _, vx.int, vy.int, q _ _ _ .int⟩
  · obtain ⟨hl, hb⟩ := some_if hb
    subst hb
    refine op_mul pins s σ H x y v u Q I rx ry ⟨_, _, vx.int, vy.int, ?_, q _ _ _ .int⟩
    simp only [mulOk, Bool.or_eq_true, Bool.and_eq_true, decide_eq_true_eq] at hl
    exact hl
  · obtain ⟨hl, hb⟩ := some_if hb
    subst hb
    simp only [Bool.and_eq_true, decide_eq_true_eq] at hl
    obtain ⟨⟨⟨h1, h2⟩, h3⟩, h4⟩ := hl
    obtain ⟨a, xs, rfl, ha, ra, rep1⟩ := vx.tup sub
    have hj := vy.int
    subst hj
    rename_i ds j
    by_cases e1 : j = 1
    · subst e1
      refine op_repT1 pins s σ H _ _ v u Q I rx ry ⟨a, xs, rfl, rfl, hK ▸ ha, q _ H F ?_⟩
      rw [show ((1 : Int)).toNat = 1 from rfl, List.replicate_succ, List.replicate_zero, List.flatten_cons, List.flatten_nil, List.append_nil]
      exact .old rep1
    · have hl := ra.length
      exact op_repT pins s σ H _ _ v u Q I rx ry ⟨a, _, xs, rfl, rfl, hK ▸ ha, fun z => by rw [z] at hl; simp at hl; omega, by omega, h2, by omega, fun p hp => q _ _ _ (.tup sub hp (ra.rep _))⟩
  · obtain ⟨hl, hb⟩ := some_if hb
    subst hb
    simp only [Bool.and_eq_true, decide_eq_true_eq] at hl
    obtain ⟨a, xs, rfl, ha, ra⟩ := vx.lst sub
    have hj := vy.int
    subst hj
    exact op_repL pins s σ H _ _ v u Q I rx ry ⟨a, _, xs, rfl, rfl, ha, by omega, by have := hl.1.2; have : (lim : Int) = 1000000 := rfl; omega, limS (by rw [ra.length]; exact hl.2), fun p hp => q _ _ _ (.lst hp (ra.rep _))⟩
  · obtain ⟨hl, hb⟩ := some_if hb
    subst hb
    simp only [Bool.and_eq_true, decide_eq_true_eq] at hl
    exact op_fdiv pins s σ H x y v u Q I rx ry ⟨_, _, vx.int, vy.int, hl, q _ _ _ .int⟩
  · obtain ⟨hl, hb⟩ := some_if hb
    subst hb
    exact op_mod pins s σ H x y v u Q I rx ry ⟨_, _, vx.int, vy.int, hl, q _ _ _ .int⟩
  · obtain ⟨hl, hb⟩ := some_if hb
    subst hb
    simp only [Bool.and_eq_true, decide_eq_true_eq] at hl
    exact op_pow pins s σ H x y v u Q I rx ry ⟨_, _, vx.int, vy.int, ⟨hl.1.1, hl.1.2, hl.2⟩, q _ _ _ .int⟩
  · obtain ⟨hl, hb⟩ := some_if hb
    subst hb
    simp only [Bool.and_eq_true, decide_eq_true_eq] at hl
    exact op_shl pins s σ H x y v u Q I rx ry ⟨_, _, vx.int, vy.int, ⟨hl.1.1, hl.1.2, hl.2⟩, q _ _ _ .int⟩
  · cases hb
end
end CL

set_option autoImplicit false
set_option linter.all false
set_option Elab.async false
set_option maxRecDepth 100000
set_option maxHeartbeats 1000000
/-! CLDk: dicts by value, their keys. -/
namespace CL
open PySem PySem.Spec PyProof.Rows L2
theorem eqb_key : ∀ a b : Key, eqb (keyD a) (keyD b) = decide (a = b)
  | .inl i, .inl j => by
    show (i == j) = _
    by_cases h : i = j
    · subst h; simp
    · have : ¬ (Sum.inl i : Key) = Sum.inl j := fun e => h (by injection e)
      rw [decide_eq_false this, beq_eq_false_iff_ne.mpr h]
  | .inr x, .inr y => by
    show (x == y) = _
    by_cases h : x = y
    · subst h; simp
    · have : ¬ (Sum.inr x : Key) = Sum.inr y := fun e => h (by injection e)
      rw [decide_eq_false this, beq_eq_false_iff_ne.mpr h]
  | .inl i, .inr y => by
    rw [decide_eq_false (fun e => by cases e)]
    rfl
  | .inr x, .inl j => by
    rw [decide_eq_false (fun e => by cases e)]
    rfl
theorem eqbs_keys : ∀ a b : List Key, eqbs (a.map keyD) (b.map keyD) = decide (a = b)
  | [], [] => by simp [eqbs]
  | [], _ :: _ => by simp [eqbs]
  | _ :: _, [] => by simp [eqbs]
  | x :: xs, y :: ys => by
    rw [List.map_cons, List.map_cons, eqbs, eqb_key, eqbs_keys xs ys]
    by_cases h1 : x = y
    · by_cases h2 : xs = ys
      · simp [h1, h2]
      · simp [h1, h2]
    · simp [h1]
/-- the key of a dict of tuples -/
abbrev keyT (k : List Key) : D := .tup (k.map keyD)
theorem eqb_tkey (a b : List Key) : eqb (keyT a) (keyT b) = decide (a = b) := by
  show eqbs _ _ = _
  exact eqbs_keys a b
section
variable {Δ : Nm} {F H : Hp} {u x y : V} {k : D} {t : Bool} {kvs : List (D × D)}
theorem key_view (h : View Δ F H u k) (hk : isKey k = true) : ∃ κ : Key, u = kV κ ∧ keyD κ = k := by
  cases k <;> first | cases hk | skip
  · exact ⟨.inl _, h.int, rfl⟩
  · exact ⟨.inr _, h.str, rfl⟩
theorem keys_reps : ∀ {us : List V} {ds : List D}, Reps Δ F us ds → ds.all isKey = true → ∃ κs : List Key, us = κs.map kV ∧ κs.map keyD = ds
  | _, _, .nil, _ => ⟨[], rfl, rfl⟩
  | _, _, .cons (v := v) (d := d) h r, hk => by
    rw [List.all_cons, Bool.and_eq_true] at hk
    obtain ⟨κ, e1, e2⟩ := key_view (H := F) (.inl h) hk.1
    obtain ⟨κs, e3, e4⟩ := keys_reps r hk.2
    exact ⟨κ :: κs, by rw [e1, e3]; rfl, by rw [List.map_cons, e2, e4]⟩
theorem tkey_view (sub : Sub F H) (h : View Δ F H u k) (hk : isKeys k = true) : ∃ (b : Addr) (κs : List Key), u = .ref b ∧ H b = some (.tup (κs.map kV)) ∧ keyT κs = k := by
  cases k <;> first | cases hk | skip
  obtain ⟨b, vs, rfl, hb, r⟩ := h.tupH sub
  obtain ⟨κs, rfl, e⟩ := keys_reps r hk
  exact ⟨b, κs, rfl, hb, by rw [keyT, e]⟩
theorem RepKs.val (κ : Key) : ∀ {ks : List (Key × V)} {kvs : List (D × D)}, RepKs Δ F ks kvs → (∃ v d, valV ks κ = some v ∧ dget kvs (keyD κ) = some d ∧ Rep Δ F v d) ∨ (valV ks κ = none ∧ dget kvs (keyD κ) = none)
  | _, _, .nil => .inr ⟨rfl, rfl⟩
  | _, _, .cons (k := k) (v := v) (d := d) h r => by
    by_cases e : k = κ
    · refine .inl ⟨v, d, valV_pos (p := (k, v)) e, ?_, h⟩
      rw [dget, eqb_key, if_pos (decide_eq_true e)]
    · rw [valV_neg (p := (k, v)) e, dget, eqb_key, if_neg (by simp [e])]
      exact RepKs.val κ r
theorem RepTs.val (κ : List Key) : ∀ {ks : List (List Key × V)} {kvs : List (D × D)}, RepTs Δ F ks kvs → (∃ v d, valV ks κ = some v ∧ dget kvs (keyT κ) = some d ∧ Rep Δ F v d) ∨ (valV ks κ = none ∧ dget kvs (keyT κ) = none)
  | _, _, .nil => .inr ⟨rfl, rfl⟩
  | _, _, .cons (k := k) (v := v) (d := d) h r => by
    by_cases e : k = κ
    · refine .inl ⟨v, d, valV_pos (p := (k, v)) e, ?_, h⟩
      rw [dget, eqb_tkey, if_pos (decide_eq_true e)]
    · rw [valV_neg (p := (k, v)) e, dget, eqb_tkey, if_neg (by simp [e])]
      exact RepTs.val κ r
theorem RepKs.length : ∀ {ks : List (Key × V)} {kvs : List (D × D)}, RepKs Δ F ks kvs → ks.length = kvs.length
  | _, _, .nil => rfl
  | _, _, .cons _ r => congrArg (· + 1) (RepKs.length r)
theorem RepTs.length : ∀ {ks : List (List Key × V)} {kvs : List (D × D)}, RepTs Δ F ks kvs → ks.length = kvs.length
  | _, _, .nil => rfl
  | _, _, .cons _ r => congrArg (· + 1) (RepTs.length r)
theorem RepKs.any (κ : Key) : ∀ {ks : List (Key × V)} {kvs : List (D × D)}, RepKs Δ F ks kvs → (ks.any fun kv => decide (kv.1 = κ)) = kvs.any fun p => eqb p.1 (keyD κ)
  | _, _, .nil => rfl
  | _, _, .cons h r => by rw [List.any_cons, List.any_cons, RepKs.any κ r, eqb_key]
theorem RepTs.any (κ : List Key) : ∀ {ks : List (List Key × V)} {kvs : List (D × D)}, RepTs Δ F ks kvs → (ks.any fun kv => decide (kv.1 = κ)) = kvs.any fun p => eqb p.1 (keyT κ)
  | _, _, .nil => rfl
  | _, _, .cons h r => by rw [List.any_cons, List.any_cons, RepTs.any κ r, eqb_tkey]
theorem RepKs.map_ (κ : Key) {w : V} {e : D} (hw : Rep Δ F w e) : ∀ {ks : List (Key × V)} {kvs : List (D × D)}, RepKs Δ F ks kvs → RepKs Δ F (ks.map fun kv => if kv.1 = κ then (kv.1, w) else kv) (kvs.map fun p => if eqb p.1 (keyD κ) then (p.1, e) else p)
  | _, _, .nil => .nil
  | _, _, .cons (k := k) h r => by
    rw [List.map_cons, List.map_cons]
    simp only [eqb_key]
    have ih := RepKs.map_ κ hw r
    by_cases e : k = κ
    · rw [if_pos e, if_pos (decide_eq_true e)]; exact .cons hw ih
    · rw [if_neg e, if_neg (by simp [e])]; exact .cons h ih
theorem RepTs.map_ (κ : List Key) {w : V} {e : D} (hw : Rep Δ F w e) : ∀ {ks : List (List Key × V)} {kvs : List (D × D)}, RepTs Δ F ks kvs → RepTs Δ F (ks.map fun kv => if kv.1 = κ then (kv.1, w) else kv) (kvs.map fun p => if eqb p.1 (keyT κ) then (p.1, e) else p)
  | _, _, .nil => .nil
  | _, _, .cons (k := k) h r => by
    rw [List.map_cons, List.map_cons]
    simp only [eqb_tkey]
    have ih := RepTs.map_ κ hw r
    by_cases e : k = κ
    · rw [if_pos e, if_pos (decide_eq_true e)]; exact .cons hw ih
    · rw [if_neg e, if_neg (by simp [e])]; exact .cons h ih
theorem RepKs.snoc (κ : Key) {w : V} {e : D} (hw : Rep Δ F w e) : ∀ {ks : List (Key × V)} {kvs : List (D × D)}, RepKs Δ F ks kvs → RepKs Δ F (ks ++ [(κ, w)]) (kvs ++ [(keyD κ, e)])
  | _, _, .nil => .cons hw .nil
  | _, _, .cons h r => .cons h (RepKs.snoc κ hw r)
theorem RepTs.snoc (κ : List Key) {w : V} {e : D} (hw : Rep Δ F w e) : ∀ {ks : List (List Key × V)} {kvs : List (D × D)}, RepTs Δ F ks kvs → RepTs Δ F (ks ++ [(κ, w)]) (kvs ++ [(keyT κ, e)])
  | _, _, .nil => .cons hw .nil
  | _, _, .cons h r => .cons h (RepTs.snoc κ hw r)
theorem RepKs.put (κ : Key) {ks : List (Key × V)} {w : V} {e : D} (r : RepKs Δ F ks kvs) (hw : Rep Δ F w e) : RepKs Δ F (putK ks κ w) (dput kvs (keyD κ) e) := by
  unfold putK dput
  rw [r.any κ]
  by_cases h : (kvs.any fun p => eqb p.1 (keyD κ)) = true
  · rw [if_pos h, if_pos h]; exact r.map_ κ hw
  · rw [if_neg h, if_neg h]; exact r.snoc κ hw
theorem RepTs.put (κ : List Key) {ks : List (List Key × V)} {w : V} {e : D} (r : RepTs Δ F ks kvs) (hw : Rep Δ F w e) : RepTs Δ F (putK ks κ w) (dput kvs (keyT κ) e) := by
  unfold putK dput
  rw [r.any κ]
  by_cases h : (kvs.any fun p => eqb p.1 (keyT κ)) = true
  · rw [if_pos h, if_pos h]; exact r.map_ κ hw
  · rw [if_neg h, if_neg h]; exact r.snoc κ hw
/-- what a dict holds at a key -/
theorem dget_view (sub : Sub F H) (vx : View Δ F H x (.dct t kvs)) (vy : View Δ F H y k) (hk : keyOk t k = true) :
    ∃ (a : Addr) (r : Option V), x = .ref a ∧ DGet H a y r ∧ ((∃ v d, r = some v ∧ dget kvs k = some d ∧ Rep Δ F v d) ∨ (r = none ∧ dget kvs k = none)) := by
  cases t with
  | false =>
    obtain ⟨a, ks, rfl, q, r⟩ := vx.dk sub
    obtain ⟨κ, rfl, rfl⟩ := key_view vy hk
    refine ⟨a, valV ks κ, rfl, .inl ⟨ks, κ, q, rfl, rfl⟩, ?_⟩
    rcases r.val κ with ⟨v, d, e1, e2, e3⟩ | ⟨e1, e2⟩
    · exact .inl ⟨v, d, e1, e2, e3⟩
    · exact .inr ⟨e1, e2⟩
  | true =>
    obtain ⟨a, ks, rfl, q, r⟩ := vx.dt sub
    obtain ⟨b, κ, rfl, hb, rfl⟩ := tkey_view sub vy hk
    refine ⟨a, valV ks κ, rfl, .inr ⟨ks, κ, b, q, rfl, hb, rfl⟩, ?_⟩
    rcases r.val κ with ⟨v, d, e1, e2, e3⟩ | ⟨e1, e2⟩
    · exact .inl ⟨v, d, e1, e2, e3⟩
    · exact .inr ⟨e1, e2⟩
end
end CL

set_option autoImplicit false
set_option linter.all false
set_option Elab.async false
set_option maxRecDepth 100000
set_option maxHeartbeats 1000000
/-! CLPy: values as the library's data; ==, <, in. -/
namespace CL
open PySem PySem.Spec PyProof.Rows L2
mutual
def toPy : D → PyData
  | .non => .none
  | .bl b => .bool b
  | .int i => .int i
  | .str s => .str s
  | .tup ds => .tuple (toPys ds)
  | .lst ds => .list (toPys ds)
  | .dct _ _ => .none
  | .ins _ _ => .none
  | .fn _ => .none
  | .kl _ => .none
def toPys : List D → List PyData
  | [] => []
  | d :: ds => toPy d :: toPys ds
end
theorem toPys_map : ∀ ds : List D, toPys ds = ds.map toPy
  | [] => by rw [toPys]; rfl
  | d :: ds => by rw [toPys, toPys_map ds]; rfl
mutual
theorem okD_lay : ∀ (n : Nat) (d : D), okD n d = true → (toPy d).canLay0 = true ∧ (toPy d).depth ≤ n
  | _, .non, _ => ⟨by rw [toPy]; rfl, by rw [toPy]; simp [PyData.depth]⟩
  | _, .bl _, _ => ⟨by rw [toPy]; rfl, by rw [toPy]; simp [PyData.depth]⟩
  | _, .int _, _ => ⟨by rw [toPy]; rfl, by rw [toPy]; simp [PyData.depth]⟩
  | _, .str s, h => ⟨by rw [toPy]; rw [okD] at h; exact h, by rw [toPy]; simp [PyData.depth]⟩
  | 0, .tup _, h => by rw [okD] at h; cases h
  | n + 1, .tup ds, h => by
    rw [okD] at h
    obtain ⟨h1, h2⟩ := okDs_lay n ds h
    rw [toPy]
    exact ⟨by rw [PyData.canLay0]; exact h1, by rw [PyData.depth]; omega⟩
  | 0, .lst _, h => by rw [okD] at h; cases h
  | n + 1, .lst ds, h => by
    rw [okD] at h
    obtain ⟨h1, h2⟩ := okDs_lay n ds h
    rw [toPy]
    exact ⟨by rw [PyData.canLay0]; exact h1, by rw [PyData.depth]; omega⟩
  | _, .dct _ _, h => by rw [okD] at h; cases h
  | _, .ins _ _, h => by rw [okD] at h; cases h
  | _, .fn _, h => by rw [okD] at h; cases h
  | _, .kl _, h => by rw [okD] at h; cases h
theorem okDs_lay : ∀ (n : Nat) (ds : List D), okDs n ds = true → PyData.canLayAll0 (toPys ds) = true ∧ PyData.depthAll (toPys ds) ≤ n
  | _, [], _ => ⟨by rw [toPys]; rfl, by rw [toPys]; simp [PyData.depthAll]⟩
  | n, d :: ds, h => by
    rw [okDs, Bool.and_eq_true] at h
    obtain ⟨h1, h2⟩ := okD_lay n d h.1
    obtain ⟨h3, h4⟩ := okDs_lay n ds h.2
    rw [toPys]
    exact ⟨by rw [PyData.canLayAll0, h1, h3]; rfl, by rw [PyData.depthAll]; omega⟩
end
theorem okD_shaped {n : Nat} {d : D} (hn : n ≤ 64) (h : okD n d = true) : SeqAt.shaped (toPy d) = true := by
  obtain ⟨h1, h2⟩ := okD_lay n d h
  unfold SeqAt.shaped
  rw [h1, decide_eq_true (by omega : (toPy d).depth ≤ 64)]
  rfl
theorem okDs_shaped {n : Nat} {ds : List D} (hn : n < 64) (h : okDs n ds = true) : SeqAt.shaped (.list (toPys ds)) = true := by
  obtain ⟨h1, h2⟩ := okDs_lay n ds h
  unfold SeqAt.shaped
  rw [PyData.canLay0, h1, decide_eq_true (by rw [PyData.depth]; omega : (PyData.list (toPys ds)).depth ≤ 64)]
  rfl
mutual
theorem eqv_py : ∀ (n m : Nat) (a b : D), okD n a = true → okD m b = true → PyData.eqv (toPy a) (toPy b) = eqb a b
  | n, m, .tup xs, b, ha, hb => by
    cases n with
    | zero => rw [okD] at ha; cases ha
    | succ n =>
      rw [okD] at ha
      cases b <;> first
        | (cases m with
           | zero => rw [okD] at hb; cases hb
           | succ m =>
             rw [okD] at hb
             simp only [toPy, PyData.eqv, eqb]
             try exact eqvs_py n m _ _ ha hb)
        | (simp only [toPy, PyData.eqv, eqb])
        | (rw [okD] at hb; cases hb)
  | n, m, .lst xs, b, ha, hb => by
    cases n with
    | zero => rw [okD] at ha; cases ha
    | succ n =>
      rw [okD] at ha
      cases b <;> first
        | (cases m with
           | zero => rw [okD] at hb; cases hb
           | succ m =>
             rw [okD] at hb
             simp only [toPy, PyData.eqv, eqb]
             try exact eqvs_py n m _ _ ha hb)
        | (simp only [toPy, PyData.eqv, eqb])
        | (rw [okD] at hb; cases hb)
  | n, m, .non, b, ha, hb => by cases b <;> first | exact absurd hb (by rw [okD]; exact Bool.false_ne_true) | (simp only [toPy, PyData.eqv, eqb])
  | n, m, .bl x, b, ha, hb => by cases b <;> first | exact absurd hb (by rw [okD]; exact Bool.false_ne_true) | (simp only [toPy, PyData.eqv, eqb])
  | n, m, .int x, b, ha, hb => by cases b <;> first | exact absurd hb (by rw [okD]; exact Bool.false_ne_true) | (simp only [toPy, PyData.eqv, eqb])
  | n, m, .str x, b, ha, hb => by cases b <;> first | exact absurd hb (by rw [okD]; exact Bool.false_ne_true) | (simp only [toPy, PyData.eqv, eqb])
  | n, m, .dct _ _, b, ha, hb => by rw [okD] at ha; cases ha
  | n, m, .ins _ _, b, ha, hb => by rw [okD] at ha; cases ha
  | n, m, .fn _, b, ha, hb => by rw [okD] at ha; cases ha
  | n, m, .kl _, b, ha, hb => by rw [okD] at ha; cases ha
theorem eqvs_py : ∀ (n m : Nat) (a b : List D), okDs n a = true → okDs m b = true → PyData.eqvAll (toPys a) (toPys b) = eqbs a b
  | n, m, [], [], _, _ => by simp only [toPys, PyData.eqvAll, eqbs]
  | n, m, [], _ :: _, _, _ => by simp only [toPys, PyData.eqvAll, eqbs]
  | n, m, _ :: _, [], _, _ => by simp only [toPys, PyData.eqvAll, eqbs]
  | n, m, x :: xs, y :: ys, ha, hb => by
    rw [okDs, Bool.and_eq_true] at ha hb
    simp only [toPys, PyData.eqvAll, eqbs]
    rw [eqv_py n m x y ha.1 hb.1, eqvs_py n m xs ys ha.2 hb.2]
end
mutual
theorem alike_py : ∀ (n m : Nat) (a b : D), okD n a = true → okD m b = true → PySem.W.alike (toPy a) (toPy b) = alikeb a b
  | n, m, .tup xs, b, ha, hb => by
    cases n with
    | zero => rw [okD] at ha; cases ha
    | succ n =>
      rw [okD] at ha
      cases b <;> first
        | (cases m with
           | zero => rw [okD] at hb; cases hb
           | succ m =>
             rw [okD] at hb
             simp only [toPy, PySem.W.alike, alikeb]
             try exact alikes_py n m _ _ ha hb)
        | (simp only [toPy, PySem.W.alike, alikeb])
        | (rw [okD] at hb; cases hb)
  | n, m, .lst xs, b, ha, hb => by
    cases n with
    | zero => rw [okD] at ha; cases ha
    | succ n =>
      rw [okD] at ha
      cases b <;> first
        | (cases m with
           | zero => rw [okD] at hb; cases hb
           | succ m =>
             rw [okD] at hb
             simp only [toPy, PySem.W.alike, alikeb]
             try exact alikes_py n m _ _ ha hb)
        | (simp only [toPy, PySem.W.alike, alikeb])
        | (rw [okD] at hb; cases hb)
  | n, m, .non, b, ha, hb => by cases b <;> first | exact absurd hb (by rw [okD]; exact Bool.false_ne_true) | (simp only [toPy, PySem.W.alike, alikeb])
  | n, m, .bl x, b, ha, hb => by cases b <;> first | exact absurd hb (by rw [okD]; exact Bool.false_ne_true) | (simp only [toPy, PySem.W.alike, alikeb])
  | n, m, .int x, b, ha, hb => by cases b <;> first | exact absurd hb (by rw [okD]; exact Bool.false_ne_true) | (simp only [toPy, PySem.W.alike, alikeb])
  | n, m, .str x, b, ha, hb => by cases b <;> first | exact absurd hb (by rw [okD]; exact Bool.false_ne_true) | (simp only [toPy, PySem.W.alike, alikeb])
  | n, m, .dct _ _, b, ha, hb => by rw [okD] at ha; cases ha
  | n, m, .ins _ _, b, ha, hb => by rw [okD] at ha; cases ha
  | n, m, .fn _, b, ha, hb => by rw [okD] at ha; cases ha
  | n, m, .kl _, b, ha, hb => by rw [okD] at ha; cases ha
theorem alikes_py : ∀ (n m : Nat) (a b : List D), okDs n a = true → okDs m b = true → PySem.W.alikeAll (toPys a) (toPys b) = alikebs a b
  | n, m, [], [], _, _ => by simp only [toPys, PySem.W.alikeAll, alikebs]
  | n, m, [], _ :: _, _, _ => by simp only [toPys, PySem.W.alikeAll, alikebs]
  | n, m, _ :: _, [], _, _ => by simp only [toPys, PySem.W.alikeAll, alikebs]
  | n, m, x :: xs, y :: ys, ha, hb => by
    rw [okDs, Bool.and_eq_true] at ha hb
    simp only [toPys, PySem.W.alikeAll, alikebs]
    rw [alike_py n m x y ha.1 hb.1, alikes_py n m xs ys ha.2 hb.2]
end
mutual
theorem lt_py : ∀ (n m : Nat) (a b : D), okD n a = true → okD m b = true → alikeb a b = true → PySem.W.dataLt (toPy a) (toPy b) = ltb a b
  | n, m, .tup xs, b, ha, hb, hl => by
    cases b <;> first
      | (simp [alikeb] at hl; done)
      | (cases n with
         | zero => rw [okD] at ha; cases ha
         | succ n =>
           cases m with
           | zero => rw [okD] at hb; cases hb
           | succ m =>
             rw [okD] at ha hb
             rw [alikeb] at hl
             simp only [toPy, ltb]
             rw [PySem.W.dataLt_tuple]
             exact lts_py n m _ _ ha hb hl)
      | skip
  | n, m, .lst xs, b, ha, hb, hl => by
    cases b <;> first
      | (simp [alikeb] at hl; done)
      | (cases n with
         | zero => rw [okD] at ha; cases ha
         | succ n =>
           cases m with
           | zero => rw [okD] at hb; cases hb
           | succ m =>
             rw [okD] at ha hb
             rw [alikeb] at hl
             simp only [toPy, ltb]
             rw [PySem.W.dataLt_list]
             exact lts_py n m _ _ ha hb hl)
      | skip
  | n, m, .non, b, ha, hb, hl => by
    cases b <;> first
      | (simp [alikeb] at hl; done)
      | (rw [show ltb D.non D.non = false from by simp [ltb]]; exact PyProof.Rows.lex_irrefl _)
      | skip
  | n, m, .bl x, b, ha, hb, hl => by
    cases b <;> first
      | (simp [alikeb] at hl; done)
      | (simp only [toPy, ltb]; rw [PySem.W.dataLt_bool]; rename_i y; cases x <;> cases y <;> rfl)
      | skip
  | n, m, .int x, b, ha, hb, hl => by
    cases b <;> first
      | (simp [alikeb] at hl; done)
      | (simp only [toPy, ltb]; exact PySem.W.dataLt_int _ _)
      | skip
  | n, m, .str x, b, ha, hb, hl => by
    cases b <;> first
      | (simp [alikeb] at hl; done)
      | (simp only [toPy, ltb]; exact PySem.W.dataLt_str _ _)
      | skip
  | n, m, .dct _ _, b, ha, hb, _ => by rw [okD] at ha; cases ha
  | n, m, .ins _ _, b, ha, hb, _ => by rw [okD] at ha; cases ha
  | n, m, .fn _, b, ha, hb, _ => by rw [okD] at ha; cases ha
  | n, m, .kl _, b, ha, hb, _ => by rw [okD] at ha; cases ha
theorem lts_py : ∀ (n m : Nat) (a b : List D), okDs n a = true → okDs m b = true → alikebs a b = true → PyProof.Rows.lexLt PyProof.Rows.itemOrd (PySem.W.keyToksAll (toPys a)) (PySem.W.keyToksAll (toPys b)) = ltbs a b
  | n, m, [], [], _, _, _ => by rw [ltbs]; exact PyProof.Rows.lex_irrefl _
  | n, m, [], y :: ys, _, _, _ => by
    simp only [toPys, ltbs]
    rw [PySem.W.toks_all_cons]
    simp only [PySem.W.keyToksAll]
    rw [PyProof.Rows.lex_diff (O := PyProof.Rows.itemOrd) (by simp)]
    rfl
  | n, m, x :: xs, [], _, _, _ => by
    simp only [toPys, ltbs]
    rw [PySem.W.toks_all_cons]
    simp only [PySem.W.keyToksAll]
    rw [PyProof.Rows.lex_diff (O := PyProof.Rows.itemOrd) (by simp)]
    rfl
  | n, m, x :: xs, y :: ys, ha, hb, hl => by
    rw [okDs, Bool.and_eq_true] at ha hb
    rw [alikebs, Bool.and_eq_true] at hl
    simp only [toPys, ltbs]
    have e1 := alike_py n m x y ha.1 hb.1
    rw [hl.1] at e1
    have e2 := eqv_py n m x y ha.1 hb.1
    cases e : eqb x y with
    | true =>
      rw [e] at e2
      rw [PySem.W.dataLt_all_yes e1 e2, lts_py n m xs ys ha.2 hb.2 hl.2]
      rfl
    | false =>
      rw [e] at e2
      rw [PySem.W.dataLt_all_no e1 e2, lt_py n m x y ha.1 hb.1 hl.1]
      rfl
end

/-! ### as data over the abstract heap -/
mutual
theorem Rep.dp {Δ : Nm} {F H : Hp} (sub : Sub F H) : ∀ {v : V} {d : D}, Rep Δ F v d → ∀ {n : Nat}, okD n d = true → Dp Δ.K H v (toPy d)
  | _, _, .non, _, _ => by rw [toPy]; exact .non
  | _, _, .bl b, _, _ => by rw [toPy]; exact .bl b
  | _, _, .int i, _, _ => by rw [toPy]; exact .int i
  | _, _, .str s, _, _ => by rw [toPy]; exact .str s
  | _, _, .tup h r, n, hn => by
    cases n with
    | zero => rw [okD] at hn; cases hn
    | succ n =>
      rw [okD] at hn
      rw [toPy]
      exact .tup (.inl (.inl (sub.tup h))) (Reps.dp sub r hn)
  | _, _, .lst h r, n, hn => by
    cases n with
    | zero => rw [okD] at hn; cases hn
    | succ n =>
      rw [okD] at hn
      rw [toPy]
      exact .lst (.inl (sub.rdL h)) (Reps.dp sub r hn)
  | _, _, .dk _ _, _, hn => by rw [okD] at hn; cases hn
  | _, _, .dt _ _, _, hn => by rw [okD] at hn; cases hn
  | _, _, .ins _ _, _, hn => by rw [okD] at hn; cases hn
  | _, _, .fn _, _, hn => by rw [okD] at hn; cases hn
  | _, _, .kl _ _, _, hn => by rw [okD] at hn; cases hn
theorem Reps.dp {Δ : Nm} {F H : Hp} (sub : Sub F H) : ∀ {vs : List V} {ds : List D}, Reps Δ F vs ds → ∀ {n : Nat}, okDs n ds = true → DpAll Δ.K H vs (toPys ds)
  | _, _, .nil, _, _ => by rw [toPys]; exact .nil
  | _, _, .cons h r, n, hn => by
    rw [okDs, Bool.and_eq_true] at hn
    rw [toPys]
    exact .cons (Rep.dp sub h hn.1) (Reps.dp sub r hn.2)
end
theorem View.dp {Δ : Nm} {F H : Hp} (sub : Sub F H) {v : V} {d : D} (h : View Δ F H v d) {n : Nat} (hn : okD n d = true) : Dp Δ.K H v (toPy d) := by
  rcases h with h | ⟨a, x, rfl, e, _, o⟩
  · exact h.dp sub hn
  · cases x with
    | val d => exact o.elim
    | ol es =>
      cases e
      obtain ⟨vs, q, r⟩ := o
      cases n with
      | zero => rw [C.toD, okD] at hn; cases hn
      | succ n =>
        rw [C.toD, okD] at hn
        rw [C.toD, toPy]
        exact .lst (.of q) (r.dp sub hn)
    | od t k => cases e; rw [C.toD, okD] at hn; cases hn
    | oi c fs => cases e; rw [C.toD, okD] at hn; cases hn
theorem View.dps {Δ : Nm} {F H : Hp} (sub : Sub F H) {v : V} {ds : List D} (h : View Δ F H v (.tup ds) ∨ View Δ F H v (.lst ds)) {n : Nat} (hn : okDs n ds = true) : Dp Δ.K H v (.list (toPys ds)) ∨ Dp Δ.K H v (.tuple (toPys ds)) := by
  rcases h with h | h
  · have := h.dp sub (n := n + 1) (by rw [okD]; exact hn)
    rw [toPy] at this
    exact .inr this
  · have := h.dp sub (n := n + 1) (by rw [okD]; exact hn)
    rw [toPy] at this
    exact .inl this

def copOf : Cop → CmpOp
  | .eq => .Eq
  | .ne => .NotEq
  | .lt => .Lt
  | .le => .LtE
  | .gt => .Gt
  | .ge => .GtE
  | .in_ => .In
  | .nin => .NotIn
def rCmp (Δ : Nm) (op : Cop) : R2 := fun x y H Q => ∃ F d e b, Sub F H ∧ View Δ F H x d ∧ View Δ F H y e ∧ cmpD op d e = some b ∧ Q (.bl b) H
theorem any_py {n : Nat} {d : D} (hd : okD n d = true) : ∀ {ds : List D}, okDs n ds = true → ((toPys ds).any fun z => PyData.eqv z (toPy d)) = ds.any fun z => eqb z d
  | [], _ => by rw [toPys]; rfl
  | x :: xs, h => by
    rw [okDs, Bool.and_eq_true] at h
    rw [toPys, List.any_cons, List.any_cons, any_py hd h.2, eqv_py n n x d h.1 hd]
section
variable {X : Cx} {Δ : Nm} {pins : List (Addr × Obj)} {s : Shared} {σ : L2.St} {H F : Hp} {x y : V} {v u : Value} {Q : VK} {d e : D} {b : Bool}
theorem units64 {A : Around} (hu : A.units + 70 < cLine) : A.units + 64 < cLine := by omega
theorem in_seq (hK : X.K = Δ.K) (hu : X.A.units + 70 < cLine) (I : L2.Inv X pins σ H s) (rx : L2.RelV x v) (ry : L2.RelV y u) (sub : Sub F H) (vx : View Δ F H x d) {ds : List D} (vy : View Δ F H y (.tup ds) ∨ View Δ F H y (.lst ds)) (h : inD d ds = some b) (q : Q (.bl b) H) :
    wpAny (model X.prog X.w) X.A (compareOp .In v u) (EP X pins σ Q) X.xe s := by
  unfold inD at h
  obtain ⟨hk, rfl⟩ := some_if h
  rw [Bool.and_eq_true] at hk
  rw [← any_py hk.1 hk.2] at q
  obtain ⟨as, r1⟩ := Dp.reads I _ _ _ (hK ▸ vx.dp sub hk.1) rx
  obtain ⟨h1, h2⟩ := okD_lay _ _ hk.1
  obtain ⟨h3, h4⟩ := okDs_lay _ _ hk.2
  have hroom : X.A.units + 1 + min (PyData.depthAll (toPys ds)) (toPy d).depth < cLine := by
    have := Nat.min_le_right (PyData.depthAll (toPys ds)) (toPy d).depth
    omega
  rcases View.dps sub vy hk.2 with z | z
  · obtain ⟨bs, r2⟩ := Dp.reads I _ _ _ (hK ▸ z) ry
    exact SeqAt.in_list_reads r2 r1 h3 h1 hroom ⟨.bl _, H, I, rfl, q⟩
  · obtain ⟨bs, r2⟩ := Dp.reads I _ _ _ (hK ▸ z) ry
    exact SeqAt.in_tuple_reads r2 r1 h3 h1 hroom ⟨.bl _, H, I, rfl, q⟩
theorem nin_seq (hK : X.K = Δ.K) (hu : X.A.units + 70 < cLine) (I : L2.Inv X pins σ H s) (rx : L2.RelV x v) (ry : L2.RelV y u) (sub : Sub F H) (vx : View Δ F H x d) {ds : List D} (vy : View Δ F H y (.tup ds) ∨ View Δ F H y (.lst ds)) (h : inD d ds = some b) (q : Q (.bl (!b)) H) :
    wpAny (model X.prog X.w) X.A (compareOp .NotIn v u) (EP X pins σ Q) X.xe s := by
  unfold inD at h
  obtain ⟨hk, rfl⟩ := some_if h
  rw [Bool.and_eq_true] at hk
  rw [← any_py hk.1 hk.2] at q
  obtain ⟨as, r1⟩ := Dp.reads I _ _ _ (hK ▸ vx.dp sub hk.1) rx
  obtain ⟨h1, h2⟩ := okD_lay _ _ hk.1
  obtain ⟨h3, h4⟩ := okDs_lay _ _ hk.2
  have hroom : X.A.units + 1 + min (PyData.depthAll (toPys ds)) (toPy d).depth < cLine := by
    have := Nat.min_le_right (PyData.depthAll (toPys ds)) (toPy d).depth
    omega
  rcases View.dps sub vy hk.2 with z | z
  · obtain ⟨bs, r2⟩ := Dp.reads I _ _ _ (hK ▸ z) ry
    exact SeqAt.notIn_list_reads r2 r1 h3 h1 hroom ⟨.bl _, H, I, rfl, q⟩
  · obtain ⟨bs, r2⟩ := Dp.reads I _ _ _ (hK ▸ z) ry
    exact SeqAt.notIn_tuple_reads r2 r1 h3 h1 hroom ⟨.bl _, H, I, rfl, q⟩
theorem map_some {α β : Type} {o : Option α} {f : α → β} {b : β} (h : o.map f = some b) : ∃ a, o = some a ∧ f a = b := by
  cases o with
  | none => cases h
  | some a => exact ⟨a, rfl, Option.some.inj h⟩
/-- what an order asks, as the library has it -/
theorem lt_ready (hK : X.K = Δ.K) (hu : X.A.units + 70 < cLine) (I : L2.Inv X pins σ H s) (rx : L2.RelV x v) (ry : L2.RelV y u) (sub : Sub F H) (vx : View Δ F H x d) (vy : View Δ F H y e) (h : ltD d e = some b) :
    ∃ as bs, Reads s.heap v (toPy d) as ∧ Reads s.heap u (toPy e) bs ∧ PySem.W.alike (toPy d) (toPy e) = true ∧ toPy d ≠ .none ∧ X.A.units + min (toPy d).depth (toPy e).depth < cLine ∧ PySem.W.dataLt (toPy d) (toPy e) = b := by
  unfold ltD at h
  obtain ⟨hk, rfl⟩ := some_if h
  simp only [Bool.and_eq_true, cmpOk] at hk
  obtain ⟨⟨⟨h1, h2⟩, h3⟩, h4⟩ := hk
  obtain ⟨as, r1⟩ := Dp.reads I _ _ _ (hK ▸ vx.dp sub h1) rx
  obtain ⟨bs, r2⟩ := Dp.reads I _ _ _ (hK ▸ vy.dp sub h2) ry
  obtain ⟨_, h5⟩ := okD_lay _ _ h1
  refine ⟨as, bs, r1, r2, by rw [alike_py 8 8 d e h1 h2, h3], fun z => ?_, ?_, lt_py 8 8 d e h1 h2 h3⟩
  · cases d <;> first | (rw [notNon] at h4; cases h4; done) | (rw [toPy] at z; cases z; done) | (rw [okD] at h1; cases h1)
  · have := Nat.min_le_left (toPy d).depth (toPy e).depth
    omega
theorem in_dct {t : Bool} {kvs : List (D × D)} (hu : X.A.units + 70 < cLine) (I : L2.Inv X pins σ H s) (rx : L2.RelV x v) (ry : L2.RelV y u) (sub : Sub F H) (vx : View Δ F H x d) (vy : View Δ F H y (.dct t kvs)) (h : (if keyOk t d = true then some (dget kvs d).isSome else none) = some b) (q : Q (.bl b) H) :
    wpAny (model X.prog X.w) X.A (compareOp .In v u) (EP X pins σ Q) X.xe s := by
  obtain ⟨hk, rfl⟩ := some_if h
  obtain ⟨a, r, rfl, g, e⟩ := dget_view sub vy vx hk
  obtain rfl : u = Value.ref a := ry
  refine d_in (by omega) I g rx fun s' I' => ⟨.bl r.isSome, H, I', rfl, ?_⟩
  rcases e with ⟨w, d', e1, e2, _⟩ | ⟨e1, e2⟩
  · rw [e1]; rw [e2] at q; exact q
  · rw [e1]; rw [e2] at q; exact q
theorem nin_dct {t : Bool} {kvs : List (D × D)} (hu : X.A.units + 70 < cLine) (I : L2.Inv X pins σ H s) (rx : L2.RelV x v) (ry : L2.RelV y u) (sub : Sub F H) (vx : View Δ F H x d) (vy : View Δ F H y (.dct t kvs)) (h : (if keyOk t d = true then some (!(dget kvs d).isSome) else none) = some b) (q : Q (.bl b) H) :
    wpAny (model X.prog X.w) X.A (compareOp .NotIn v u) (EP X pins σ Q) X.xe s := by
  obtain ⟨hk, rfl⟩ := some_if h
  obtain ⟨a, r, rfl, g, e⟩ := dget_view sub vy vx hk
  obtain rfl : u = Value.ref a := ry
  refine d_notIn (by omega) I g rx fun s' I' => ⟨.bl (!r.isSome), H, I', rfl, ?_⟩
  rcases e with ⟨w, d', e1, e2, _⟩ | ⟨e1, e2⟩
  · rw [e1]; rw [e2] at q; exact q
  · rw [e1]; rw [e2] at q; exact q
theorem op_cmp (hK : X.K = Δ.K) (hu : X.A.units + 70 < cLine) (op : Cop) : OpR X (compareOp (copOf op)) (rCmp Δ op) := by
  intro pins s σ H x y v u Q I rx ry h
  obtain ⟨F, d, e, b, sub, vx, vy, hb, q⟩ := h
  have eqs : ∀ b, eqD d e = some b → Dp X.K H x (toPy d) ∧ Dp X.K H y (toPy e) ∧ SeqAt.shaped (toPy d) = true ∧ SeqAt.shaped (toPy e) = true ∧ PyData.eqv (toPy d) (toPy e) = b := fun b hb => by
    unfold eqD at hb
    obtain ⟨hk, rfl⟩ := some_if hb
    simp only [Bool.and_eq_true, cmpOk] at hk
    exact ⟨hK ▸ vx.dp sub hk.1, hK ▸ vy.dp sub hk.2, okD_shaped (by decide) hk.1, okD_shaped (by decide) hk.2, eqv_py 8 8 d e hk.1 hk.2⟩
  unfold cmpD at hb
  split at hb
  · obtain ⟨h1, h2, h3, h4, h5⟩ := eqs b hb
    exact op_eqD (units64 hu) pins s σ H x y v u Q I rx ry ⟨_, _, h1, h2, h3, h4, by rw [h5]; exact q⟩
  · obtain ⟨c, hc, rfl⟩ := map_some hb
    obtain ⟨h1, h2, h3, h4, h5⟩ := eqs c hc
    exact op_neD (units64 hu) pins s σ H x y v u Q I rx ry ⟨_, _, h1, h2, h3, h4, by rw [h5]; exact q⟩
  · obtain ⟨as, bs, r1, r2, h1, h2, h3, h4⟩ := lt_ready hK hu I rx ry sub vx vy hb
    exact PySem.W.lt_data r1 r2 h1 h2 h3 ⟨.bl _, H, I, rfl, by rw [h4]; exact q⟩
  · obtain ⟨bs, as, r2, r1, h1, h2, h3, h4⟩ := lt_ready hK hu I ry rx sub vy vx hb
    exact PySem.W.gt_data r1 r2 (by rw [PySem.W.alike_comm]; exact h1) (PySem.W.ne_none_both h1 h2) (by rw [Nat.min_comm]; exact h3) ⟨.bl _, H, I, rfl, by rw [h4]; exact q⟩
  · cases hb
    exact op_le pins s σ H x y v u Q I rx ry ⟨_, _, vx.int, vy.int, q⟩
  · obtain ⟨c, hc, rfl⟩ := map_some hb
    obtain ⟨bs, as, r2, r1, h1, h2, h3, h4⟩ := lt_ready hK hu I ry rx sub vy vx hc
    exact PySem.W.le_data r1 r2 (by rw [PySem.W.alike_comm]; exact h1) (PySem.W.ne_none_both h1 h2) (by rw [Nat.min_comm]; exact h3) ⟨.bl _, H, I, rfl, by rw [h4]; exact q⟩
  · cases hb
    exact op_ge pins s σ H x y v u Q I rx ry ⟨_, _, vx.int, vy.int, q⟩
  · obtain ⟨c, hc, rfl⟩ := map_some hb
    obtain ⟨as, bs, r1, r2, h1, h2, h3, h4⟩ := lt_ready hK hu I rx ry sub vx vy hc
    exact PySem.W.ge_data r1 r2 h1 h2 h3 ⟨.bl _, H, I, rfl, by rw [h4]; exact q⟩
  · exact in_seq hK hu I rx ry sub vx (.inl vy) hb q
  · exact in_seq hK hu I rx ry sub vx (.inr vy) hb q
  · exact in_dct hu I rx ry sub vx vy hb q
  · obtain ⟨c, hc, rfl⟩ := map_some hb
    exact nin_seq hK hu I rx ry sub vx (.inl vy) hc q
  · obtain ⟨c, hc, rfl⟩ := map_some hb
    exact nin_seq hK hu I rx ry sub vx (.inr vy) hc q
  · exact nin_dct hu I rx ry sub vx vy hb q
  · cases hb
end
end CL

set_option autoImplicit false
set_option linter.all false
set_option Elab.async false
set_option maxRecDepth 100000
set_option maxHeartbeats 1000000
/-! CLBi: calls of builtins. -/
namespace CL
open PySem PySem.Spec PyProof.Rows L2

def biVal : Bi → Value
  | .len => .builtin "len"
  | .abs => .builtin "abs"
  | .int => .type "int"
  | .tuple => .type "tuple"
  | .list => .type "list"
  | .dict => .type "dict"
  | .all => .builtin "all"
  | .any => .builtin "any"
  | .sum => .builtin "sum"
  | .min1 => .builtin "min"
  | .max1 => .builtin "max"
  | .min2 => .builtin "min"
  | .max2 => .builtin "max"
  | .sorted => .builtin "sorted"
  | .sset => .none
  | .iset => .none
  | .lset => .none
  | .sortd => .none
  | .sum2 => .none
  | .str => .type "str"
  | .repr => .builtin "repr"
def rBi (Δ : Nm) (f : Bi) : List V → Hp → VK → Prop := fun vs H Q => ∃ F ds c, Sub F H ∧ Paired (View Δ F H) vs ds ∧ biD f ds = some c ∧ ∀ v H' F', Made Δ F H c v H' F' → Q v H'
section
variable {Δ : Nm} {F H : Hp}
theorem reps_ints : ∀ {vs : List V} {ds : List D} {ns : List Int}, Reps Δ F vs ds → ints? ds = some ns → vs = ns.map V.int
  | _, _, ns, .nil, h => by rw [ints?] at h; cases h; rfl
  | _, _, ns, .cons (d := d) q r, h => by
    cases q <;> simp only [ints?] at h <;> try (cases h)
    obtain ⟨ms, h1, rfl⟩ := map_some h
    rw [List.map_cons, reps_ints r h1]
theorem reps_bls : ∀ {vs : List V} {ds : List D} {ns : List Bool}, Reps Δ F vs ds → bls? ds = some ns → vs = ns.map V.bl
  | _, _, ns, .nil, h => by rw [bls?] at h; cases h; rfl
  | _, _, ns, .cons (d := d) q r, h => by
    cases q <;> simp only [bls?] at h <;> try (cases h)
    obtain ⟨ms, h1, rfl⟩ := map_some h
    rw [List.map_cons, reps_bls r h1]
theorem pd1 {vs : List V} {d : D} (h : Paired (View Δ F H) vs [d]) : ∃ v, vs = [v] ∧ View Δ F H v d := by
  cases h with
  | cons h1 h2 => cases h2; exact ⟨_, rfl, h1⟩
theorem pd2 {vs : List V} {d e : D} (h : Paired (View Δ F H) vs [d, e]) : ∃ v u, vs = [v, u] ∧ View Δ F H v d ∧ View Δ F H u e := by
  cases h with
  | cons h1 h2 => cases h2 with
    | cons h3 h4 => cases h4; exact ⟨_, _, rfl, h1, h3⟩
variable {X : Cx}
/-- sum of a tuple of ints -/
theorem cr_sumT (hc : X.calm = true) : CallR X (.builtin "sum") (fun vs H Q => ∃ (a : Addr) (ns : List Int), vs = [V.ref a] ∧ SqT X.K H a (ns.map V.int) ∧ Q (.int ns.sum) H) := by
  intro pins s σ H vs us Q I r h
  obtain ⟨a, ns, rfl, hs, q⟩ := h
  obtain ⟨its, rv, hl, _⟩ := I.tuple hs
  rw [Vals.ref1 r]
  have hi := rv.ints
  obtain ⟨xs, e⟩ := hi.allInts.items
  have hn : numsOf (intItems xs).toList = ns := by rw [← e]; exact hi.numsOf
  rw [nums_intItems] at hn
  rw [e] at hl
  refine PySem.W.ktm_sumG (I.ok.hd hc) hl fun h' tk t' hk => ?_
  refine ⟨.int ns.sum, H, I.kept hk, ⟨t', ?_⟩, q⟩
  congr 1
  rw [preSum_eq, List.take_of_length_le (by simp), hn]
theorem d_lenT {pins : List (Addr × Obj)} {s : Shared} {σ : L2.St} {A : Around} {a : Addr} {kvs : List (List Key × V)} {E : Value → Shared → Prop} {Q : Value → Shared → Prop} (I : L2.Inv X pins σ H s) (e : Rd H a (.dT kvs)) (h : ∀ t s', L2.Inv X pins σ H s' → Q (.int kvs.length t) s') : wpAny (model X.prog X.w) A (call (.builtin "len") [.ref a]) Q E s := by
  obtain ⟨z, hd, ys, rel, dd⟩ := dt_rd I.hok e
  have hl : kvs.length = ys.length := Paired.length rel
  refine call_len_dictH hd dd (by rw [← hl]; rw [sizeLine_eq] at z; omega) ?_
  rw [← hl]
  exact h _ _ (I.tok _)
theorem keys_list : ∀ {ks : List (Key × V)} {kvs : List (D × D)}, RepKs Δ F ks kvs → Reps Δ F (ks.map fun kv => kV kv.1) (kvs.map (·.1))
  | _, _, .nil => .nil
  | _, _, .cons (k := k) h r => .cons (by cases k <;> first | exact .int _ | exact .str _) (keys_list r)
theorem reps_keys' : ∀ ks : List Key, Reps Δ F (ks.map kV) (ks.map keyD)
  | [] => .nil
  | k :: ks => .cons (by cases k <;> first | exact .int _ | exact .str _) (reps_keys' ks)
theorem keysT_list {H : Hp} : ∀ {ks : List (List Key × V)} {kvs : List (D × D)} {bs : List Addr}, RepTs Δ F ks kvs → IsKeys H ks bs → ∃ qs : List (Addr × List V), (∀ q ∈ qs, H q.1 = some (.tup q.2)) ∧ ∀ F1, (∀ q ∈ qs, F1 q.1 = some (.tup q.2)) → Reps Δ F1 (bs.map V.ref) (kvs.map (·.1))
  | _, _, _, .nil, hk => by
    unfold IsKeys at hk
    cases hk
    exact ⟨[], (fun q m => by cases m), fun F1 _ => .nil⟩
  | _, _, _, .cons (k := k) h r, hk => by
    unfold IsKeys at hk
    cases hk with
    | @cons _ b _ bs hb t =>
      obtain ⟨qs, h1, h2⟩ := keysT_list r t
      refine ⟨(b, k.map kV) :: qs, fun q m => ?_, fun F1 h3 => .cons (.tup (h3 (b, k.map kV) List.mem_cons_self) (reps_keys' k)) (h2 F1 fun q m => h3 q (List.mem_cons_of_mem _ m))⟩
      rcases List.mem_cons.mp m with rfl | m
      · exact hb
      · exact h1 q m
theorem keysT_made {H : Hp} {ks : List (List Key × V)} {kvs : List (D × D)} {bs : List Addr} {p : Addr} (sub : Sub F H) (hp : H p = none) (r : RepTs Δ F ks kvs) (hb : IsKeys H ks bs) : ∃ F', Made Δ F H (.ol (kvs.map (·.1))) (.ref p) (upd H p (.lst (bs.map V.ref))) F' ∧ True := by
  obtain ⟨qs, h1, h2⟩ := keysT_list r hb
  exact Made.also_all qs sub h1 fun F1 ex s all => ⟨F1, .own hp ⟨_, upd_same, h2 F1 all⟩, trivial⟩
/-- those of biD that stand here -/
def plainBi : Bi → Bool
  | .min1 => false
  | .max1 => false
  | .sset => false
  | .iset => false
  | .lset => false
  | .dict => false
  | .sorted => false
  | .sortd => false
  | .sum2 => false
  | _ => true
theorem cr_bi (hK : X.K = Δ.K) (hc : X.calm = true) (f : Bi) (hf : plainBi f = true) : CallR X (biVal f) (rBi Δ f) := by
  intro pins s σ H vs us Q I rs h
  obtain ⟨F, ds, c, sub, hv, hb, q⟩ := h
  unfold biD at hb
  split at hb
  · cases hb
    obtain ⟨v, rfl, w⟩ := pd1 hv
    obtain ⟨a, xs, rfl, h1, h2, h3⟩ := w.tup sub
    exact call_len_seq pins s σ H _ us Q I rs ⟨a, xs, rfl, .inr (hK ▸ h1), by rw [h2.length]; exact q _ _ _ .int⟩
  · cases hb
    obtain ⟨v, rfl, w⟩ := pd1 hv
    obtain ⟨a, xs, rfl, h1, h2⟩ := w.lst sub
    exact call_len_seq pins s σ H _ us Q I rs ⟨a, xs, rfl, .inl (.inl h1), by rw [h2.length]; exact q _ _ _ .int⟩
  · cases hb
    obtain ⟨v, rfl, w⟩ := pd1 hv
    obtain ⟨a, rfl, ⟨ks, h1, h2⟩ | ⟨ks, h1, h2⟩⟩ := w.dct sub
    · rw [Vals.ref1 rs]
      exact d_len I h1 fun t s' I' => ⟨.int _, H, I', ⟨_, rfl⟩, by rw [h2.length]; exact q _ _ _ .int⟩
    · rw [Vals.ref1 rs]
      exact d_lenT I h1 fun t s' I' => ⟨.int _, H, I', ⟨_, rfl⟩, by rw [h2.length]; exact q _ _ _ .int⟩
  · obtain ⟨hl, hb⟩ := some_if hb
    subst hb
    obtain ⟨v, rfl, w⟩ := pd1 hv
    exact call_len_str pins s σ H _ us Q I rs ⟨_, by rw [w.str], limS hl, q _ _ _ .int⟩
  · cases hb
    obtain ⟨v, rfl, w⟩ := pd1 hv
    exact call_abs pins s σ H _ us Q I rs ⟨_, by rw [w.int], q _ _ _ .int⟩
  · cases hb
    obtain ⟨v, rfl, w⟩ := pd1 hv
    exact call_int1 pins s σ H _ us Q I rs (.inl ⟨_, by rw [w.int], q _ _ _ .int⟩)
  · cases hb
    obtain ⟨v, rfl, w⟩ := pd1 hv
    exact call_int1 pins s σ H _ us Q I rs (.inr ⟨_, by rw [w.bl], q _ _ _ .int⟩)
  · cases hb
    obtain ⟨v, rfl, w⟩ := pd1 hv
    obtain ⟨a, xs, rfl, h1, h2, h3⟩ := w.tup sub
    exact call_tuple_of pins s σ H _ us Q I rs ⟨a, xs, rfl, .inr ⟨hK ▸ h1, q _ _ _ (.old h3)⟩⟩
  · cases hb
    obtain ⟨v, rfl, w⟩ := pd1 hv
    obtain ⟨a, xs, rfl, h1, h2⟩ := w.lst sub
    exact call_tuple_of pins s σ H _ us Q I rs ⟨a, xs, rfl, .inl ⟨.inl h1, fun l hl => q _ _ _ (.tup sub hl h2)⟩⟩
  · cases hb
    obtain ⟨v, rfl, w⟩ := pd1 hv
    obtain ⟨a, xs, rfl, h1, h2, h3⟩ := w.tup sub
    exact call_list_of pins s σ H _ us Q I rs ⟨a, xs, rfl, .inr (hK ▸ h1), fun l hl => q _ _ _ (.lst hl h2)⟩
  · cases hb
    obtain ⟨v, rfl, w⟩ := pd1 hv
    obtain ⟨a, xs, rfl, h1, h2⟩ := w.lst sub
    exact call_list_of pins s σ H _ us Q I rs ⟨a, xs, rfl, .inl (.inl h1), fun l hl => q _ _ _ (.lst hl h2)⟩
  · rename_i t kvs
    cases hb
    obtain ⟨v, rfl, w⟩ := pd1 hv
    cases t with
    | false =>
      obtain ⟨a, ks, rfl, h1, r⟩ := w.dk sub
      exact call_listD hc pins s σ H _ us Q I rs ⟨a, ks, rfl, h1, fun p hp => q _ _ _ (.own hp ⟨_, upd_same, keys_list r⟩)⟩
    | true =>
      obtain ⟨a, ks, rfl, h1, r⟩ := w.dt sub
      refine call_list_dT hc pins s σ H _ us Q I rs ⟨a, ks, rfl, h1, fun p bs hp hb => ?_⟩
      obtain ⟨F', m, _⟩ := keysT_made sub hp r hb
      exact q _ _ _ m
  · cases hf
  · obtain ⟨bs, hb2, rfl⟩ := map_some hb
    obtain ⟨v, rfl, w⟩ := pd1 hv
    obtain ⟨a, xs, rfl, h1, h2⟩ := w.lst sub
    exact cr_all hc pins s σ H _ us Q I rs ⟨a, bs, rfl, .inl (by rw [← reps_bls h2 hb2]; exact h1), q _ _ _ .bl⟩
  · obtain ⟨bs, hb2, rfl⟩ := map_some hb
    obtain ⟨v, rfl, w⟩ := pd1 hv
    obtain ⟨a, xs, rfl, h1, h2⟩ := w.lst sub
    exact cr_any hc pins s σ H _ us Q I rs ⟨a, bs, rfl, .inl (by rw [← reps_bls h2 hb2]; exact h1), q _ _ _ .bl⟩
  · obtain ⟨bs, hb2, rfl⟩ := map_some hb
    obtain ⟨v, rfl, w⟩ := pd1 hv
    obtain ⟨a, xs, rfl, h1, h2⟩ := w.lst sub
    exact cr_sum hc pins s σ H _ us Q I rs ⟨a, bs, rfl, .inl (by rw [← reps_ints h2 hb2]; exact h1), q _ _ _ .int⟩
  · obtain ⟨bs, hb2, rfl⟩ := map_some hb
    obtain ⟨v, rfl, w⟩ := pd1 hv
    obtain ⟨a, xs, rfl, h1, h2, h3⟩ := w.tup sub
    exact cr_sumT hc pins s σ H _ us Q I rs ⟨a, bs, rfl, by rw [← reps_ints h2 hb2]; exact hK ▸ h1, q _ _ _ .int⟩
  · cases hb
    obtain ⟨v, u, rfl, w1, w2⟩ := pd2 hv
    exact call_min2 hc pins s σ H _ us Q I rs ⟨_, _, by rw [w1.int, w2.int], q _ _ _ .int⟩
  · cases hb
    obtain ⟨v, u, rfl, w1, w2⟩ := pd2 hv
    exact call_max2 hc pins s σ H _ us Q I rs ⟨_, _, by rw [w1.int, w2.int], q _ _ _ .int⟩
  all_goals first | (cases hf; done) | cases hb
end
end CL

set_option autoImplicit false
set_option linter.all false
set_option Elab.async false
set_option maxRecDepth 100000
set_option maxHeartbeats 1000000
/-! CLEx: expressions. -/
namespace CL
open PySem PySem.Spec PyProof.Rows L2

def wpW (X : Cx) (e : Expr) : TT := fun σ H Q => ∀ (whole : Sem Value) (pins : List (Addr × Obj)) (s : Shared), Inv X pins σ H s → wpAny (model X.prog X.w) X.A (isTrue e X.env whole) (TP X pins σ Q) X.xe s
section
variable {X : Cx}
theorem pw0 (e : Expr) : PW X e (wpW X e) := ⟨fun whole pins s σ H Q I h => h whole pins s I⟩
theorem wpW_of {e : Expr} {t : TT} (h : PW X e t) {σ : L2.St} {H : Hp} {Q : Bool → Hp → Prop} (q : t σ H Q) : wpW X e σ H Q := fun whole pins s I => h.run whole pins s σ H Q I q
end
def SndW (X : Cx) (Δ : Nm) (Γ : Ctx) (e : Expr) (e' : E) : Prop := ∀ ⦃τ σ H F⦄, Ag Δ τ σ H F → ∀ ⦃Q⦄, PostG X Δ (GB Δ Q) τ σ H F (evc Γ (some e') τ) → wpW X e σ H Q

theorem Res.bind_bind {α β γ : Type} (r : Res α) (f : α → CL.St → Res β) (k : β → CL.St → Res γ) : (r.bind f).bind k = r.bind fun a σ => (f a σ).bind k := by
  cases r <;> rfl
theorem Res.bind_congr {α β : Type} {r : Res α} {f k : α → CL.St → Res β} (h : ∀ a σ, f a σ = k a σ) : r.bind f = r.bind k := by
  cases r <;> first | rfl | exact h _ _
theorem evc_eq (Γ : Ctx) (e : E) (σ : CL.St) : evc Γ (some e) σ = (ev Γ e σ).bind fun x σ1 => match vw x σ1 with
    | some (.bl b) => .ok b σ1
    | _ => .no := by first | (rw [evc]; done) | (rw [evc]; rfl)
/-- what has a test in it -/
theorem ife_eq (Γ : Ctx) (t a b : E) (σ : CL.St) : ev Γ (.ife t a b) σ = (evc Γ (some t) σ).bind fun k σ1 => match k with
      | true => ev Γ a σ1
      | false => ev Γ b σ1 := by
  rw [ev, evc_eq, Res.bind_bind]
  refine Res.bind_congr fun o σ1 => ?_
  cases vw o σ1 with
  | none => rfl
  | some d => cases d with
    | bl k => cases k <;> rfl
    | _ => rfl
theorem and_eq (Γ : Ctx) (t a b : E) (σ : CL.St) : ev Γ (.and_ t b) σ = (evc Γ (some t) σ).bind fun k σ1 => match k with
      | true => ev Γ b σ1
      | false => .ok (.c (.val (.bl false))) σ1 := by
  rw [ev, evc_eq, Res.bind_bind]
  refine Res.bind_congr fun o σ1 => ?_
  cases vw o σ1 with
  | none => rfl
  | some d => cases d with
    | bl k => cases k <;> rfl
    | _ => rfl
theorem or_eq (Γ : Ctx) (t a b : E) (σ : CL.St) : ev Γ (.or_ t b) σ = (evc Γ (some t) σ).bind fun k σ1 => match k with
      | true => .ok (.c (.val (.bl true))) σ1
      | false => ev Γ b σ1 := by
  rw [ev, evc_eq, Res.bind_bind]
  refine Res.bind_congr fun o σ1 => ?_
  cases vw o σ1 with
  | none => rfl
  | some d => cases d with
    | bl k => cases k <;> rfl
    | _ => rfl
section
variable {X : Cx} {Δ : Nm} {Γ : Ctx} {pos : Pos}
theorem SndW.t {e : Expr} {e' : E} (h : SndW X Δ Γ e e') : SndT X Δ Γ e e' := by
  intro τ σ H F g Q hQ
  exact wpT_of (pw0 e).pt (h g hQ)

/-! ### names, constants -/
theorem s_name {i : Nat} {x : Str} (hN : X.N[i]? = some x) (hv : Vis X.env.scope x) (hd : (x == ("__debug__" : Str)) = false) (hcd : (x == ("__classdict__" : Str)) = false) : SndE X Δ Γ (.Name x pos) (.name i) := by
  intro τ σ H F g Q hQ
  rw [ev] at hQ
  cases e : get τ i with
  | none => rw [e] at hQ; exact hQ.elim
  | some x =>
    obtain ⟨v, hσ, r⟩ := g.at_ i x e
    refine wpE_of (pe_var hN hv hd hcd) ⟨v, hσ, ?_⟩
    rw [e] at hQ
    cases x with
    | val d => exact hQ v H F (.refl g) r
    | ol d => exact hQ v H F (.refl g) hσ
    | od t d => exact hQ v H F (.refl g) hσ
    | oi c d => exact hQ v H F (.refl g) hσ
theorem s_int {i : Int} {j} : SndE X Δ Γ (.Constant (.int i) j pos) (.int i) := by
  intro τ σ H F g Q hQ
  rw [ev] at hQ
  exact wpE_of pe_int (made_done g hQ _ _ _ .int)
theorem s_bl {i : Bool} {j} : SndE X Δ Γ (.Constant (.bool i) j pos) (.bl i) := by
  intro τ σ H F g Q hQ
  rw [ev] at hQ
  exact wpE_of pe_bl (made_done g hQ _ _ _ .bl)
theorem s_non {j} : SndE X Δ Γ (.Constant .none j pos) .non := by
  intro τ σ H F g Q hQ
  rw [ev] at hQ
  exact wpE_of pe_non (made_done g hQ _ _ _ (.old .non))
theorem s_str {i : Str} {j} : SndE X Δ Γ (.Constant (.str i) j pos) (.str i) := by
  intro τ σ H F g Q hQ
  rw [ev] at hQ
  exact wpE_of pe_str (made_done g hQ _ _ _ .str)
theorem s_glob {x : Str} {n : Nat} {v : V} {u : Value} {d : D} (hg : Gl X x) (hm : X.mg x = some u) (r : RelV v u) (hc : Γ.cst n = some d) (hr : ∀ F, Rep Δ F v d) (hd : (x == ("__debug__" : Str)) = false) : SndE X Δ Γ (.Name x pos) (.glob n) := by
  intro τ σ H F g Q hQ
  rw [ev, hc] at hQ
  exact wpE_of (pe_glob hg hm r hd) (made_done g hQ _ _ _ (.old (hr F)))
theorem s_fnv {x : Str} {n : Nat} (hg : Gl X x) (hm : X.mg x = some (.ref (Δ.fn n))) (hd : (x == ("__debug__" : Str)) = false) : SndE X Δ Γ (.Name x pos) (.fnv n) := by
  intro τ σ H F g Q hQ
  rw [ev] at hQ
  exact wpE_of (pe_glob (v := .ref (Δ.fn n)) hg hm rfl hd) (made_done g hQ _ _ _ (.old (.fn n)))

/-! ### operators -/
variable {a b c : Expr} {a' b' c' : E}
theorem s_bin (hK : X.K = Δ.K) (op : Bop) (ha : SndE X Δ Γ a a') (hb : SndE X Δ Γ b b') : SndE X Δ Γ (.BinOp a (opOf op) b pos) (.bin op a' b') := by
  intro τ σ H F g Q hQ
  rw [ev] at hQ
  refine wpE_of (pe_op (op_bin hK op) (pe0 a) (pe0 b)) ?_
  refine ha.bind GE.shift g hQ fun x τ1 v H1 F1 p1 r1 hQ => ?_
  refine hb.bind GE.shift p1.ag hQ fun y τ2 u H2 F2 p2 r2 hQ => ?_
  have r1 := r1.step g p1 p2
  cases e1 : vw x τ2 with
  | none => rw [e1] at hQ; exact hQ.elim
  | some d =>
    cases e2 : vw y τ2 with
    | none => rw [e1, e2] at hQ; exact hQ.elim
    | some f =>
      rw [e1, e2] at hQ
      cases e3 : binD op d f with
      | none => simp only [e3] at hQ; exact hQ.elim
      | some z =>
        simp only [e3] at hQ
        exact ⟨F2, d, f, z, p2.ag.sub, r1.view p2.ag e1, r2.view p2.ag e2, e3, made_done p2.ag hQ⟩
theorem s_neg (ha : SndE X Δ Γ a a') : SndE X Δ Γ (.UnaryOp .USub a pos) (.neg a') := by
  intro τ σ H F g Q hQ
  rw [ev] at hQ
  refine wpE_of (pe_un un_neg (pe0 a)) ?_
  refine ha.bind GE.shift g hQ fun x τ1 v H1 F1 p1 r1 hQ => ?_
  cases e1 : vw x τ1 with
  | none => rw [e1] at hQ; exact hQ.elim
  | some d =>
    rw [e1] at hQ
    cases d <;> first | exact hQ.elim | skip
    exact ⟨_, (r1.view p1.ag e1).int, made_done p1.ag hQ _ _ _ .int⟩
theorem s_cmp (hK : X.K = Δ.K) (hu : X.A.units + 70 < cLine) (op : Cop) (hm : behindInMarks (copOf op) b = false) (ha : SndE X Δ Γ a a') (hb : SndE X Δ Γ b b') : SndE X Δ Γ (.Compare a [copOf op] [b] pos) (.cmp op a' b') := by
  intro τ σ H F g Q hQ
  rw [ev] at hQ
  refine wpE_of (pe_cmpR (op_cmp hK hu op) (pe0 a) (pe0 b) hm) ?_
  refine ha.bind GE.shift g hQ fun x τ1 v H1 F1 p1 r1 hQ => ?_
  refine hb.bind GE.shift p1.ag hQ fun y τ2 u H2 F2 p2 r2 hQ => ?_
  have r1 := r1.step g p1 p2
  cases e1 : vw x τ2 with
  | none => rw [e1] at hQ; exact hQ.elim
  | some d =>
    cases e2 : vw y τ2 with
    | none => rw [e1, e2] at hQ; exact hQ.elim
    | some f =>
      rw [e1, e2] at hQ
      cases e3 : cmpD op d f with
      | none => simp only [e3] at hQ; exact hQ.elim
      | some z =>
        simp only [e3] at hQ
        exact ⟨F2, d, f, z, p2.ag.sub, r1.view p2.ag e1, r2.view p2.ag e2, e3, made_done p2.ag hQ _ _ _ .bl⟩
theorem made_test {τ : CL.St} {σ : L2.St} {H F : Hp} {Q : Bool → Hp → Prop} {k : Bool} (g : Ag Δ τ σ H F) (hQ : PostG X Δ (GB Δ Q) τ σ H F ((Res.ok (Opd.c (.val (.bl k))) τ).bind fun x σ1 => match vw x σ1 with
    | some (.bl b) => .ok b σ1
    | _ => .no)) : Q k H := hQ H F (.refl g)
theorem t_cmp (hK : X.K = Δ.K) (hu : X.A.units + 70 < cLine) (op : Cop) (hm : behindInMarks (copOf op) b = false) (ha : SndE X Δ Γ a a') (hb : SndE X Δ Γ b b') : SndT X Δ Γ (.Compare a [copOf op] [b] pos) (.cmp op a' b') := by
  intro τ σ H F g Q hQ
  rw [evc_eq, ev, Res.bind_bind] at hQ
  refine wpT_of (pt_cmpR (op_cmp hK hu op) (pe0 a) (pe0 b) hm) ?_
  refine ha.bind GB.shift g hQ fun x τ1 v H1 F1 p1 r1 hQ => ?_
  rw [Res.bind_bind] at hQ
  refine hb.bind GB.shift p1.ag hQ fun y τ2 u H2 F2 p2 r2 hQ => ?_
  have r1 := r1.step g p1 p2
  cases e1 : vw x τ2 with
  | none => rw [e1] at hQ; exact hQ.elim
  | some d =>
    cases e2 : vw y τ2 with
    | none => rw [e1, e2] at hQ; exact hQ.elim
    | some f =>
      rw [e1, e2] at hQ
      cases e3 : cmpD op d f with
      | none => simp only [e3] at hQ; exact hQ.elim
      | some z =>
        simp only [e3] at hQ
        exact ⟨F2, d, f, z, p2.ag.sub, r1.view p2.ag e1, r2.view p2.ag e2, e3, _, rfl, made_test p2.ag hQ⟩
/-- a value as a test -/
theorem t_val {e : Expr} {e' : E} (h : SndE X Δ Γ e e') (he : ∀ whole, isTrue e X.env whole = (do let v ← whole; standAt e.pos; holding [v] (truthy v))) : SndT X Δ Γ e e' := by
  intro τ σ H F g Q hQ
  rw [evc_eq] at hQ
  refine wpT_of (pt_val (pe0 e) he) ?_
  refine h.bind GB.shift g hQ fun x τ1 v H1 F1 p1 r1 hQ => ?_
  cases e1 : vw x τ1 with
  | none => rw [e1] at hQ; exact hQ.elim
  | some d =>
    rw [e1] at hQ
    cases d <;> first | exact hQ.elim | skip
    exact ⟨_, (r1.view p1.ag e1).bl, hQ _ _ (.refl p1.ag)⟩
theorem chain_core (hK : X.K = Δ.K) (hu : X.A.units + 70 < cLine) {α : Type} {G : Tg α} (sg : Shift Δ G) (o1 o2 : Cop) (ha : SndE X Δ Γ a a') (hb : SndE X Δ Γ b b') (hc : SndE X Δ Γ c c') {τ σ H F} (g : Ag Δ τ σ H F) {k : Opd → CL.St → Res α}
    (hQ : PostG X Δ G τ σ H F ((ev Γ (.chain o1 o2 a' b' c') τ).bind k)) {Q : VK} (hk : ∀ (z : Bool) τ1 H1 F1, Ag Δ τ1 σ H1 F1 → PostG X Δ G τ1 σ H1 F1 (k (.c (.val (.bl z))) τ1) → Q (.bl z) H1) :
    tChain (rCmp Δ o1) (rCmp Δ o2) (wpE X a) (wpE X b) (wpE X c) σ H Q := by
  rw [ev, Res.bind_bind] at hQ
  refine ha.bind sg g hQ fun x τ1 v H1 F1 p1 r1 hQ => ?_
  rw [Res.bind_bind] at hQ
  refine hb.bind sg p1.ag hQ fun y τ2 u H2 F2 p2 r2 hQ => ?_
  have r1 := r1.step g p1 p2
  cases e1 : vw x τ2 with
  | none => rw [e1] at hQ; exact hQ.elim
  | some d =>
    cases e2 : vw y τ2 with
    | none => rw [e1, e2] at hQ; exact hQ.elim
    | some f =>
      rw [e1, e2] at hQ
      cases e3 : cmpD o1 d f with
      | none => simp only [e3] at hQ; exact hQ.elim
      | some z =>
        simp only [e3] at hQ
        refine ⟨F2, d, f, z, p2.ag.sub, r1.view p2.ag e1, r2.view p2.ag e2, e3, z, rfl, ?_⟩
        cases z with
        | false =>
          rw [if_neg Bool.false_ne_true]
          exact hk false τ2 H2 F2 p2.ag hQ
        | true =>
          rw [if_pos rfl]
          simp only [Res.bind_bind] at hQ
          refine hc.bind sg p2.ag hQ fun w τ3 t H3 F3 p3 r3 hQ => ?_
          have r2 := r2.step p1.ag p2 p3
          cases e4 : vw y τ3 with
          | none => rw [e4] at hQ; exact hQ.elim
          | some f' =>
            cases e5 : vw w τ3 with
            | none => rw [e4, e5] at hQ; exact hQ.elim
            | some m =>
              rw [e4, e5] at hQ
              cases e6 : cmpD o2 f' m with
              | none => simp only [e6] at hQ; exact hQ.elim
              | some z =>
                simp only [e6] at hQ
                exact ⟨F3, f', m, z, p3.ag.sub, r2.view p3.ag e4, r3.view p3.ag e5, e6, hk z τ3 H3 F3 p3.ag hQ⟩
theorem Res.bind_ok {α : Type} (r : Res α) : r.bind (fun a σ => .ok a σ) = r := by
  cases r <;> rfl
theorem s_chain (hK : X.K = Δ.K) (hu : X.A.units + 70 < cLine) (o1 o2 : Cop) (hm : lastMarks [copOf o1, copOf o2] [b, c] = false) (ha : SndE X Δ Γ a a') (hb : SndE X Δ Γ b b') (hc : SndE X Δ Γ c c') :
    SndE X Δ Γ (.Compare a [copOf o1, copOf o2] [b, c] pos) (.chain o1 o2 a' b' c') := by
  intro τ σ H F g Q hQ
  refine wpE_of (pe_chain (op_cmp hK hu o1) (op_cmp hK hu o2) (pe0 a) (pe0 b) (pe0 c) hm) ?_
  rw [← Res.bind_ok (ev Γ (.chain o1 o2 a' b' c') τ)] at hQ
  exact chain_core hK hu GE.shift o1 o2 ha hb hc g hQ fun z τ1 H1 F1 g1 hQ => made_done g1 hQ _ _ _ .bl
theorem t_chain (hK : X.K = Δ.K) (hu : X.A.units + 70 < cLine) (o1 o2 : Cop) (hm : lastMarks [copOf o1, copOf o2] [b, c] = false) (ha : SndE X Δ Γ a a') (hb : SndE X Δ Γ b b') (hc : SndE X Δ Γ c c') :
    SndT X Δ Γ (.Compare a [copOf o1, copOf o2] [b, c] pos) (.chain o1 o2 a' b' c') := by
  intro τ σ H F g Q hQ
  refine wpT_of (pt_chain (op_cmp hK hu o1) (op_cmp hK hu o2) (pe0 a) (pe0 b) (pe0 c) hm) ?_
  rw [evc_eq] at hQ
  exact chain_core hK hu GB.shift o1 o2 ha hb hc g hQ fun z τ1 H1 F1 g1 hQ => ⟨z, rfl, made_test g1 hQ⟩
theorem View.isnon {F H : Hp} {v : V} {d : D} (h : View Δ F H v d) (n : d ≠ .non) : decide (v = .non) = false := by
  refine decide_eq_false fun e => ?_
  subst e
  rcases h with h | ⟨a, x, e, _⟩
  · cases h; exact n rfl
  · cases e
theorem isN_core {α : Type} {G : Tg α} (sg : Shift Δ G) (neg : Bool) (ha : SndE X Δ Γ a a') {τ σ H F} (g : Ag Δ τ σ H F) {k : Opd → CL.St → Res α}
    (hQ : PostG X Δ G τ σ H F ((ev Γ (.isN a' neg) τ).bind k)) {Q : VK} (hk : ∀ (z : Bool) τ1 H1 F1, Ag Δ τ1 σ H1 F1 → PostG X Δ G τ1 σ H1 F1 (k (.c (.val (.bl z))) τ1) → Q (.bl z) H1) :
    wpE X a σ H (fun x H1 => Q (.bl (if neg then !decide (x = .non) else decide (x = .non))) H1) := by
  rw [ev, Res.bind_bind] at hQ
  refine ha.bind sg g hQ fun x τ1 v H1 F1 p1 r1 hQ => ?_
  cases e1 : vw x τ1 with
  | none => rw [e1] at hQ; exact hQ.elim
  | some d =>
    rw [e1] at hQ
    have vv := r1.view p1.ag e1
    by_cases hd : d = .non
    · subst hd
      obtain rfl := vv.non
      cases neg with
      | true => exact hk _ τ1 H1 F1 p1.ag hQ
      | false => exact hk _ τ1 H1 F1 p1.ag hQ
    · rw [vv.isnon hd]
      have hQ2 : PostG X Δ G τ1 σ H1 F1 (k (.c (.val (.bl neg))) τ1) := by
        cases d <;> first | exact absurd rfl hd | exact hQ
      cases neg with
      | true => exact hk _ τ1 H1 F1 p1.ag hQ2
      | false => exact hk _ τ1 H1 F1 p1.ag hQ2
def isOp : Bool → CmpOp
  | true => .IsNot
  | false => .Is
theorem s_isN {j p} (neg : Bool) (ha : SndE X Δ Γ a a') : SndE X Δ Γ (.Compare a [isOp neg] [.Constant .none j p] pos) (.isN a' neg) := by
  intro τ σ H F g Q hQ
  rw [← Res.bind_ok (ev Γ (.isN a' neg) τ)] at hQ
  have q := isN_core (Q := Q) GE.shift neg ha g hQ fun z τ1 H1 F1 g1 hQ => made_done g1 hQ _ _ _ .bl
  cases neg with
  | true => exact wpE_of (pe_cmpR op_notN (pe0 a) pe_non (nomark _)) (q.imp fun v H' z => ⟨rfl, z⟩)
  | false => exact wpE_of (pe_cmpR op_isN (pe0 a) pe_non (nomark _)) (q.imp fun v H' z => ⟨rfl, z⟩)
theorem t_isN {j p} (neg : Bool) (ha : SndE X Δ Γ a a') : SndT X Δ Γ (.Compare a [isOp neg] [.Constant .none j p] pos) (.isN a' neg) := by
  intro τ σ H F g Q hQ
  rw [evc_eq] at hQ
  have q := isN_core (Q := fun x H => ∃ k, x = .bl k ∧ Q k H) GB.shift neg ha g hQ fun z τ1 H1 F1 g1 hQ => ⟨z, rfl, made_test g1 hQ⟩
  cases neg with
  | true => exact wpT_of (pt_cmpR op_notN (pe0 a) pe_non (nomark _)) (q.imp fun v H' z => ⟨rfl, z⟩)
  | false => exact wpT_of (pt_cmpR op_isN (pe0 a) pe_non (nomark _)) (q.imp fun v H' z => ⟨rfl, z⟩)
theorem isB_core {α : Type} {G : Tg α} (sg : Shift Δ G) (k2 neg : Bool) (ha : SndE X Δ Γ a a') {τ σ H F} (g : Ag Δ τ σ H F) {k : Opd → CL.St → Res α}
    (hQ : PostG X Δ G τ σ H F ((ev Γ (.isB a' k2 neg) τ).bind k)) {Q : VK} (hk : ∀ (z : Bool) τ1 H1 F1, Ag Δ τ1 σ H1 F1 → PostG X Δ G τ1 σ H1 F1 (k (.c (.val (.bl z))) τ1) → Q (.bl z) H1) :
    wpE X a σ H (fun x H1 => ∃ c : Bool, x = .bl c ∧ Q (.bl ((c == k2) != neg)) H1) := by
  rw [ev, Res.bind_bind] at hQ
  refine ha.bind sg g hQ fun x τ1 v H1 F1 p1 r1 hQ => ?_
  cases e1 : vw x τ1 with
  | none => rw [e1] at hQ; exact hQ.elim
  | some d =>
    rw [e1] at hQ
    have vv := r1.view p1.ag e1
    cases d <;> first | exact hQ.elim | skip
    exact ⟨_, vv.bl, hk _ τ1 H1 F1 p1.ag hQ⟩
theorem s_isB {j p} (k2 neg : Bool) (ha : SndE X Δ Γ a a') : SndE X Δ Γ (.Compare a [isOp neg] [.Constant (.bool k2) j p] pos) (.isB a' k2 neg) := by
  intro τ σ H F g Q hQ
  rw [← Res.bind_ok (ev Γ (.isB a' k2 neg) τ)] at hQ
  have q := isB_core (Q := Q) GE.shift k2 neg ha g hQ fun z τ1 H1 F1 g1 hQ => made_done g1 hQ _ _ _ .bl
  cases neg with
  | true => exact wpE_of (pe_cmpR op_notBl (pe0 a) pe_bl (nomark _)) (q.imp fun v H' ⟨c, e, z⟩ => ⟨c, k2, e, rfl, by cases c <;> cases k2 <;> exact z⟩)
  | false => exact wpE_of (pe_cmpR op_isBl (pe0 a) pe_bl (nomark _)) (q.imp fun v H' ⟨c, e, z⟩ => ⟨c, k2, e, rfl, by cases c <;> cases k2 <;> exact z⟩)
theorem t_isB {j p} (k2 neg : Bool) (ha : SndE X Δ Γ a a') : SndT X Δ Γ (.Compare a [isOp neg] [.Constant (.bool k2) j p] pos) (.isB a' k2 neg) := by
  intro τ σ H F g Q hQ
  rw [evc_eq] at hQ
  have q := isB_core (Q := fun x H => ∃ k, x = .bl k ∧ Q k H) GB.shift k2 neg ha g hQ fun z τ1 H1 F1 g1 hQ => ⟨z, rfl, made_test g1 hQ⟩
  cases neg with
  | true => exact wpT_of (pt_cmpR op_notBl (pe0 a) pe_bl (nomark _)) (q.imp fun v H' ⟨c, e, z⟩ => ⟨c, k2, e, rfl, by cases c <;> cases k2 <;> exact z⟩)
  | false => exact wpT_of (pt_cmpR op_isBl (pe0 a) pe_bl (nomark _)) (q.imp fun v H' ⟨c, e, z⟩ => ⟨c, k2, e, rfl, by cases c <;> cases k2 <;> exact z⟩)

/-! ### and, or, not, if -/
variable {rest : List Expr}
theorem s_and (ha : SndE X Δ Γ a a') (hb : SndE X Δ Γ (.BoolOp .And (b :: rest) pos) b') : SndE X Δ Γ (.BoolOp .And (a :: b :: rest) pos) (.and_ a' b') := by
  intro τ σ H F g Q hQ
  rw [ev] at hQ
  refine wpE_of (pe_and (pe0 a) (pe0 _)) ?_
  refine ha.bind GE.shift g hQ fun x τ1 v H1 F1 p1 r1 hQ => ?_
  cases e1 : vw x τ1 with
  | none => rw [e1] at hQ; exact hQ.elim
  | some d =>
    rw [e1] at hQ
    have vv := r1.view p1.ag e1
    cases d <;> first | exact hQ.elim | skip
    rename_i k
    refine ⟨k, vv.bl, ?_⟩
    cases k with
    | true => exact hb p1.ag hQ
    | false => exact made_done p1.ag hQ _ _ _ .bl
theorem s_or (ha : SndE X Δ Γ a a') (hb : SndE X Δ Γ (.BoolOp .Or (b :: rest) pos) b') : SndE X Δ Γ (.BoolOp .Or (a :: b :: rest) pos) (.or_ a' b') := by
  intro τ σ H F g Q hQ
  rw [ev] at hQ
  refine wpE_of (pe_or (pe0 a) (pe0 _)) ?_
  refine ha.bind GE.shift g hQ fun x τ1 v H1 F1 p1 r1 hQ => ?_
  cases e1 : vw x τ1 with
  | none => rw [e1] at hQ; exact hQ.elim
  | some d =>
    rw [e1] at hQ
    have vv := r1.view p1.ag e1
    cases d <;> first | exact hQ.elim | skip
    rename_i k
    refine ⟨k, vv.bl, ?_⟩
    cases k with
    | false => exact hb p1.ag hQ
    | true => exact made_done p1.ag hQ _ _ _ .bl
theorem s_one {op} (ha : SndE X Δ Γ a a') : SndE X Δ Γ (.BoolOp op [a] pos) a' := by
  intro τ σ H F g Q hQ
  exact wpE_of (pe_one (pe0 a)) (ha g hQ)
theorem s_not (ha : SndE X Δ Γ a a') : SndE X Δ Γ (.UnaryOp .Not a pos) (.not_ a') := by
  intro τ σ H F g Q hQ
  rw [ev] at hQ
  refine wpE_of (pe_not (pe0 a)) ?_
  refine ha.bind GE.shift g hQ fun x τ1 v H1 F1 p1 r1 hQ => ?_
  cases e1 : vw x τ1 with
  | none => rw [e1] at hQ; exact hQ.elim
  | some d =>
    rw [e1] at hQ
    have vv := r1.view p1.ag e1
    cases d <;> first | exact hQ.elim | skip
    exact ⟨_, vv.bl, made_done p1.ag hQ _ _ _ .bl⟩
theorem s_ife {t : Expr} {t' : E} (ht : SndT X Δ Γ t t') (ha : SndE X Δ Γ a a') (hb : SndE X Δ Γ b b') : SndE X Δ Γ (.IfExp t a b pos) (.ife t' a' b') := by
  intro τ σ H F g Q hQ
  rw [ife_eq] at hQ
  refine wpE_of (pe_ifExp (pt0 t) (pe0 a) (pe0 b)) ?_
  refine ht.bind GE.shift g hQ fun k τ1 H1 F1 p1 hQ => ?_
  cases k with
  | true => exact ha p1.ag hQ
  | false => exact hb p1.ag hQ
theorem w_and1 (ha : SndT X Δ Γ a a') : SndW X Δ Γ (.BoolOp .And [a] pos) a' := by
  intro τ σ H F g Q hQ
  exact wpW_of (pw_and1 (pt0 a)) (ha g hQ)
theorem w_or1 (ha : SndT X Δ Γ a a') : SndW X Δ Γ (.BoolOp .Or [a] pos) a' := by
  intro τ σ H F g Q hQ
  exact wpW_of (pw_or1 (pt0 a)) (ha g hQ)
theorem w_and (ha : SndT X Δ Γ a a') (hb : SndW X Δ Γ (.BoolOp .And (b :: rest) pos) b') : SndW X Δ Γ (.BoolOp .And (a :: b :: rest) pos) (.and_ a' b') := by
  intro τ σ H F g Q hQ
  rw [evc_eq, and_eq Γ a' a' b', Res.bind_bind] at hQ
  refine wpW_of (pw_and (pt0 a) (pw0 _)) ?_
  refine ha.bind GB.shift g hQ fun k τ1 H1 F1 p1 hQ => ?_
  cases k with
  | true =>
    refine hb p1.ag ?_
    rw [evc_eq]
    exact hQ
  | false => exact made_test p1.ag hQ
theorem w_or (ha : SndT X Δ Γ a a') (hb : SndW X Δ Γ (.BoolOp .Or (b :: rest) pos) b') : SndW X Δ Γ (.BoolOp .Or (a :: b :: rest) pos) (.or_ a' b') := by
  intro τ σ H F g Q hQ
  rw [evc_eq, or_eq Γ a' a' b', Res.bind_bind] at hQ
  refine wpW_of (pw_or (pt0 a) (pw0 _)) ?_
  refine ha.bind GB.shift g hQ fun k τ1 H1 F1 p1 hQ => ?_
  cases k with
  | false =>
    refine hb p1.ag ?_
    rw [evc_eq]
    exact hQ
  | true => exact made_test p1.ag hQ
theorem t_not (ha : SndT X Δ Γ a a') : SndT X Δ Γ (.UnaryOp .Not a pos) (.not_ a') := by
  intro τ σ H F g Q hQ
  have e : evc Γ (some (.not_ a')) τ = (evc Γ (some a') τ).bind fun b σ1 => .ok (!b) σ1 := by
    rw [evc_eq, ev, evc_eq, Res.bind_bind, Res.bind_bind]
    refine Res.bind_congr fun o σ1 => ?_
    cases vw o σ1 with
    | none => rfl
    | some d => cases d <;> rfl
  rw [e] at hQ
  refine wpT_of (pt_not (pt0 a)) ?_
  refine ha.bind GB.shift g hQ fun k τ1 H1 F1 p1 hQ => ?_
  exact hQ _ _ (.refl p1.ag)
end
end CL

set_option autoImplicit false
set_option linter.all false
set_option Elab.async false
set_option maxRecDepth 100000
set_option maxHeartbeats 1000000
/-! CLFrz: operands that are handed on. -/
namespace CL
open PySem PySem.Spec PyProof.Rows L2
theorem paired_cons {α β : Type} {R : α → β → Prop} {vs : List α} {b : β} {bs : List β} (h : Paired R vs (b :: bs)) : ∃ v ws, vs = v :: ws ∧ R v b ∧ Paired R ws bs := by
  cases h with
  | cons h1 h2 => exact ⟨_, _, rfl, h1, h2⟩
theorem put_get : ∀ {τ : CL.St} {i : Nat} {x : C}, get τ i = some x → put τ i (some x) = τ
  | [], _, _, _ => rfl
  | _ :: _, 0, _, h => by rw [get] at h; rw [put, h]
  | _ :: τ, i + 1, x, h => by rw [get] at h; rw [put, put_get (τ := τ) (i := i) (x := x) h]
section
variable {Δ : Nm} {τ τ0 τ' : CL.St} {σ : L2.St} {H₀ F₀ H F : Hp}
theorem Ag.frz {a : Addr} {o : HO} (g : Ag Δ τ σ H F) (ho : H a = some o) (hF : F a = none) (hl : τ'.length = τ.length)
    (hn : ∀ j y, get τ' j = some y → y.isOwn → get τ j = some y ∧ σ[j]? ≠ some (some (.ref a)))
    (hv : ∀ j d, get τ' j = some (.val d) → ∃ v, σ[j]? = some (some v) ∧ Rep Δ (upd F a o) v d) : Ag Δ τ' σ H (upd F a o) := by
  refine ⟨g.sub.freeze ho, hl.trans g.len, fun i x e => ?_, fun i j x y b e1 e2 o1 o2 => g.apart i j x y b (hn i x e1 o1).1 (hn j y e2 o2).1 o1 o2⟩
  by_cases hx : x.isOwn
  · obtain ⟨e', ne⟩ := hn i x e hx
    obtain ⟨v, hσ, r⟩ := g.at_ i x e'
    obtain ⟨b, rfl, hb, oa⟩ := r.own hx
    have hba : b ≠ a := fun z => ne (by rw [hσ, z])
    exact ⟨_, hσ, .of_own (by rw [upd_ne hba]; exact hb) (oa.mono (Ext.new hF) fun _ q => q)⟩
  · cases x with
    | val d =>
      obtain ⟨v, h1, h2⟩ := hv i d e
      exact ⟨v, h1, h2⟩
    | ol d => exact absurd trivial hx
    | od t d => exact absurd trivial hx
    | oi c d => exact absurd trivial hx
theorem Post.frz {a : Addr} {o : HO} (p : Post Δ τ0 τ σ H₀ F₀ H F) (ho : H a = some o) (hF : F a = none) (hl : τ'.length = τ.length)
    (hn : ∀ j y, get τ' j = some y → y.isOwn → get τ j = some y ∧ σ[j]? ≠ some (some (.ref a)))
    (hv : ∀ j d, get τ' j = some (.val d) → ∃ v, σ[j]? = some (some v) ∧ Rep Δ (upd F a o) v d) (hw : Wr τ0 σ a ∨ Nw H₀ a) : Post Δ τ0 τ' σ H₀ F₀ H (upd F a o) := by
  refine ⟨p.ag.frz ho hF hl hn hv, p.ext.trans (Ext.new hF), p.keep, fun b u e n => ?_, fun i x e ow => p.mon i x (hn i x e ow).1 ow, p.dom⟩
  by_cases hb : b = a
  · subst hb; exact hw
  · rw [upd_ne hb] at e
    exact p.froz b u e n
theorem OwnAt.rep {F' : Hp} {a : Addr} {x : C} {o : HO} (h : OwnAt Δ F H a x) (e : Ext F F') (hF : F' a = some o) (ho : H a = some o) : Rep Δ F' (.ref a) x.toD := by
  cases x with
  | val d => exact h.elim
  | ol ds =>
    obtain ⟨vs, q, r⟩ := h
    rw [ho] at q; cases q
    exact .lst (.inl hF) (r.mono e)
  | od t kvs => cases t with
    | false =>
      obtain ⟨ks, q, r⟩ := h
      rw [ho] at q; cases q
      exact .dk hF (r.mono e)
    | true =>
      obtain ⟨ks, q, r⟩ := h
      rw [ho] at q; cases q
      exact .dt hF (r.mono e)
  | oi c fs =>
    obtain ⟨dx, vs, q, r⟩ := h
    rw [ho] at q; cases q
    exact .ins hF (r.mono e)
/-- an own operand is no name's -/
theorem OpRel.notWr {v : V} {x : C} (g0 : Ag Δ τ0 σ H₀ F₀) (p : Post Δ τ0 τ σ H₀ F₀ H F) {a : Addr} (h0 : H₀ a = none) : ¬ Wr τ σ a := fun w => by
  obtain ⟨_, u, e⟩ := g0.wr (p.wr w)
  rw [h0] at e; cases e
theorem Post.frz1 {τ1 : CL.St} {v : V} {o : Opd} {d : D} (g0 : Ag Δ τ0 σ H₀ F₀) (p : Post Δ τ0 τ σ H₀ F₀ H F) (h : OpRel Δ τ σ H₀ H F v o) (e : CL.frz o τ = some (d, τ1)) :
    (τ1 = τ ∧ ¬ (∃ x, o = .c x ∧ x.isOwn) ∧ Rep Δ F v d ∧ Post Δ τ0 τ1 σ H₀ F₀ H F) ∨ ∃ a u, v = .ref a ∧ H a = some u ∧ F a = none ∧ ((∃ x, o = .c x ∧ x.isOwn) ∨ Wr τ σ a) ∧ Rep Δ (upd F a u) v d ∧ Post Δ τ0 τ1 σ H₀ F₀ H (upd F a u) := by
  have own : ∀ (x : C) (a : Addr) (τ1 : CL.St), OwnAt Δ F H a x → F a = none → τ1.length = τ.length → (∀ j y, get τ1 j = some y → y.isOwn → get τ j = some y ∧ σ[j]? ≠ some (some (.ref a))) →
      (∀ j d, get τ1 j = some (.val d) → get τ j = some (.val d) ∨ σ[j]? = some (some (.ref a)) ∧ d = x.toD) → (Wr τ0 σ a ∨ H₀ a = none) →
      ∃ u, H a = some u ∧ Rep Δ (upd F a u) (.ref a) x.toD ∧ Post Δ τ0 τ1 σ H₀ F₀ H (upd F a u) := fun x a τ1 oa hF hl hn hv hw => by
    obtain ⟨u, hu⟩ := oa.there
    have rp := oa.rep (Ext.new hF) (upd_same (o := u)) hu
    refine ⟨u, hu, rp, p.frz hu hF hl hn (fun j d ej => ?_) (hw.imp id Nw.of)⟩
    rcases hv j d ej with q | ⟨q, rfl⟩
    · obtain ⟨v, h1, h2⟩ := p.ag.at_ j _ q
      exact ⟨v, h1, Rep.mono (Ext.new hF) h2⟩
    · exact ⟨_, q, rp⟩
  cases o with
  | c x =>
    have e' : (x.toD, τ) = (d, τ1) := Option.some.inj e
    cases e'
    by_cases hx : x.isOwn
    · obtain ⟨a, rfl, h0, hF, oa⟩ := h.own hx
      have nw := OpRel.notWr (v := .ref a) (x := x) g0 p h0
      obtain ⟨u, h1, h2, h3⟩ := own x a τ oa hF rfl (fun j y ej oy => ⟨ej, fun z => nw ⟨j, y, ej, oy, z⟩⟩) (fun j d ej => .inl ej) (.inr h0)
      exact .inr ⟨a, u, rfl, h1, hF, .inl ⟨x, rfl, hx⟩, h2, h3⟩
    · cases x with
      | val d => exact .inl ⟨rfl, fun ⟨x, z, q⟩ => by cases z; exact q, h, p⟩
      | ol d => exact absurd trivial hx
      | od t d => exact absurd trivial hx
      | oi c d => exact absurd trivial hx
  | loc i =>
    rw [CL.frz] at e
    cases q : get τ i with
    | none => rw [q] at e; cases e
    | some x =>
      rw [q] at e
      have e' : (x.toD, put τ i (some (.val x.toD))) = (d, τ1) := Option.some.inj e
      cases e'
      have hi := get_lt q
      obtain ⟨w, hw, r⟩ := p.ag.at_ i x q
      rw [show σ[i]? = some (some v) from h] at hw
      cases hw
      by_cases hx : x.isOwn
      · obtain ⟨a, rfl, hF, oa⟩ := r.own hx
        have w1 : Wr τ σ a := ⟨i, x, q, hx, h⟩
        obtain ⟨u, h1, h2, h3⟩ := own x a (put τ i (some (.val x.toD))) oa hF (put_length _ _ _) (fun j y ej oy => by
          rcases get_put_eq ej with ⟨rfl, z⟩ | ⟨ne, z⟩
          · cases z; exact oy.elim
          · exact ⟨z, fun s => ne (p.ag.apart j i y x a z q oy hx s h)⟩) (fun j d ej => by
          rcases get_put_eq ej with ⟨rfl, z⟩ | ⟨ne, z⟩
          · cases z; exact .inr ⟨h, rfl⟩
          · exact .inl z) (.inl (p.wr w1))
        exact .inr ⟨a, u, rfl, h1, hF, .inr w1, h2, h3⟩
      · cases x with
        | val d =>
          have es : put τ i (some (.val d)) = τ := put_get q
          exact .inl ⟨es, fun ⟨x, z, _⟩ => (by cases z), r, (by show Post Δ τ0 (put τ i (some (.val d))) σ H₀ F₀ H F; rw [es]; exact p)⟩
        | ol d => exact absurd trivial hx
        | od t d => exact absurd trivial hx
        | oi c d => exact absurd trivial hx
theorem opRels_frz {τ1 : CL.St} {a : Addr} {u : HO} (hF : F a = none) : ∀ {vs : List V} {os : List Opd}, Paired (OpRel Δ τ σ H₀ H F) vs os → V.ref a ∉ owns vs os → Paired (OpRel Δ τ1 σ H₀ H (upd F a u)) vs os
  | _, _, .nil, _ => .nil
  | w :: ws, o :: os, .cons h1 h2, hm => by
    have key : ∀ x : C, o = .c x → x.isOwn → V.ref a ≠ w → OpRel Δ τ1 σ H₀ H (upd F a u) w (.c x) := fun x e hx hw => by
      subst e
      obtain ⟨b, rfl, h0, hb, oa⟩ := h1.own hx
      have hba : b ≠ a := fun z => hw (by rw [z])
      exact .of_own h0 (by rw [upd_ne hba]; exact hb) (oa.mono (Ext.new hF) fun _ q => q)
    cases o with
    | loc i => exact .cons h1 (opRels_frz hF h2 hm)
    | c x => cases x with
      | val d => exact .cons (Rep.mono (Ext.new hF) h1) (opRels_frz hF h2 hm)
      | ol d => exact .cons (key _ rfl trivial fun z => hm (z ▸ List.mem_cons_self)) (opRels_frz hF h2 fun m => hm (List.mem_cons_of_mem _ m))
      | od t d => exact .cons (key _ rfl trivial fun z => hm (z ▸ List.mem_cons_self)) (opRels_frz hF h2 fun m => hm (List.mem_cons_of_mem _ m))
      | oi c d => exact .cons (key _ rfl trivial fun z => hm (z ▸ List.mem_cons_self)) (opRels_frz hF h2 fun m => hm (List.mem_cons_of_mem _ m))
theorem Post.frzs (g0 : Ag Δ τ0 σ H₀ F₀) : ∀ {os : List Opd} {vs : List V} {τ τ' : CL.St} {F : Hp} {ds : List D}, Post Δ τ0 τ σ H₀ F₀ H F → OpRels Δ τ σ H₀ H F vs os → CL.frzs os τ = some (ds, τ') →
    ∃ F', Post Δ τ0 τ' σ H₀ F₀ H F' ∧ Reps Δ F' vs ds ∧ Ext F F'
  | [], vs, τ, τ', F, ds, p, r, e => by
    have e' : (([] : List D), τ) = (ds, τ') := Option.some.inj e
    cases e'
    obtain ⟨r, _⟩ := r
    cases r
    exact ⟨F, p, .nil, Ext.refl F⟩
  | o :: os, vs, τ, τ', F, ds, p, r, e => by
    rw [CL.frzs] at e
    cases e1 : CL.frz o τ with
    | none => rw [e1] at e; cases e
    | some q =>
      obtain ⟨d, τ1⟩ := q
      rw [e1] at e
      have e : (CL.frzs os τ1).map (fun (ds, σ2) => (d :: ds, σ2)) = some (ds, τ') := e
      cases e2 : CL.frzs os τ1 with
      | none => rw [e2] at e; cases e
      | some q =>
        obtain ⟨ds2, τ2⟩ := q
        rw [e2] at e
        have e' : (d :: ds2, τ2) = (ds, τ') := Option.some.inj e
        cases e'
        obtain ⟨r, ap⟩ := r
        obtain ⟨v, vs, rfl, r1, rt⟩ := paired_cons r
        rcases p.frz1 g0 r1 e1 with ⟨rfl, no, rv, p1⟩ | ⟨a, u, rfl, ha, hF, ho, rv, p1⟩
        · have ap2 : (owns vs os).Nodup := by
            cases o with
            | loc i => exact ap
            | c x => cases x with
              | val d => exact ap
              | ol d => exact absurd ⟨_, rfl, trivial⟩ no
              | od t d => exact absurd ⟨_, rfl, trivial⟩ no
              | oi c d => exact absurd ⟨_, rfl, trivial⟩ no
          obtain ⟨F', p2, rs, ex⟩ := Post.frzs g0 p1 ⟨rt, ap2⟩ e2
          exact ⟨F', p2, .cons (rv.mono ex) rs, ex⟩
        · have hne : V.ref a ∉ owns vs os ∧ (owns vs os).Nodup := by
            rcases ho with ⟨x, rfl, hx⟩ | w
            · cases x with
              | val d => exact hx.elim
              | ol d => exact List.nodup_cons.mp ap
              | od t d => exact List.nodup_cons.mp ap
              | oi c d => exact List.nodup_cons.mp ap
            · refine ⟨fun m => ?_, ?_⟩
              · obtain ⟨b, e, h0, _⟩ := owns_fresh rt _ m
                cases e
                exact OpRel.notWr (v := .ref a) (x := .val .non) g0 p h0 w
              · cases o with
                | loc i => exact ap
                | c x => cases x with
                  | val d => exact ap
                  | ol d => exact (List.nodup_cons.mp ap).2
                  | od t d => exact (List.nodup_cons.mp ap).2
                  | oi c d => exact (List.nodup_cons.mp ap).2
          have rt2 := opRels_frz (τ1 := τ1) (u := u) hF rt hne.1
          obtain ⟨F', p2, rs, ex⟩ := Post.frzs g0 p1 ⟨rt2, hne.2⟩ e2
          exact ⟨F', p2, .cons (rv.mono ex) rs, (Ext.new hF).trans ex⟩
end
end CL

set_option autoImplicit false
set_option linter.all false
set_option Elab.async false
set_option maxRecDepth 100000
set_option maxHeartbeats 1000000
/-! CLEx2: displays, subscripts, slices, builtins, isinstance. -/
namespace CL
open PySem PySem.Spec PyProof.Rows L2

section
variable {X : Cx} {Δ : Nm} {Γ : Ctx} {pos : Pos} {α : Type} {G : Tg α} {τ : CL.St} {σ : L2.St} {H F : Hp}
/-- as SndA.bind, from the start -/
theorem SndA.bind' {es : List Expr} {es' : List E} (h : SndA X Δ Γ es es') (g : Ag Δ τ σ H F) {f : List Opd → CL.St → Res α} (hQ : PostG X Δ G τ σ H F ((evs Γ es' τ).bind f)) {K : List V → Hp → Prop}
    (k : ∀ o τ1 v H1 F1, evs Γ es' τ = .ok o τ1 → Post Δ τ τ1 σ H F H1 F1 → OpRels Δ τ1 σ H H1 F1 v o → PostG X Δ G τ σ H F (f o τ1) → K v H1) : wpA X es σ H K := by
  refine h g ?_
  revert hQ
  cases e : evs Γ es' τ with
  | ok o τ1 => exact fun hQ v H' F' p r => k o τ1 v H' F' e p r hQ
  | exc x τ1 => exact fun hQ => hQ
  | no => exact fun hQ => hQ
theorem SndE.bind' {e : Expr} {e' : E} (h : SndE X Δ Γ e e') (g : Ag Δ τ σ H F) {f : Opd → CL.St → Res α} (hQ : PostG X Δ G τ σ H F ((ev Γ e' τ).bind f)) {K : VK}
    (k : ∀ o τ1 v H1 F1, Post Δ τ τ1 σ H F H1 F1 → OpRel Δ τ1 σ H H1 F1 v o → PostG X Δ G τ σ H F (f o τ1) → K v H1) : wpE X e σ H K := by
  refine h g ?_
  revert hQ
  cases ev Γ e' τ with
  | ok o τ1 => exact fun hQ v H' F' p r => k o τ1 v H' F' p r hQ
  | exc x τ1 => exact fun hQ => hQ
  | no => exact fun hQ => hQ
theorem a_nil : SndA X Δ Γ [] [] := by
  intro τ σ H F g Q hQ
  rw [evs] at hQ
  exact wpA_of pa_nil (hQ [] H F (.refl g) .nil)
theorem a_cons {e : Expr} {es : List Expr} {e' : E} {es' : List E} (he : SndE X Δ Γ e e') (hes : SndA X Δ Γ es es') (hs : starEach (e :: es) X.env = (false, eval e X.env) :: starEach es X.env) : SndA X Δ Γ (e :: es) (e' :: es') := by
  intro τ σ H F g Q hQ
  rw [evs] at hQ
  refine wpA_of (pa_cons (pe0 e) (pa0 es) hs) ?_
  refine he.bind' g hQ fun o τ1 v H1 F1 p1 r1 hQ => ?_
  refine hes.bind' (G := GA Δ Q) p1.ag (τ := τ1) (f := fun os σ2 => .ok (o :: os) σ2) (PostG.shift GA.shift p1 hQ) fun os τ2 vs H2 F2 e2 p2 r2 _ => ?_
  rw [e2] at hQ
  exact hQ (v :: vs) H2 F2 (p1.trans p2) (.cons p1 r1 (r1.step g p1 p2) r2)
theorem evs_len : ∀ {es : List E} {τ τ1 : CL.St} {os : List Opd}, evs Γ es τ = .ok os τ1 → os.length = es.length
  | [], τ, τ1, os, h => by rw [evs] at h; cases h; rfl
  | e :: es, τ, τ1, os, h => by
    rw [evs] at h
    cases e1 : ev Γ e τ with
    | ok o σ1 =>
      rw [e1] at h
      have h : ((evs Γ es σ1).bind fun os σ2 => Res.ok (o :: os) σ2) = .ok os τ1 := h
      cases e2 : evs Γ es σ1 with
      | ok o2 σ2 =>
        rw [e2] at h
        cases h
        rw [List.length_cons, List.length_cons, evs_len e2]
      | exc x σ2 => rw [e2] at h; cases h
      | no => rw [e2] at h; cases h
    | exc x σ1 => rw [e1] at h; cases h
    | no => rw [e1] at h; cases h
theorem OpRels.len {H₀ : Hp} {vs : List V} {os : List Opd} (h : OpRels Δ τ σ H₀ H F vs os) : vs.length = os.length := Paired.length h.all
theorem size_small {n : Nat} (h : n ≤ 1000) : n ≤ sizeLine := limS (by have : lim = 1000000 := rfl; omega)
/-- behind a step that has made c, from the start -/
theorem made_end {Q : VK} {c : C} {τ' : CL.St} {H1 F1 : Hp} (p : Post Δ τ τ' σ H F H1 F1) (hQ : PostG X Δ (GE Δ Q) τ σ H F (.ok (.c c) τ')) : ∀ v H' F', Made Δ F1 H1 c v H' F' → Q v H' := fun v H' F' m =>
  have q := m.post (τ := τ') (σ := σ) p.ag
  hQ v H' F' (p.trans q.1) ((q.2 τ').older p)
variable {es : List Expr} {es' : List E} {e i : Expr} {e' i' : E}
theorem s_tup {k} (h : SndA X Δ Γ es es') (hl : es'.length ≤ 1000) : SndE X Δ Γ (.Tuple es k pos) (.tup es') := by
  intro τ σ H F g Q hQ
  rw [ev] at hQ
  refine wpE_of (pe_tup (pa0 es)) ?_
  refine h.bind' g hQ fun os τ1 vs H1 F1 e1 p1 r1 hQ => ?_
  refine ⟨size_small (by rw [r1.len, evs_len e1]; exact hl), fun p hp => ?_⟩
  cases e2 : CL.frzs os τ1 with
  | none => rw [e2] at hQ; exact hQ.elim
  | some q =>
    obtain ⟨ds, τ2⟩ := q
    rw [e2] at hQ
    obtain ⟨F2, p2, rs, _⟩ := Post.frzs g p1 r1 e2
    exact made_end p2 hQ _ _ _ (.tup p2.ag.sub hp rs)
theorem s_lst (h : SndA X Δ Γ es es') (hl : es'.length ≤ 1000) : SndE X Δ Γ (.List es pos) (.lst es') := by
  intro τ σ H F g Q hQ
  rw [ev] at hQ
  refine wpE_of (pe_lst (pa0 es)) ?_
  refine h.bind' g hQ fun os τ1 vs H1 F1 e1 p1 r1 hQ => ?_
  refine ⟨size_small (by rw [r1.len, evs_len e1]; exact hl), fun p hp => ?_⟩
  cases e2 : CL.frzs os τ1 with
  | none => rw [e2] at hQ; exact hQ.elim
  | some q =>
    obtain ⟨ds, τ2⟩ := q
    rw [e2] at hQ
    obtain ⟨F2, p2, rs, _⟩ := Post.frzs g p1 r1 e2
    exact made_end p2 hQ _ _ _ (.lst hp rs)

/-! ### subscripts -/
theorem ixN_eq (n : Nat) (i : Int) : L2.ixN n i = CL.ixN n i := rfl
theorem atI_reps {vs : List V} {ds : List D} {k : Int} {d : D} (r : Reps Δ F vs ds) (h : CL.atI ds k = some d) : ∃ v, L2.atI vs k = some v ∧ Rep Δ F v d := by
  unfold CL.atI at h
  unfold L2.atI
  rw [ixN_eq, r.length]
  cases e : CL.ixN ds.length k with
  | none => rw [e] at h; cases h
  | some j =>
    rw [e] at h
    exact r.get h
/-- x[y] -/
def rSub (Δ : Nm) : R2 := fun x y H Q => ∃ F d f, Sub F H ∧ View Δ F H x d ∧ View Δ F H y f ∧
  ((∃ ds d' k, (d = .tup ds ∨ d = .lst ds) ∧ f = .int k ∧ CL.atI ds k = some d' ∧ ∀ v, Rep Δ F v d' → Q v H) ∨ (∃ t kvs d', d = .dct t kvs ∧ keyOk t f = true ∧ dget kvs f = some d' ∧ ∀ v, Rep Δ F v d' → Q v H))
theorem ix_sub (hK : X.K = Δ.K) (hu : X.A.units + 70 < cLine) : IxR X (rSub Δ) := by
  intro value slice pins s σ H x y v u Q I rx ry h hs
  obtain ⟨F, d, f, sub, vx, vy, ⟨ds, d', k, hd, rfl, ha, q⟩ | ⟨t, kvs, d', rfl, hk, ha, q⟩⟩ := h
  · refine ix_seq value slice pins s σ H x y v u Q I rx ry ?_ hs
    rcases hd with rfl | rfl
    · obtain ⟨a, xs, rfl, h1, h2, h3⟩ := vx.tup sub
      obtain ⟨w, e1, e2⟩ := atI_reps h2 ha
      exact .inr (.inl ⟨a, xs, k, w, rfl, vy.int, hK ▸ h1, e1, q w e2⟩)
    · obtain ⟨a, xs, rfl, h1, h2⟩ := vx.lst sub
      obtain ⟨w, e1, e2⟩ := atI_reps h2 ha
      exact .inl ⟨a, xs, k, w, rfl, vy.int, .inl h1, e1, q w e2⟩
  · obtain ⟨a, r, rfl, g, e⟩ := dget_view sub vx vy hk
    obtain rfl : v = Value.ref a := rx
    rcases e with ⟨w, d2, rfl, e2, e3⟩ | ⟨_, e2⟩
    · rw [ha] at e2; cases e2
      exact tail_any (dict_typeIs I g) PySem.F.slot_dict_getitem.lookup (d_getItem (by omega) I g ry fun w' s' I' rw' => ⟨w, H, I', rw', q w e3⟩) hs
    · rw [ha] at e2; cases e2
theorem s_sub (hK : X.K = Δ.K) (hu : X.A.units + 70 < cLine) (he : SndE X Δ Γ e e') (hi : SndE X Δ Γ i i') (hp : PlainIx i) : SndE X Δ Γ (.Subscript e i pos) (.sub e' i') := by
  intro τ σ H F g Q hQ
  rw [ev] at hQ
  refine wpE_of (pe_ix (ix_sub hK hu) (pe0 e) (pe0 i) hp) ?_
  refine he.bind GE.shift g hQ fun x τ1 v H1 F1 p1 r1 hQ => ?_
  refine hi.bind GE.shift p1.ag hQ fun y τ2 u H2 F2 p2 r2 hQ => ?_
  have r1 := r1.step g p1 p2
  cases e1 : vw x τ2 with
  | none => rw [e1] at hQ; exact hQ.elim
  | some d =>
    cases e2 : vw y τ2 with
    | none =>
      rw [e1, e2] at hQ
      cases d <;> exact hQ.elim
    | some f =>
      rw [e1, e2] at hQ
      have v1 := r1.view p2.ag e1
      have v2 := r2.view p2.ag e2
      cases d with
      | tup ds =>
        cases f <;> first | exact hQ.elim | skip
        rename_i k
        cases e3 : CL.atI ds k with
        | none => simp only [e3] at hQ; exact hQ.elim
        | some d' =>
          simp only [e3] at hQ
          exact ⟨F2, _, _, p2.ag.sub, v1, v2, .inl ⟨ds, d', k, .inl rfl, rfl, e3, fun v r => made_done p2.ag hQ v _ _ (.old r)⟩⟩
      | lst ds =>
        cases f <;> first | exact hQ.elim | skip
        rename_i k
        cases e3 : CL.atI ds k with
        | none => simp only [e3] at hQ; exact hQ.elim
        | some d' =>
          simp only [e3] at hQ
          exact ⟨F2, _, _, p2.ag.sub, v1, v2, .inl ⟨ds, d', k, .inr rfl, rfl, e3, fun v r => made_done p2.ag hQ v _ _ (.old r)⟩⟩
      | dct t kvs =>
        simp only at hQ
        by_cases hk : keyOk t f = true
        · rw [if_pos hk] at hQ
          cases e3 : dget kvs f with
          | none => simp only [e3] at hQ; exact hQ.elim
          | some d' =>
            simp only [e3] at hQ
            exact ⟨F2, _, _, p2.ag.sub, v1, v2, .inr ⟨t, kvs, d', rfl, hk, e3, fun v r => made_done p2.ag hQ v _ _ (.old r)⟩⟩
        · rw [if_neg hk] at hQ
          exact hQ.elim
      | _ => exact hQ.elim
/-! ### empty dicts -/
theorem s_dicK : SndE X Δ Γ (.Dict [] [] pos) (.dic0 false) := by
  intro τ σ H F g Q hQ
  rw [ev] at hQ
  refine wpE_of pe_dnewK fun p hp => ?_
  exact made_end (.refl g) hQ _ _ _ (.own hp ⟨[], upd_same, .nil⟩)
theorem s_dicT : SndE X Δ Γ (.Dict [] [] pos) (.dic0 true) := by
  intro τ σ H F g Q hQ
  rw [ev] at hQ
  refine wpE_of pe_dnewT fun p hp => ?_
  exact made_end (.refl g) hQ _ _ _ (.own hp ⟨[], upd_same, .nil⟩)

/-! ### slices -/
end
def wpO (X : Cx) (e : Option Expr) : TO := fun σ H Q => ∀ (pins : List (Addr × Obj)) (s : Shared), L2.Inv X pins σ H s → wpAny (model X.prog X.w) X.A (evalPart e X.env) (fun u s' => ∃ o H', L2.Inv X pins σ H' s' ∧ IsPart u o ∧ Q o H') X.xe s
def SndO (X : Cx) (Δ : Nm) (Γ : Ctx) (e : Option Expr) (e' : Option E) : Prop := ∀ ⦃τ σ H F⦄, Ag Δ τ σ H F → ∀ ⦃Q⦄, PostG X Δ (GB Δ Q) τ σ H F (evo Γ e' τ) → wpO X e σ H Q
section
variable {X : Cx} {Δ : Nm} {Γ : Ctx} {pos : Pos} {α : Type} {G : Tg α} {τ : CL.St} {σ : L2.St} {H F : Hp} {es : List Expr} {es' : List E} {e i : Expr} {e' i' : E}
theorem po0 (e : Option Expr) : PO X e (wpO X e) := ⟨fun pins s σ H Q I h => h pins s I⟩
theorem wpO_of {e : Option Expr} {t : TO} (h : PO X e t) {σ : L2.St} {H : Hp} {Q : Option Int → Hp → Prop} (q : t σ H Q) : wpO X e σ H Q := fun pins s I => h.run pins s σ H Q I q
theorem SndO.bind {e : Option Expr} {e' : Option E} (h : SndO X Δ Γ e e') (sg : Shift Δ G) (g : Ag Δ τ σ H F) {f : Option Int → CL.St → Res α} (hQ : PostG X Δ G τ σ H F ((evo Γ e' τ).bind f)) {K : Option Int → Hp → Prop}
    (k : ∀ o τ1 H1 F1, Post Δ τ τ1 σ H F H1 F1 → PostG X Δ G τ1 σ H1 F1 (f o τ1) → K o H1) : wpO X e σ H K := by
  refine h g ?_
  revert hQ
  cases evo Γ e' τ with
  | ok o τ1 => exact fun hQ H' F' p => k o τ1 H' F' p (PostG.shift sg p hQ)
  | exc x τ1 => exact fun hQ => hQ
  | no => exact fun hQ => hQ
theorem o_none : SndO X Δ Γ none none := by
  intro τ σ H F g Q hQ
  rw [evo] at hQ
  exact wpO_of po_none (hQ H F (.refl g))
theorem o_some (he : SndE X Δ Γ e e') : SndO X Δ Γ (some e) (some e') := by
  intro τ σ H F g Q hQ
  rw [evo] at hQ
  refine wpO_of (po_some (pe0 e)) ?_
  refine he.bind GB.shift g hQ fun x τ1 v H1 F1 p1 r1 hQ => ?_
  cases e1 : vw x τ1 with
  | none => rw [e1] at hQ; exact hQ.elim
  | some d =>
    rw [e1] at hQ
    cases d <;> first | exact hQ.elim | skip
    exact ⟨_, (r1.view p1.ag e1).int, hQ _ _ (.refl p1.ag)⟩
theorem cutI_eq (n d : Nat) (o : Option Int) : HT.sIx n d o = cutI n d o := by
  cases o <;> rfl
theorem cut_reps {vs : List V} {ds : List D} (r : Reps Δ F vs ds) (lo hi : Option Int) : Reps Δ F (cutV vs lo hi) (cut ds lo hi) := by
  unfold cutV cut
  rw [cutI_eq, cutI_eq, r.length]
  exact (r.drop _).take _
def rSlice (Δ : Nm) : V → Option Int → Option Int → Hp → VK → Prop := fun x lo hi H Q => ∃ F ds, Sub F H ∧
  ((View Δ F H x (.tup ds) ∧ ∀ v H' F', Made Δ F H (.val (.tup (cut ds lo hi))) v H' F' → Q v H') ∨ ((View Δ F H x (.lst ds) ∨ View Δ F H x (.kl ds)) ∧ ∀ v H' F', Made Δ F H (.ol (cut ds lo hi)) v H' F' → Q v H'))
theorem sl_slice (hK : X.K = Δ.K) : SlR X (rSlice Δ) := by
  intro pins s σ H x v vl vu lo hi sl Q I rx hs pl pu h
  obtain ⟨F, ds, sub, ⟨vx, q⟩ | ⟨vx | vx, q⟩⟩ := h
  · obtain ⟨a, xs, rfl, h1, h2, h3⟩ := vx.tup sub
    refine sl_tupA pins s σ H _ v vl vu lo hi sl Q I rx hs pl pu ⟨a, xs, rfl, hK ▸ h1, fun ⟨e1, e2⟩ => q _ H F (.old ?_), fun _ p hp => q _ _ _ (.tup sub hp (cut_reps h2 lo hi))⟩
    rw [cutI_eq] at e1 e2
    rw [h2.length] at e1 e2
    have : cut ds lo hi = ds := by
      unfold cut
      rw [e1, e2]
      simp
    rw [this]
    exact h3
  · obtain ⟨a, xs, rfl, h1, h2⟩ := vx.lst sub
    exact sl_list pins s σ H _ v vl vu lo hi sl Q I rx hs pl pu ⟨a, xs, rfl, .inl h1, fun p hp => q _ _ _ (.lst hp (cut_reps h2 lo hi))⟩
  · obtain ⟨a, xs, rfl, h1, h2⟩ := vx.kl sub
    exact sl_list pins s σ H _ v vl vu lo hi sl Q I rx hs pl pu ⟨a, xs, rfl, hK ▸ h1, fun p hp => q _ _ _ (.lst hp (cut_reps h2 lo hi))⟩
theorem s_slice {lo hi : Option Expr} {lo' hi' : Option E} {p2 : Pos} (hK : X.K = Δ.K) (he : SndE X Δ Γ e e') (hl : SndO X Δ Γ lo lo') (hh : SndO X Δ Γ hi hi') : SndE X Δ Γ (.Subscript e (.Slice lo hi none p2) pos) (.slice e' lo' hi') := by
  intro τ σ H F g Q hQ
  rw [ev] at hQ
  refine wpE_of (pe_slice (sl_slice hK) (pe0 e) (po0 lo) (po0 hi)) ?_
  refine he.bind GE.shift g hQ fun x τ1 v H1 F1 p1 r1 hQ => ?_
  refine hl.bind GE.shift p1.ag hQ fun l τ2 H2 F2 p2 hQ => ?_
  refine hh.bind GE.shift p2.ag hQ fun h τ3 H3 F3 p3 hQ => ?_
  have r1 := r1.step g p1 (p2.trans p3)
  cases e1 : vw x τ3 with
  | none => rw [e1] at hQ; exact hQ.elim
  | some d =>
    rw [e1] at hQ
    have vv := r1.view p3.ag e1
    cases d with
    | tup ds => exact ⟨F3, ds, p3.ag.sub, .inl ⟨vv, made_done p3.ag hQ⟩⟩
    | lst ds => exact ⟨F3, ds, p3.ag.sub, .inr ⟨.inl vv, made_done p3.ag hQ⟩⟩
    | kl ds => exact ⟨F3, ds, p3.ag.sub, .inr ⟨.inr vv, made_done p3.ag hQ⟩⟩
    | _ => exact hQ.elim
theorem s_rev {k : Nat} {p1 p2 p3 : Pos} (he : SndE X Δ Γ e e') : SndE X Δ Γ (.Subscript e (.Slice none none (some (.UnaryOp .USub (.Constant (.int 1) k p1) p2)) p3) pos) (.rev e') := by
  intro τ σ H F g Q hQ
  rw [ev] at hQ
  refine wpE_of (pe_revL (pe0 e)) ?_
  refine he.bind GE.shift g hQ fun x τ1 v H1 F1 p1 r1 hQ => ?_
  cases e1 : vw x τ1 with
  | none => rw [e1] at hQ; exact hQ.elim
  | some d =>
    rw [e1] at hQ
    have vv := r1.view p1.ag e1
    cases d with
    | lst ds =>
      obtain ⟨a, xs, rfl, h1, h2⟩ := vv.lst p1.ag.sub
      exact ⟨a, xs, rfl, .inl h1, fun p hp => made_done p1.ag hQ _ _ _ (.lst hp h2.reverse)⟩
    | _ => exact hQ.elim

/-! ### builtins -/
theorem OpRels.views {H₀ : Hp} (g : Ag Δ τ σ H F) : ∀ {os : List Opd} {vs : List V} {ds : List D}, Paired (OpRel Δ τ σ H₀ H F) vs os → vws os τ = some ds → Paired (View Δ F H) vs ds
  | [], vs, ds, r, h => by
    cases r
    have h : some ([] : List D) = some ds := h
    cases h
    exact .nil
  | o :: os, vs, ds, r, h => by
    obtain ⟨v, ws, rfl, r1, r2⟩ := paired_cons r
    rw [vws] at h
    cases e1 : vw o τ with
    | none => rw [e1] at h; cases h
    | some d =>
      rw [e1] at h
      have h : (vws os τ).map (d :: ·) = some ds := h
      obtain ⟨ds2, e2, rfl⟩ := map_some h
      exact .cons (r1.view g e1) (OpRels.views g r2 e2)
/-- a call of a builtin by name -/
theorem s_bi (f : Bi) {x : Str} {p : Pos} {e0 : Expr} (hpe : ∀ t, PA X (e0 :: es) t → PE X (.Call (.Name x p) (e0 :: es) [] pos) (tCB (rBi Δ f) t)) (h : SndA X Δ Γ (e0 :: es) es') : SndE X Δ Γ (.Call (.Name x p) (e0 :: es) [] pos) (.bi f es') := by
  intro τ σ H F g Q hQ
  rw [ev] at hQ
  refine wpE_of (hpe _ (pa0 _)) ?_
  refine h.bind GE.shift g hQ fun os τ1 vs H1 F1 p1 r1 hQ => ?_
  cases e1 : vws os τ1 with
  | none => rw [e1] at hQ; exact hQ.elim
  | some ds =>
    rw [e1] at hQ
    cases e2 : biD f ds with
    | none => simp only [e2] at hQ; exact hQ.elim
    | some c =>
      simp only [e2] at hQ
      exact ⟨F1, ds, c, p1.ag.sub, OpRels.views p1.ag r1.all e1, e2, made_done p1.ag hQ⟩

/-! ### isinstance -/
def tyN : D → String
  | .non => "NoneType"
  | .bl _ => "bool"
  | .int _ => "int"
  | .str _ => "str"
  | .tup _ => "tuple"
  | .lst _ => "list"
  | .dct _ _ => "dict"
  | _ => "object"
def Ty.nm : Ty → String
  | .int => "int"
  | .bool => "bool"
  | .str => "str"
  | .list => "list"
  | .tuple => "tuple"
  | .dict => "dict"
/-- a value's type as isinstance asks it, walked dicts of tuple keys among them -/
inductive TyY (K : PySem.W.Frag) (H : Hp) : V → Value → Prop where
  | kit {x : V} {t : Value} : TyX K H x t → TyY K H x t
  | walked {a : Addr} {o : Obj} {kvs : List (List Key × V)} : H a = some (.frz o (.dT kvs)) → TyY K H (.ref a) (.type "dict")
theorem TyY.found {X : Cx} {pins : List (Addr × Obj)} {σ : L2.St} {H : Hp} {s : Shared} {x : V} {u t : Value} (I : L2.Inv X pins σ H s) (rx : RelV x u) (y : TyY X.K H x t) : ∃ W : Heap → Prop, PySem.W.KitX X.K u t W ∧ W s.heap ∧ u ≠ .builtin "__main__.__loader__#opaque" := by
  cases y with
  | kit h => exact kit_of I rx h
  | @walked a o kvs h =>
    obtain rfl : u = Value.ref a := rx
    obtain ⟨_, e1, e2, _⟩ := I.frzT h
    exact ⟨_, PySem.W.kitx_dict, ⟨o, e1, e2.1⟩, fun z => nomatch z⟩
def rIsY (K : PySem.W.Frag) : List V → Hp → VK → Prop := fun vs H Q => ∃ (x c : V) (t u : Value) (b : Bool), vs = [x, c] ∧ ClsV c u ∧ TyY K H x t ∧ PySem.W.kitOne K t u = some b ∧ Q (.bl b) H
theorem cr_isY {X : Cx} : CallR X (.builtin "isinstance") (rIsY X.K) := fun pins s σ H vs us Q I rs h => by
  obtain ⟨x, c, t, u, b, rfl, kc, y, hb, q⟩ := h
  obtain ⟨v1, v2, rfl, q1, q2⟩ := vals2 rs
  obtain rfl := kc.eq q2
  obtain ⟨W, hW, w, hn⟩ := y.found I q1
  exact PySem.W.kia_one hW I.kIn w hb hn fun tk => ⟨.bl b, H, I.tok tk, rfl, q⟩
def rIsYs (K : PySem.W.Frag) : List V → Hp → VK → Prop := fun vs H Q => ∃ (x : V) (T : Addr) (cs : List V) (t : Value) (ws : List Value) (b : Bool), vs = [x, .ref T] ∧ H T = some (.tup cs) ∧ Paired ClsV cs ws ∧ TyY K H x t ∧ PySem.W.kitAny K t ws = some b ∧ Q (.bl b) H
theorem cr_isYs {X : Cx} : CallR X (.builtin "isinstance") (rIsYs X.K) := fun pins s σ H vs us Q I rs h => by
  obtain ⟨x, T, cs, t, ws, b, rfl, hT, kc, y, hb, q⟩ := h
  obtain ⟨v1, v2, rfl, q1, q2⟩ := vals2 rs
  obtain rfl : v2 = Value.ref T := q2
  obtain ⟨W, hW, w, hn⟩ := y.found I q1
  obtain ⟨_, its, rv, ⟨oc, od, dt, sl⟩, e1, e2, n, e3⟩ := (I.hok T _ hT : ObjOk X.prog X.w H s.heap T (.tup cs))
  obtain rfl := ClsV.all kc rv
  simp only at e2 e3
  subst e2 e3
  exact PySem.W.kia_tup hW I.kIn w e1 hb hn fun tk => ⟨.bl b, H, I.tok tk, rfl, q⟩
theorem View.tyX (sub : Sub F H) {v : V} {d : D} (h : View Δ F H v d) (ok : isiOk d = true) : TyY Δ.K H v (.type (tyN d)) := by
  cases d with
  | non => rw [h.non]; exact .kit (.base .non)
  | bl b => rw [h.bl]; exact .kit (.base (.bl b))
  | int i => rw [h.int]; exact .kit (.base (.int i))
  | str s => rw [h.str]; exact .kit (.base (.str s))
  | tup ds =>
    obtain ⟨a, xs, rfl, h1, _⟩ := h.tupH sub
    exact .kit (.base (.tup h1))
  | lst ds =>
    obtain ⟨a, xs, rfl, h1, _⟩ := h.lst sub
    rcases h1 with q | ⟨o, q⟩
    · exact .kit (.base (.lst q))
    · exact .kit (.base (.frz q))
  | dct t kvs => cases t with
    | false =>
      obtain ⟨a, ks, rfl, h1, _⟩ := h.dk sub
      rcases h1 with q | ⟨o, q⟩
      · exact .kit (.base (.dK q))
      · exact .kit (.fDict q)
    | true =>
      obtain ⟨a, ks, rfl, h1, _⟩ := h.dt sub
      rcases h1 with q | ⟨o, q⟩
      · exact .kit (.base (.dT q))
      · exact .walked q
  | ins _ _ => cases ok
  | fn _ => cases ok
  | kl _ => cases ok
theorem kit_isi {K : PySem.W.Frag} (d : D) (ok : isiOk d = true) (t : Ty) : PySem.W.kitOne K (.type (tyN d)) (.type t.nm) = some (isiD d t) := by
  have key : ∀ (a : String) (r : Bool), kitB a t.nm = some r → a = tyN d → r = isiD d t → PySem.W.kitOne K (.type (tyN d)) (.type t.nm) = some (isiD d t) := fun a r h1 h2 h3 => by
    subst h2 h3
    exact kit_ty h1
  cases d with
  | non => cases t <;> exact key "NoneType" false (by decide +kernel) rfl rfl
  | bl b => cases t <;> first | exact key "bool" false (by decide +kernel) rfl rfl | exact key "bool" true (by decide +kernel) rfl rfl
  | int b => cases t <;> first | exact key "int" false (by decide +kernel) rfl rfl | exact key "int" true (by decide +kernel) rfl rfl
  | str b => cases t <;> first | exact key "str" false (by decide +kernel) rfl rfl | exact key "str" true (by decide +kernel) rfl rfl
  | tup b => cases t <;> first | exact key "tuple" false (by decide +kernel) rfl rfl | exact key "tuple" true (by decide +kernel) rfl rfl
  | lst b => cases t <;> first | exact key "list" false (by decide +kernel) rfl rfl | exact key "list" true (by decide +kernel) rfl rfl
  | dct t0 b => cases t <;> first | exact key "dict" false (by decide +kernel) rfl rfl | exact key "dict" true (by decide +kernel) rfl rfl
  | ins _ _ => cases ok
  | fn _ => cases ok
  | kl _ => cases ok
theorem kit_any {K : PySem.W.Frag} (d : D) (ok : isiOk d = true) : ∀ ts : List Ty, PySem.W.kitAny K (.type (tyN d)) (ts.map fun t => .type t.nm) = some (ts.any (isiD d))
  | [] => rfl
  | t :: ts => by
    rw [List.map_cons, List.any_cons]
    refine kitAny_cons (kit_isi d ok t) (fun e => ?_) fun e => ?_
    · rw [e]
      exact kit_any d ok ts
    · rw [e]
      rfl
theorem isi_core (t' : List Ty) (he : SndE X Δ Γ e e') (g : Ag Δ τ σ H F) {Q : VK} (hQ : PostG X Δ (GE Δ Q) τ σ H F (ev Γ (.isi e' t') τ)) :
    wpE X e σ H fun x H1 => ∃ (F1 : Hp) (d : D), Sub F1 H1 ∧ View Δ F1 H1 x d ∧ isiOk d = true ∧ (∀ F2 H2, Made Δ F1 H1 (.val (.bl (t'.any (isiD d)))) (.bl (t'.any (isiD d))) H2 F2 → Q (.bl (t'.any (isiD d))) H2) ∧ (∀ p o, H1 p = none → Q (.bl (t'.any (isiD d))) (upd H1 p o)) := by
  rw [ev] at hQ
  refine he.bind GE.shift g hQ fun x τ1 v H1 F1 p1 r1 hQ => ?_
  cases e1 : vw x τ1 with
  | none => rw [e1] at hQ; exact hQ.elim
  | some d =>
    rw [e1] at hQ
    cases e2 : isiOk d with
    | false => simp only [e2] at hQ; exact hQ.elim
    | true =>
      simp only [e2] at hQ
      refine ⟨F1, d, p1.ag.sub, r1.view p1.ag e1, e2, fun F2 H2 m => made_done p1.ag hQ _ _ _ m, fun p o hp => ?_⟩
      have m : Made Δ F1 H1 (.ol []) (.ref p) (upd H1 p (.lst [])) F1 := .lst hp .nil
      refine hQ _ _ F1 ?_ (.bl _)
      refine ⟨p1.ag.laid hp, Ext.refl _, fun a u e _ => ?_, fun a u e n => ?_, fun i y e o => ⟨y, e, o⟩, fun a u e => ?_⟩
      · rw [upd_ne (ne_of_none e hp)]; exact e
      · rw [n] at e; cases e
      · exact ⟨u, by rw [upd_ne (ne_of_none e hp)]; exact e⟩
/-- isinstance(e, T) -/
theorem s_isi1 {p p2 : Pos} (hK : X.K = Δ.K) (t : Ty) (hg : Gl X "isinstance") (hm : X.mg "isinstance" = none) (hg2 : Gl X t.nm) (hm2 : X.mg t.nm = none)
    (hs : starEach [e, .Name t.nm p2] X.env = (false, eval e X.env) :: starEach [.Name t.nm p2] X.env) (he : SndE X Δ Γ e e') : SndE X Δ Γ (.Call (.Name "isinstance" p) [e, .Name t.nm p2] [] pos) (.isi e' [t]) := by
  intro τ σ H F g Q hQ
  have hb : bootBuiltins t.nm = some (.type t.nm) := by cases t <;> decide +kernel
  have h2 : PE X (.Name (t.nm : Str) p2) (tC (.ty t.nm)) := pe_bltn hg2 hm2 hb rfl (by cases t <;> decide +kernel) (by cases t <;> decide +kernel)
  refine wpE_of (pe_callB cr_isY hg hm boot_isinstance (pa_cons (pe0 e) (pa_cons h2 pa_nil) hs) (he := hs)) ?_
  refine (isi_core [t] he g hQ).imp fun v H1 ⟨F1, d, sub, vv, ok, q, _⟩ => ?_
  refine ⟨v, .ty t.nm, _, _, _, rfl, .ty _, hK ▸ vv.tyX sub ok, kit_isi d ok t, ?_⟩
  have := q F1 H1 .bl
  rw [List.any_cons, List.any_nil, Bool.or_false] at this
  exact this
/-- isinstance(e, (T, U)) -/
theorem s_isi2 {p p2 p3 p4 : Pos} {k} (hK : X.K = Δ.K) (t u : Ty) (hg : Gl X "isinstance") (hm : X.mg "isinstance" = none) (hg2 : Gl X t.nm) (hm2 : X.mg t.nm = none) (hg3 : Gl X u.nm) (hm3 : X.mg u.nm = none)
    (hs : starEach [e, .Tuple [.Name t.nm p2, .Name u.nm p3] k p4] X.env = (false, eval e X.env) :: starEach [.Tuple [.Name t.nm p2, .Name u.nm p3] k p4] X.env) (he : SndE X Δ Γ e e') :
    SndE X Δ Γ (.Call (.Name "isinstance" p) [e, .Tuple [.Name t.nm p2, .Name u.nm p3] k p4] [] pos) (.isi e' [t, u]) := by
  intro τ σ H F g Q hQ
  have hb : ∀ t : Ty, bootBuiltins t.nm = some (.type t.nm) := fun t => by cases t <;> decide +kernel
  have h2 : PE X (.Name (t.nm : Str) p2) (tC (.ty t.nm)) := pe_bltn hg2 hm2 (hb t) rfl (by cases t <;> decide +kernel) (by cases t <;> decide +kernel)
  have h3 : PE X (.Name (u.nm : Str) p3) (tC (.ty u.nm)) := pe_bltn hg3 hm3 (hb u) rfl (by cases u <;> decide +kernel) (by cases u <;> decide +kernel)
  refine wpE_of (pe_callB cr_isYs hg hm boot_isinstance (pa_cons (pe0 e) (pa_cons (pe_tup (pa_cons h2 (pa_cons h3 pa_nil))) pa_nil) hs) (he := hs)) ?_
  refine (isi_core [t, u] he g hQ).imp fun v H1 ⟨F1, d, sub, vv, ok, _, q⟩ => ?_
  refine ⟨size_small (show (2 : Nat) ≤ 1000 by decide), fun p hp => ?_⟩
  have sub2 : Sub F1 (upd H1 p (.tup [.ty t.nm, .ty u.nm])) := sub.write (sub.free hp)
  have vv2 : View Δ F1 (upd H1 p (.tup [.ty t.nm, .ty u.nm])) v d := by
    rcases vv with h | ⟨a, x, rfl, e, hF, o⟩
    · exact .inl h
    · exact .inr ⟨a, x, rfl, e, hF, o.mono (Ext.refl _) fun u e => by rw [upd_ne (ne_of_none e hp)]; exact e⟩
  exact ⟨v, p, [.ty t.nm, .ty u.nm], _, [.type t.nm, .type u.nm], _, rfl, upd_same, .cons (.ty _) (.cons (.ty _) .nil), hK ▸ vv2.tyX sub2 ok, kit_any d ok [t, u], q p _ hp⟩

/-! ### o.f -/
theorem fs_lookup (inj : ∀ i j, Δ.fld i = Δ.fld j → i = j) : ∀ {vs : List (Str × V)} {fs : List (Nat × D)} {f : Nat} {d : D}, RepFs Δ F vs fs → fget fs f = some d → ∃ v, vs.lookup (Δ.fld f) = some v ∧ Rep Δ F v d
  | _, _, f, d, .nil, h => by rw [fget] at h; cases h
  | _, _, f, d, .cons (f := k) (v := v) r t, h => by
    rw [fget] at h
    rw [List.lookup_cons]
    by_cases e : k = f
    · subst e
      rw [if_pos rfl] at h
      cases h
      rw [beq_self_eq_true]
      exact ⟨v, rfl, r⟩
    · rw [if_neg e] at h
      have e2 : (Δ.fld f == Δ.fld k) = false := by
        rw [beq_eq_false_iff_ne]
        exact fun z => e (inj _ _ z.symm)
      rw [e2]
      exact fs_lookup inj t h
theorem s_attr {f : Nat} (hK : X.K = Δ.K) (inj : ∀ i j, Δ.fld i = Δ.fld j → i = j) (hC : ∀ c, Cls X.K (Δ.cls c) ∧ NoAttr X.K (Δ.cls c) (Δ.fld f)) (hb : attributeBase e (Δ.fld f) X.env (eval e X.env) = eval e X.env) (he : SndE X Δ Γ e e') :
    SndE X Δ Γ (.Attribute e (Δ.fld f) pos) (.attr e' f) := by
  intro τ σ H F g Q hQ
  rw [ev] at hQ
  refine wpE_of (pe_fld (pe0 e) hb) ?_
  refine he.bind GE.shift g hQ fun x τ1 v H1 F1 p1 r1 hQ => ?_
  cases e1 : vw x τ1 with
  | none => rw [e1] at hQ; exact hQ.elim
  | some d =>
    rw [e1] at hQ
    have vv := r1.view p1.ag e1
    cases d with
    | ins c fs =>
      cases e2 : fget fs f with
      | none => simp only [e2] at hQ; exact hQ.elim
      | some d' =>
        simp only [e2] at hQ
        obtain ⟨a, dx, vs, rfl, h1, h2⟩ := vv.ins p1.ag.sub
        obtain ⟨w, h3, h4⟩ := fs_lookup inj h2 e2
        exact ⟨a, Δ.cls c, dx, vs, w, rfl, h1, (hC c).1, (hC c).2, h3, made_done p1.ag hQ _ _ _ (.old h4)⟩
    | _ => exact hQ.elim
end
end CL

set_option autoImplicit false
set_option linter.all false
set_option Elab.async false
set_option maxRecDepth 100000
set_option maxHeartbeats 1000000
/-! CLCall: calls, new objects, methods of lists. -/
namespace CL
open PySem PySem.Spec PyProof.Rows L2
/-- what a def is handed -/
inductive ArgsOk (Δ : Nm) (H G : Hp) : Bool → List V → List C → Prop
  | plain {vs : List V} {ds : List D} : Reps Δ G vs ds → ArgsOk Δ H G false vs (ds.map .val)
  | io {a : Addr} {x : C} {vs : List V} {ds : List D} : G a = none → OwnAt Δ G H a x → Reps Δ G vs ds → ArgsOk Δ H G true (.ref a :: vs) (x :: ds.map .val)
/-- its first argument, if it may change it -/
def isIo (io : Bool) (vs : List V) (b : Addr) : Prop := io = true ∧ vs.head? = some (.ref b)
structure CallPost (Δ : Nm) (io : Bool) (vs : List V) (H G H' G' : Hp) : Prop where
  sub : Sub G' H'
  ext : Ext G G'
  keep : ∀ b o, H b = some o → ¬ isIo io vs b → H' b = some o
  froz : ∀ b o, G' b = some o → G b = none → Nw H b
  dom : ∀ b o, H b = some o → ∃ u, H' b = some u
/-- its end -/
def CallEnd (Δ : Nm) (io : Bool) (vs : List V) (H G : Hp) (Q : VK) : FR → Prop
  | .ok r y => ∀ v H' G', CallPost Δ io vs H G H' G' → OpRel Δ [] [] H H' G' v (.c r) → (io = true → ∃ a z, vs.head? = some (.ref a) ∧ y = some z ∧ G' a = none ∧ OwnAt Δ G' H' a z) → Q v H'
  | _ => False
/-- a def's promise -/
def spF (Δ : Nm) (Fn : Fun) : Sp := fun vs H Q E => vs.length = Fn.ar ∧ ∃ G xs, Sub G H ∧ ArgsOk Δ H G Fn.io vs xs ∧ CallEnd Δ Fn.io vs H G Q (Fn.run xs)

theorem ownB_iff {x : C} (h : x.ownB = true) : x.isOwn := by
  cases x <;> first | (cases h; done) | trivial
section
variable {X : Cx} {Δ : Nm} {Γ : Ctx} {pos : Pos} {α : Type} {G : Tg α} {τ : CL.St} {σ : L2.St} {H F : Hp}
theorem OpRel.any {τ' : CL.St} {σ' : L2.St} {H₀ : Hp} {v : V} {x : C} (h : OpRel Δ τ σ H₀ H F v (.c x)) : OpRel Δ τ' σ' H₀ H F v (.c x) := by
  cases x <;> exact h
/-- behind a call that changes nothing of what is there -/
theorem Ag.call0 {H' G' : Hp} (g : Ag Δ τ σ H F) (sub : Sub G' H') (ext : Ext F G') (keep : ∀ b o, H b = some o → H' b = some o) (froz : ∀ b o, G' b = some o → F b = none → Nw H b) : Ag Δ τ σ H' G' := by
  refine ⟨sub, g.len, fun i x e => ?_, g.apart⟩
  obtain ⟨v, hv, r⟩ := g.at_ i x e
  refine ⟨v, hv, ?_⟩
  by_cases ho : x.isOwn
  · obtain ⟨a, rfl, hF, oa⟩ := r.own ho
    obtain ⟨u, hu⟩ := oa.there
    refine .of_own ?_ (oa.mono ext (keep a))
    cases q : G' a with
    | none => rfl
    | some o =>
      exact (oa.nw (froz a o q hF)).elim
  · cases x <;> first | exact absurd trivial ho | exact Rep.mono ext r
theorem Post.call0 {H' G' : Hp} (g : Ag Δ τ σ H F) (sub : Sub G' H') (ext : Ext F G') (keep : ∀ b o, H b = some o → H' b = some o) (froz : ∀ b o, G' b = some o → F b = none → Nw H b) : Post Δ τ τ σ H F H' G' :=
  ⟨g.call0 sub ext keep froz, ext, fun a o h _ => keep a o h, fun a o h n => .inr (froz a o h n), fun i x e o => ⟨x, e, o⟩, fun a o h => ⟨o, keep a o h⟩⟩
theorem call0_core {Fn : Fun} {os : List Opd} {vs : List V} {τ1 : CL.St} {H1 F1 : Hp} {Q : VK} {E : XK} (g : Ag Δ τ σ H F) (p1 : Post Δ τ τ1 σ H F H1 F1) (r1 : OpRels Δ τ1 σ H H1 F1 vs os) (hl : os.length = Fn.ar) (hio : Fn.io = false)
    (hQ : PostG X Δ (GE Δ Q) τ σ H F (call0 Fn os τ1)) : spF Δ Fn (vs ++ []) H1 Q E := by
  rw [List.append_nil]
  unfold call0 at hQ
  cases e2 : CL.frzs os τ1 with
  | none => rw [e2] at hQ; exact hQ.elim
  | some q =>
    obtain ⟨ds, τ2⟩ := q
    rw [e2] at hQ
    obtain ⟨F2, p2, rs, _⟩ := Post.frzs g p1 r1 e2
    refine ⟨by rw [r1.len, hl], F2, ds.map .val, p2.ag.sub, by rw [hio]; exact .plain rs, ?_⟩
    rw [hio]
    cases e3 : Fn.run (ds.map .val) with
    | exc x y => simp only [e3] at hQ; exact hQ.elim
    | no => simp only [e3] at hQ; exact hQ.elim
    | ok r y =>
      simp only [e3] at hQ
      intro v H' G' cp rr _
      have p3 : Post Δ τ2 τ2 σ H1 F2 H' G' := .call0 p2.ag cp.sub cp.ext (fun b o h => cp.keep b o h fun z => nomatch z.1) cp.froz
      exact hQ v H' G' (p2.trans p3) (OpRel.older p2 rr.any)
theorem call1_core {Fn : Fun} {os : List Opd} {vs : List V} {τ1 : CL.St} {H1 F1 : Hp} {Q : VK} {E : XK} (g : Ag Δ τ σ H F) (p1 : Post Δ τ τ1 σ H F H1 F1) (r1 : OpRels Δ τ1 σ H H1 F1 vs os)
    (hQ : PostG X Δ (GE Δ Q) τ σ H F (call1 Fn os τ1)) : spF Δ Fn (vs ++ []) H1 Q E := by
  unfold call1 at hQ
  by_cases hl : os.length = Fn.ar
  · rw [if_pos hl] at hQ
    cases hio : Fn.io with
    | false =>
      rw [hio] at hQ
      exact call0_core g p1 r1 hl hio hQ
    | true =>
      rw [hio] at hQ
      rw [List.append_nil]
      unfold io1 at hQ
      cases os with
      | nil => exact hQ.elim
      | cons o rest =>
        cases o with
        | c x => exact hQ.elim
        | loc i =>
          obtain ⟨ra, ap⟩ := r1
          obtain ⟨v0, ws, rfl, r0, rt⟩ := paired_cons ra
          simp only at hQ
          cases e2 : CL.frzs rest τ1 with
          | none => rw [e2] at hQ; exact hQ.elim
          | some q =>
            obtain ⟨ds, τ2⟩ := q
            rw [e2] at hQ
            obtain ⟨F2, p2, rs, _⟩ := Post.frzs g p1 ⟨rt, ap⟩ e2
            cases e4 : get τ2 i with
            | none => simp only [e4] at hQ; exact hQ.elim
            | some x =>
              simp only [e4] at hQ
              cases e5 : x.ownB with
              | false => rw [e5] at hQ; exact hQ.elim
              | true =>
                rw [e5, if_pos rfl] at hQ
                have ho := ownB_iff e5
                obtain ⟨w, hw, rw0⟩ := p2.ag.at_ i x e4
                rw [show σ[i]? = some (some v0) from r0] at hw
                cases hw
                obtain ⟨a, rfl, hF, oa⟩ := rw0.own ho
                refine ⟨by rw [← hl, List.length_cons, List.length_cons, Paired.length rt], F2, x :: ds.map .val, p2.ag.sub, by rw [hio]; exact .io hF oa rs, ?_⟩
                rw [hio]
                cases e3 : Fn.run (x :: ds.map .val) with
                | exc x y =>
                  simp only [e3] at hQ
                  cases y <;> exact hQ.elim
                | no => simp only [e3] at hQ; exact hQ.elim
                | ok r y =>
                  simp only [e3] at hQ
                  cases y with
                  | none => exact hQ.elim
                  | some y =>
                  intro v H' G' cp rr hy
                  obtain ⟨a', z, h1, h2, h3, h4⟩ := hy rfl
                  cases h1
                  cases h2
                  have hi := get_lt e4
                  have w1 : Wr τ2 σ a := ⟨i, x, e4, ho, r0⟩
                  have p3 : Post Δ τ2 (put τ2 i (some y)) σ H1 F2 H' G' := by
                    refine ⟨⟨cp.sub, (put_length _ _ _).trans p2.ag.len, fun j y' ej => ?_, fun j k y1 y2 b e1 e2 o1 o2 s1 s2 => ?_⟩, cp.ext, fun b o hb nw => cp.keep b o hb fun q => nw ?_, fun b o hb hn => .inr (cp.froz b o hb hn), fun j y' ej oj => ?_, cp.dom⟩
                    · rcases get_put_eq ej with ⟨rfl, q⟩ | ⟨ne, q⟩
                      · cases q
                        exact ⟨_, r0, .of_own h3 h4⟩
                      · obtain ⟨u, hu, ru⟩ := p2.ag.at_ j y' q
                        refine ⟨u, hu, ?_⟩
                        by_cases hoj : y'.isOwn
                        · obtain ⟨b, rfl, hFb, ob⟩ := ru.own hoj
                          obtain ⟨t, ht⟩ := ob.there
                          have hba : b ≠ a := fun z => ne (p2.ag.apart j i y' x b q e4 hoj ho hu (by rw [z]; exact r0))
                          refine .of_own ?_ (ob.mono cp.ext fun o ho => cp.keep b o ho fun q => ?_)
                          · cases q : G' b with
                            | none => rfl
                            | some o =>
                              exact (ob.nw (cp.froz b o q hFb)).elim
                          · obtain ⟨_, q⟩ := q
                            cases q
                            exact hba rfl
                        · cases y' <;> first | exact absurd trivial hoj | exact Rep.mono cp.ext ru
                    · have own1 : ∃ z, get τ2 j = some z ∧ z.isOwn := by
                        rcases get_put_eq e1 with ⟨rfl, q⟩ | ⟨ne, q⟩
                        · exact ⟨x, e4, ho⟩
                        · exact ⟨y1, q, o1⟩
                      have own2 : ∃ z, get τ2 k = some z ∧ z.isOwn := by
                        rcases get_put_eq e2 with ⟨rfl, q⟩ | ⟨ne, q⟩
                        · exact ⟨x, e4, ho⟩
                        · exact ⟨y2, q, o2⟩
                      obtain ⟨z1, q1, q2⟩ := own1
                      obtain ⟨z2, q3, q4⟩ := own2
                      exact p2.ag.apart j k z1 z2 b q1 q3 q2 q4 s1 s2
                    · obtain ⟨_, q⟩ := q
                      cases q
                      exact w1
                    · rcases get_put_eq ej with ⟨rfl, q⟩ | ⟨ne, q⟩
                      · exact ⟨x, e4, ho⟩
                      · exact ⟨y', q, oj⟩
                  exact hQ v H' G' (p2.trans p3) (OpRel.older p2 rr.any)
  · rw [if_neg hl] at hQ
    exact hQ.elim
variable {es : List Expr} {es' : List E} {e : Expr} {e' : E}
/-- f(e, ..) -/
theorem s_call {k j : Nat} {f : Nat} {Fn : Fun} {x : Str} {p : Pos} (hf : Γ.fn f = some Fn) (c : C8.Cal X.prog X.w X.K X.mg X.base k x (spF Δ Fn) []) (hr : Room j X.A) (hk : k ≤ j)
    (hg : Gl X x) (hdb : (x == ("__debug__" : Str)) = false)
    (he : starEach (e :: es) X.env = (false, eval e X.env) :: starEach es X.env) (hpl : (backTo pos (starEach es X.env)).any (·.1) = false) (h : SndA X Δ Γ (e :: es) es') :
    SndE X Δ Γ (.Call (.Name x p) (e :: es) [] pos) (.call f es') := by
  intro τ σ H F g Q hQ
  rw [ev] at hQ
  refine wpE_of (C8.pe_c c hr hk hg (pa0 _) hdb he hpl) ?_
  refine h.bind' g hQ fun os τ1 vs H1 F1 e1 p1 r1 hQ => ?_
  rw [hf] at hQ
  exact call1_core g p1 r1 hQ
/-- C(e, ..) -/
theorem s_mk {k j : Nat} {c : Nat} {Fn : Fun} {x : Str} {p : Pos} (hio : Fn.io = true) (hf : Γ.cls c = some (mkFun Fn c)) (mk : C8.Mak X.prog X.w X.K X.mg X.base k x (Δ.cls c) (spF Δ Fn) []) (hr : Room j X.A) (hk : k + 1 ≤ j)
    (hg : Gl X x) (hdb : (x == ("__debug__" : Str)) = false) (har : Fn.ar = es.length + 2)
    (he : starEach (e :: es) X.env = (false, eval e X.env) :: starEach es X.env) (hpl : (backTo pos (starEach es X.env)).any (·.1) = false) (h : SndA X Δ Γ (e :: es) es') :
    SndE X Δ Γ (.Call (.Name x p) (e :: es) [] pos) (.mk c es') := by
  intro τ σ H F g Q hQ
  rw [ev] at hQ
  refine wpE_of (C8.pe_mk mk hr hk hg (pa0 _) hdb he hpl) ?_
  refine h.bind' g hQ fun os τ1 vs H1 F1 e1 p1 r1 hQ => ?_
  rw [hf] at hQ
  simp only [mk1] at hQ
  by_cases hl : os.length = (mkFun Fn c).ar
  · rw [if_pos hl] at hQ
    unfold call0 at hQ
    cases e2 : CL.frzs os τ1 with
    | none => rw [e2] at hQ; exact hQ.elim
    | some q =>
      obtain ⟨ds, τ2⟩ := q
      rw [e2] at hQ
      obtain ⟨F2, p2, rs, _⟩ := Post.frzs g p1 r1 e2
      intro xa dx hx hdx hne
      rw [List.append_nil]
      have hF2x : F2 xa = none := p2.ag.sub.free hx
      have hF2d : F2 dx = none := p2.ag.sub.free hdx
      have hl2 : os.length = Fn.ar - 1 := hl
      refine ⟨by rw [List.length_cons, r1.len, hl2, har]; rfl, F2, .oi c [] :: ds.map .val, (p2.ag.sub.write hF2d).write hF2x, by rw [hio]; exact .io hF2x ⟨dx, [], upd_same, .nil⟩ rs, ?_⟩
      simp only [mkFun] at hQ
      rw [hio]
      cases e3 : Fn.run (.oi c [] :: ds.map .val) with
      | exc x y => simp only [e3] at hQ; exact hQ.elim
      | no => simp only [e3] at hQ; exact hQ.elim
      | ok r y =>
        simp only [e3] at hQ
        cases r with
        | val d =>
          cases d <;> first | (cases y <;> exact hQ.elim) | skip
          cases y with
          | none => exact hQ.elim
          | some y =>
            intro v H' G' cp rr hy
            obtain ⟨a', z, h1, h2, h3, h4⟩ := hy rfl
            cases h1
            cases h2
            have hv : v = .non := by cases (show Rep Δ G' v .non from rr); rfl
            have keep : ∀ b o, H1 b = some o → H' b = some o := fun b o hb => by
              have n1 : b ≠ xa := ne_of_none hb hx
              have n2 : b ≠ dx := ne_of_none hb hdx
              refine cp.keep b o (by rw [upd_ne n1, upd_ne n2]; exact hb) fun q => ?_
              obtain ⟨_, q⟩ := q
              cases q
              exact n1 rfl
            have p3 : Post Δ τ2 τ2 σ H1 F2 H' G' := .call0 p2.ag cp.sub cp.ext keep fun b o hb hn => by
              have hz := cp.froz b o hb hn
              intro u q
              exact hz u (by rw [upd_ne (ne_of_none q hx), upd_ne (ne_of_none q hdx), q])
            exact ⟨hv, hQ _ H' G' (p2.trans p3) (OpRel.of_own (p2.gone hx) h3 h4)⟩
        | _ => cases y <;> exact hQ.elim
  · rw [if_neg hl] at hQ
    exact hQ.elim
end
end CL

set_option autoImplicit false
set_option linter.all false
set_option Elab.async false
set_option maxRecDepth 100000
set_option maxHeartbeats 1000000
/-! CLIt: iterators over lists and tuples of any mix. -/
namespace CL
open PySem PySem.Spec PyProof.Rows L2

/-- a list (false) or a tuple (true) -/
def SqX : Bool → PySem.W.Frag → Hp → Addr → List V → Prop
  | false => SqL
  | true => SqT
def ItX : Bool → Heap → Addr → Addr → Nat → Prop
  | false => Heap.IsListIter
  | true => Heap.IsTupleIter
def StX : Bool → Heap → Addr → Array Value → Prop
  | false => Heap.IsList
  | true => Heap.IsTuple
section
variable {X : Cx} {pins : List (Addr × Obj)} {σ : L2.St} {H : Hp} {s : Shared} {a it : Addr} {xs ys : List V}
theorem Inv.sqx {k : Bool} (I : L2.Inv X pins σ H s) (h : SqX k X.K H a xs) : ∃ its : List Value, Vals xs its ∧ StX k s.heap a its.toArray := by
  cases k with
  | false =>
    obtain ⟨its, rv, p, _⟩ := I.list h
    exact ⟨its, rv, p.isList⟩
  | true =>
    obtain ⟨its, rv, p, _⟩ := I.tuple h
    exact ⟨its, rv, p⟩
theorem Inv.sqx_inj {k : Bool} (I : L2.Inv X pins σ H s) (h : SqX k X.K H a xs) (h' : SqX k X.K H a ys) : ys = xs := by
  cases k with
  | false => exact I.list_inj h' h
  | true => exact I.tuple_inj h' h
theorem drawsX {P : Program} {w : World} {A : Around} (hh : A.handled = none) {k : Bool} (hne : a ≠ it) (its : Array Value) :
    Draws P w A it [it, a] its.size (fun i v => its[i]? = some v) (fun i h => ItX k h it a i ∧ StX k h a its) := by
  cases k with
  | false => exact Draws.list hh it a hne its
  | true => exact Draws.tuple hh it a hne its
theorem ItX.obj {k : Bool} {h : Heap} {i : Nat} (x : ItX k h it a i) : ∃ o, h.get? it = some o ∧ ∀ v, o.data ≠ .cell v := by
  cases k with
  | false => obtain ⟨o, e, _, d⟩ := x; exact ⟨o, e, fun v q => by rw [d] at q; cases q⟩
  | true => obtain ⟨o, e, _, d⟩ := x; exact ⟨o, e, fun v q => by rw [d] at q; cases q⟩
theorem ItX.at {k : Bool} {h h' : Heap} {i : Nat} (x : ItX k h it a i) (e : ∀ o, h.get? it = some o → h'.get? it = some o) : ItX k h' it a i := by
  cases k with
  | false => exact Heap.IsListIter.at x e
  | true => obtain ⟨o, q, r⟩ := x; exact ⟨o, e o q, r⟩
theorem StX.ne {k : Bool} {h : Heap} {its : Array Value} {i : Nat} {b : Addr} (x : StX k h a its) (y : ItX k h it b i) : a ≠ it := by
  rintro rfl
  cases k with
  | false =>
    obtain ⟨o1, e1, c1, _⟩ := x
    obtain ⟨o2, e2, c2, _⟩ := y
    rw [e1] at e2; cases e2
    rw [c1] at c2
    exact absurd (Value.type.inj c2) (by decide)
  | true =>
    obtain ⟨o1, e1, c1, _⟩ := x
    obtain ⟨o2, e2, c2, _⟩ := y
    rw [e1] at e2; cases e2
    rw [c1] at c2
    exact absurd (Value.type.inj c2) (by decide)
theorem StX.lt {k : Bool} {h : Heap} {its : Array Value} (x : StX k h a its) : a < h.objs.size := by
  cases k with
  | false => obtain ⟨o, e, _⟩ := x; exact Heap.lt_size e
  | true => obtain ⟨o, e, _⟩ := x; exact Heap.lt_size e
end

/-- rows that are walked together -/
def Srcs (K : PySem.W.Frag) (H : Hp) : List (Bool × Addr) → List (List V) → Prop := Paired fun p xs => SqX p.1 K H p.2 xs
/-- the tuples of their items, pre ahead -/
def ItS (K : PySem.W.Frag) (srcs : List (Bool × Addr)) (pre : Nat → List V) : It :=
  ⟨fun i H => ∃ xss, Srcs K H srcs xss ∧ ∀ xs ∈ xss, i < xs.length,
   fun i H v H' => ∃ T vals, v = .ref T ∧ H T = none ∧ H' = upd H T (.tup (pre i ++ vals)) ∧ ∀ xss, Srcs K H srcs xss → Paired (fun (xs : List V) (v : V) => xs[i]? = some v) xss vals,
   fun i H => ∃ xss, Srcs K H srcs xss ∧ (∀ xs ∈ xss, i ≤ xs.length) ∧ ∃ xs ∈ xss, xs.length ≤ i⟩
section
variable {P : Program} {w : World} {K : PySem.W.Frag} {elts : List Expr} {kk : Nat} {tpos : Pos}
/-- a turn by the library's walk -/
theorem turn_walks {srcs : List (Bool × Addr)} {pre : Nat → List V} {fp : List Addr} {it : Addr} {tn : Nat → Heap → Prop} (mem : it ∈ fp) (obj : ∀ i h, tn i h → ∀ b ∈ fp, ∃ o, h.get? b = some o ∧ ∀ v, o.data ≠ .cell v)
    (keep : ∀ i h h', tn i h → (∀ b ∈ fp, ∀ o, h.get? b = some o → h'.get? b = some o) → tn i h') (self : ∀ (A : Around) (i : Nat) (s : Shared) (Q : Value → Shared → Prop) (E : Value → Shared → Prop), tn i s.heap → Q (.ref it) s → wpAny (model P w) A (pyIter (.ref it)) Q E s)
    (core : ∀ (X : Cx), X.prog = P → X.w = w → X.K = K → X.calm = true → ∀ (i : Nat) (pins : List (Addr × Obj)) (s : Shared) (σ : L2.St) (H : Hp), L2.Inv X pins σ H s → tn i s.heap → ∀ xss, Srcs K H srcs xss → (∀ xs ∈ xss, i ≤ xs.length) →
      ∃ (n : Nat) (Pv : Nat → Array Value → Prop) (St : Nat → Heap → Prop) (Mid : Nat → Addr → Heap → Prop) (fp' wr : List Addr), WalksT P w X.A it fp' wr n Pv St Mid ∧ (∀ b ∈ wr, b ∈ fp) ∧ St i s.heap ∧ ((∀ xs ∈ xss, i < xs.length) → i < n) ∧ ((∃ xs ∈ xss, xs.length ≤ i) → i = n) ∧
        (∀ h, St (i + 1) h → tn (i + 1) h) ∧ ∀ vals, Pv i vals → ∃ vs, Vals (pre i ++ vs) vals.toList ∧ Paired (fun (xs : List V) (v : V) => xs[i]? = some v) xss vs ∧ (pre i ++ vs).length ≤ 1000)
    (inj : ∀ (X : Cx), X.K = K → ∀ (pins : List (Addr × Obj)) (s : Shared) (σ : L2.St) (H : Hp), L2.Inv X pins σ H s → ∀ xss yss, Srcs K H srcs xss → Srcs K H srcs yss → yss = xss) :
    Turn P w K (.Tuple elts kk tpos) (ItS K srcs pre) fp it tn where
  mem := mem
  obj := obj
  keep := keep
  self := self
  item := by
    intro X hP hw hK hc i pins s σ H E I hf st ⟨xss, hs, hlt⟩
    obtain ⟨n, Pv, St, Mid, fp', wr, W, sb, hst, h1, h2, h3, h4⟩ := core X hP hw hK hc i pins s σ H I st xss hs fun xs m => Nat.le_of_lt (hlt xs m)
    subst hP hw hK
    refine W.item i s _ _ (h1 hlt) hst fun T vals h' tk hv hsz hT hm hk => ?_
    refine ⟨_, rfl, W.go elts kk tpos i T { s with heap := h', toks := tk } _ _ hm fun h'' hst' hk' => ?_⟩
    obtain ⟨vs, rv, pv, hz⟩ := h4 vals hv
    have hT2 : h''.IsTuple T vals := hT.at fun o e => hk' T o (W.apart _ _ _ hm) e
    have new : ObjOk X.prog X.w (upd H T (.tup (pre i ++ vs))) h'' T (.tup (pre i ++ vs)) := ⟨limS (Nat.le_trans hz (by show 1000 ≤ 1000000; decide)), vals.toList, rv, hT2⟩
    have I1 : L2.Inv X pins σ (upd H T (.tup (pre i ++ vs))) { s with heap := h'', toks := tk } :=
      I.turnedNew (ch := wr) (fun b ob hb q => hk' b ob hb (hk b ob hb q)) (fun b hb => hf b (sb b hb)) hsz new
    refine ⟨.ref T, _, I1, rfl, ⟨T, vs, rfl, I.hok.fresh hsz, rfl, fun yss hy => ?_⟩, h3 _ hst', fun b hb => ?_⟩
    · rw [inj X rfl pins s σ H I xss yss hs hy]
      exact pv
    · obtain ⟨o, e, _⟩ := obj _ _ st b hb
      have hlt : b < T := Nat.lt_of_lt_of_le (Heap.lt_size e) hsz
      rw [upd_ne (Nat.ne_of_lt hlt)]
      exact (hf b hb).1
  done := by
    intro X hP hw hK hc i pins s σ H E I hf st ⟨xss, hs, hle, hend⟩
    obtain ⟨n, Pv, St, Mid, fp', wr, W, sb, hst, h1, h2, h3, h4⟩ := core X hP hw hK hc i pins s σ H I st xss hs hle
    subst hP hw hK
    have e := h2 hend
    subst e
    exact W.done s _ _ hst fun h' tk hk => ⟨rfl, I.turnedL (ch := wr) hk fun b hb => hf b (sb b hb)⟩
end
theorem Srcs.inj {X : Cx} {pins : List (Addr × Obj)} {s : Shared} {σ : L2.St} {H : Hp} (I : L2.Inv X pins σ H s) : ∀ {srcs : List (Bool × Addr)} {xss yss : List (List V)}, Srcs X.K H srcs xss → Srcs X.K H srcs yss → yss = xss
  | _, _, _, .nil, .nil => rfl
  | _, _, _, .cons h1 t1, .cons h2 t2 => by rw [Inv.sqx_inj I h1 h2, Srcs.inj I t1 t2]
section
variable {P : Program} {w : World} {K : PySem.W.Frag} {elts : List Expr} {kk : Nat} {tpos : Pos}
theorem turn_enumX {k : Bool} {a e it : Addr} (hae : a ≠ e) (hai : a ≠ it) (hei : e ≠ it) :
    Turn P w K (.Tuple elts kk tpos) (ItS K [(k, a)] fun i => [.int (i : Nat)]) [e, it] e (fun i h => (∃ old, IsEnum h e it ((i : Nat) : Int) old) ∧ ItX k h it a i) := by
  refine turn_walks (by simp) (fun i h st b hb => ?_) (fun i h h' st kp => ?_) (fun A i s Q E st h => let ⟨⟨_, he⟩, _⟩ := st; wpAny_pyIter_enum he h) ?_ fun X hK pins s σ H I xss yss h1 h2 => ?_
  · obtain ⟨⟨old, he⟩, hi⟩ := st
    have e' : b = e ∨ b = it := by simpa using hb
    rcases e' with z | z
    · rw [z]; exact ⟨_, he, fun v q => nomatch q⟩
    · rw [z]; exact hi.obj
  · obtain ⟨⟨old, he⟩, hi⟩ := st
    exact ⟨⟨old, kp e (by simp) _ he⟩, hi.at fun o q => kp it (by simp) o q⟩
  · intro X hP hw hK hc i pins s σ H I ⟨he, hi⟩ xss hs hle
    subst hP hw hK
    cases hs with
    | cons h1 ht =>
    cases ht
    rename_i xs
    obtain ⟨its, rv, stx⟩ := Inv.sqx I h1
    have hl : xs.length = its.toArray.size := by rw [List.size_toArray]; exact rv.length
    have D := drawsX (P := X.prog) (w := X.w) (A := X.A.in1) (it := it) (I.ok.hd hc) (k := k) hai its.toArray
    refine ⟨_, _, _, _, _, _, WalksT.enumerateD D e hei (by simp; exact ⟨hei, fun z => hae z.symm⟩) (by simp), fun b hb => hb, ⟨he, hi, stx⟩, fun h => ?_, fun h => ?_, fun h st => ⟨st.1, st.2.1⟩, fun vals hv => ?_⟩
    · have := h xs (by simp); omega
    · obtain ⟨ys, hy, h⟩ := h
      have e1 : ys = xs := by simpa using hy
      subst e1
      have := hle ys (by simp)
      omega
    · obtain ⟨t, x, hx, rfl⟩ := hv
      have hx' : its[i]? = some x := by simpa using hx
      cases hxv : xs[i]? with
      | none => rw [rv.none_of hxv] at hx'; cases hx'
      | some v =>
        obtain ⟨u, hu, ru⟩ := rv.get hxv
        rw [hu] at hx'; cases hx'
        exact ⟨[v], .cons ⟨t, rfl⟩ (.cons ru .nil), .cons hxv .nil, by show 2 ≤ 1000; decide⟩
  · subst hK
    exact Srcs.inj I h1 h2
theorem turn_zipX2 {k l : Bool} {a b z TI TO i1 i2 : Addr} (S : ZipSep2 z TI TO i1 i2 [i1, a] [i2, b]) :
    Turn P w K (.Tuple elts kk tpos) (ItS K [(k, a), (l, b)] fun _ => []) [z, TI, TO, i1, i2] z (fun i h => IsZip h z TI TO .none ∧ IsTupOf2 h TI (.ref i1) (.ref i2) ∧ (∃ x y, IsTupOf2 h TO x y) ∧ ItX k h i1 a i ∧ ItX l h i2 b i) := by
  refine turn_walks (by simp) (fun i h st c hc => ?_) (fun i h h' st kp => ?_) (fun A i s Q E st h => wpAny_pyIter_zip st.1 h) ?_ fun X hK pins s σ H I xss yss h1 h2 => ?_
  · obtain ⟨hz, hTI, ⟨x, y, hTO⟩, h1, h2⟩ := st
    have e' : c = z ∨ c = TI ∨ c = TO ∨ c = i1 ∨ c = i2 := by simpa using hc
    rcases e' with q | q | q | q | q
    · rw [q]; exact ⟨_, hz, fun v q => nomatch q⟩
    · rw [q]; exact ⟨_, hTI, fun v q => nomatch q⟩
    · rw [q]; exact ⟨_, hTO, fun v q => nomatch q⟩
    · rw [q]; exact h1.obj
    · rw [q]; exact h2.obj
  · obtain ⟨hz, hTI, ⟨x, y, hTO⟩, h1, h2⟩ := st
    exact ⟨kp z (by simp) _ hz, kp TI (by simp) _ hTI, ⟨x, y, kp TO (by simp) _ hTO⟩, h1.at fun o q => kp i1 (by simp) o q, h2.at fun o q => kp i2 (by simp) o q⟩
  · intro X hP hw hK hc i pins s σ H I ⟨hz, hTI, hTO, ha, hb⟩ xss hs hle
    subst hP hw hK
    cases hs with
    | cons h1 ht =>
    cases ht with
    | cons h2 ht =>
    cases ht
    rename_i xs ys
    obtain ⟨its, rv, stx⟩ := Inv.sqx I h1
    obtain ⟨its2, rv2, sty⟩ := Inv.sqx I h2
    have hl : xs.length = its.toArray.size := by rw [List.size_toArray]; exact rv.length
    have hl2 : ys.length = its2.toArray.size := by rw [List.size_toArray]; exact rv2.length
    have hx : a ≠ i1 := stx.ne ha
    have hy : b ≠ i2 := sty.ne hb
    have D1 := drawsX (P := X.prog) (w := X.w) (A := X.A.in1) (it := i1) (I.ok.hd hc) (k := k) hx its.toArray
    have D2 := drawsX (P := X.prog) (w := X.w) (A := X.A.in1) (it := i2) (I.ok.hd hc) (k := l) hy its2.toArray
    refine ⟨_, _, _, _, _, _, WalksT.zipD2 S D1 D2, fun c hc => by simp at hc ⊢; rcases hc with q | q | q | q <;> simp [q], ⟨hz, hTI, hTO, ⟨ha, stx⟩, hb, sty⟩, fun h => ?_, fun h => ?_, fun h st => ⟨st.1, st.2.1, st.2.2.1, st.2.2.2.1.1, st.2.2.2.2.1⟩, fun vals hv => ?_⟩
    · have := h xs (by simp)
      have := h ys (by simp)
      omega
    · have q1 := hle xs (by simp)
      have q2 := hle ys (by simp)
      obtain ⟨zs, hzs, h⟩ := h
      have e1 : zs = xs ∨ zs = ys := by simpa using hzs
      rcases e1 with rfl | rfl
      · omega
      · omega
    · obtain ⟨x1, x2, hx1, hx2, rfl⟩ := hv
      have hx1' : its[i]? = some x1 := by simpa using hx1
      have hx2' : its2[i]? = some x2 := by simpa using hx2
      cases hxv : xs[i]? with
      | none => rw [rv.none_of hxv] at hx1'; cases hx1'
      | some v =>
        cases hyv : ys[i]? with
        | none => rw [rv2.none_of hyv] at hx2'; cases hx2'
        | some v2 =>
          obtain ⟨u, hu, ru⟩ := rv.get hxv
          rw [hu] at hx1'; cases hx1'
          obtain ⟨u2, hu2, ru2⟩ := rv2.get hyv
          rw [hu2] at hx2'; cases hx2'
          exact ⟨[v, v2], .cons ru (.cons ru2 .nil), .cons hxv (.cons hyv .nil), by show 2 ≤ 1000; decide⟩
  · subst hK
    exact Srcs.inj I h1 h2
theorem turn_zipX3 {k l m : Bool} {a b c z TI TO i1 i2 i3 : Addr} (S : ZipSep3 z TI TO i1 i2 i3 [i1, a] [i2, b] [i3, c]) :
    Turn P w K (.Tuple elts kk tpos) (ItS K [(k, a), (l, b), (m, c)] fun _ => []) [z, TI, TO, i1, i2, i3] z (fun i h => IsZip h z TI TO .none ∧ IsTupOf3 h TI (.ref i1) (.ref i2) (.ref i3) ∧ (∃ x y t, IsTupOf3 h TO x y t) ∧ ItX k h i1 a i ∧ ItX l h i2 b i ∧ ItX m h i3 c i) := by
  refine turn_walks (by simp) (fun i h st d hc => ?_) (fun i h h' st kp => ?_) (fun A i s Q E st h => wpAny_pyIter_zip st.1 h) ?_ fun X hK pins s σ H I xss yss h1 h2 => ?_
  · obtain ⟨hz, hTI, ⟨x, y, t, hTO⟩, h1, h2, h3⟩ := st
    have e' : d = z ∨ d = TI ∨ d = TO ∨ d = i1 ∨ d = i2 ∨ d = i3 := by simpa using hc
    rcases e' with q | q | q | q | q | q
    · rw [q]; exact ⟨_, hz, fun v q => nomatch q⟩
    · rw [q]; exact ⟨_, hTI, fun v q => nomatch q⟩
    · rw [q]; exact ⟨_, hTO, fun v q => nomatch q⟩
    · rw [q]; exact h1.obj
    · rw [q]; exact h2.obj
    · rw [q]; exact h3.obj
  · obtain ⟨hz, hTI, ⟨x, y, t, hTO⟩, h1, h2, h3⟩ := st
    exact ⟨kp z (by simp) _ hz, kp TI (by simp) _ hTI, ⟨x, y, t, kp TO (by simp) _ hTO⟩, h1.at fun o q => kp i1 (by simp) o q, h2.at fun o q => kp i2 (by simp) o q, h3.at fun o q => kp i3 (by simp) o q⟩
  · intro X hP hw hK hc i pins s σ H I ⟨hz, hTI, hTO, ha, hb, hcc⟩ xss hs hle
    subst hP hw hK
    cases hs with
    | cons h1 ht =>
    cases ht with
    | cons h2 ht =>
    cases ht with
    | cons h3 ht =>
    cases ht
    rename_i xs ys zs
    obtain ⟨its, rv, stx⟩ := Inv.sqx I h1
    obtain ⟨its2, rv2, sty⟩ := Inv.sqx I h2
    obtain ⟨its3, rv3, stz⟩ := Inv.sqx I h3
    have hl : xs.length = its.toArray.size := by rw [List.size_toArray]; exact rv.length
    have hl2 : ys.length = its2.toArray.size := by rw [List.size_toArray]; exact rv2.length
    have hl3 : zs.length = its3.toArray.size := by rw [List.size_toArray]; exact rv3.length
    have D1 := drawsX (P := X.prog) (w := X.w) (A := X.A.in1) (it := i1) (I.ok.hd hc) (k := k) (stx.ne ha) its.toArray
    have D2 := drawsX (P := X.prog) (w := X.w) (A := X.A.in1) (it := i2) (I.ok.hd hc) (k := l) (sty.ne hb) its2.toArray
    have D3 := drawsX (P := X.prog) (w := X.w) (A := X.A.in1) (it := i3) (I.ok.hd hc) (k := m) (stz.ne hcc) its3.toArray
    refine ⟨_, _, _, _, _, _, WalksT.zipD3 S D1 D2 D3, fun c hc => by simp at hc ⊢; rcases hc with q | q | q | q | q <;> simp [q], ⟨hz, hTI, hTO, ⟨ha, stx⟩, ⟨hb, sty⟩, hcc, stz⟩, fun h => ?_, fun h => ?_, fun h st => ⟨st.1, st.2.1, st.2.2.1, st.2.2.2.1.1, st.2.2.2.2.1.1, st.2.2.2.2.2.1⟩, fun vals hv => ?_⟩
    · have := h xs (by simp)
      have := h ys (by simp)
      have := h zs (by simp)
      omega
    · have q1 := hle xs (by simp)
      have q2 := hle ys (by simp)
      have q3 := hle zs (by simp)
      obtain ⟨us, hus, h⟩ := h
      have e1 : us = xs ∨ us = ys ∨ us = zs := by simpa using hus
      rcases e1 with rfl | rfl | rfl
      · omega
      · omega
      · omega
    · obtain ⟨x1, x2, x3, hx1, hx2, hx3, rfl⟩ := hv
      have hx1' : its[i]? = some x1 := by simpa using hx1
      have hx2' : its2[i]? = some x2 := by simpa using hx2
      have hx3' : its3[i]? = some x3 := by simpa using hx3
      cases hxv : xs[i]? with
      | none => rw [rv.none_of hxv] at hx1'; cases hx1'
      | some v =>
        cases hyv : ys[i]? with
        | none => rw [rv2.none_of hyv] at hx2'; cases hx2'
        | some v2 =>
          cases hzv : zs[i]? with
          | none => rw [rv3.none_of hzv] at hx3'; cases hx3'
          | some v3 =>
            obtain ⟨u, hu, ru⟩ := rv.get hxv
            rw [hu] at hx1'; cases hx1'
            obtain ⟨u2, hu2, ru2⟩ := rv2.get hyv
            rw [hu2] at hx2'; cases hx2'
            obtain ⟨u3, hu3, ru3⟩ := rv3.get hzv
            rw [hu3] at hx3'; cases hx3'
            exact ⟨[v, v2, v3], .cons ru (.cons ru2 (.cons ru3 .nil)), .cons hxv (.cons hyv (.cons hzv .nil)), by show 3 ≤ 1000; decide⟩
  · subst hK
    exact Srcs.inj I h1 h2
end

/-! ### the iterators begin -/
section
variable {X : Cx} {tg e e2 e3 : Expr} {ta : TA} {te : TE} {p pos tpos : Pos} {elts : List Expr} {kk : Nat}
/-- for .. in a row -/
def iSeq (K : PySem.W.Frag) (tl : TE) : TI := fun σ H R => tl σ H fun x H1 => ∃ a, x = .ref a ∧ (((∃ xs, SqL K H1 a xs) ∧ R (Itl K a) H1) ∨ ((∃ xs, SqT K H1 a xs) ∧ R (Itt K a) H1))
theorem pi_seq {l : Expr} {tl : TE} (hl : PE X l tl) : PI X tg l (iSeq X.K tl) := by
  refine ⟨fun pins s σ H R I h => ?_⟩
  refine thn (hl.run pins s σ H _ I h) fun v s1 ⟨x, H1, I1, r1, q1⟩ => ?_
  obtain ⟨a, e, ⟨⟨xs, hq⟩, q⟩ | ⟨⟨xs, hq⟩, q⟩⟩ := q1
  · subst e
    cases r1
    obtain ⟨its, rv, p, hz⟩ := I1.list hq
    refine wpAny_pyIter_list p.isList ?_
    refine ⟨s1.heap.objs.size, [s1.heap.objs.size], _, _, H1, rfl, I1.kept (t' := s1.toks) fun b o e => Heap.get?_push_of_some _ e, turn_list a _, ⟨_, Heap.get?_push_size _ rfl, rfl, rfl⟩, fun b hb => ?_, q⟩
    have e : b = s1.heap.objs.size := by simpa using hb
    subst e
    exact I1.fpOk (Nat.le_refl _) (I1.hok.fresh (Nat.le_refl _))
  · subst e
    cases r1
    obtain ⟨its, rv, p, hz⟩ := I1.tuple hq
    refine wpAny_pyIter_tuple (show s1.heap.IsTuple a its.toArray from p) ?_
    refine ⟨s1.heap.objs.size, [s1.heap.objs.size], _, _, H1, rfl, I1.kept (t' := s1.toks) fun b o e => Heap.get?_push_of_some _ e, turn_tuple a _, ⟨_, Heap.get?_push_size _ rfl, rfl, rfl⟩, fun b hb => ?_, q⟩
    have e : b = s1.heap.objs.size := by simpa using hb
    subst e
    exact I1.fpOk (Nat.le_refl _) (I1.hok.fresh (Nat.le_refl _))
def objX : Bool → Addr → Obj
  | false, l => { cls := .type "list_iterator", data := .fields #[.ref l, .int 0 0] }
  | true, l => { cls := .type "tuple_iterator", data := .fields #[.ref l, .int 0 0] }
theorem beginsX (k : Bool) (a : Addr) (its : Array Value) : Begins (.ref a) (objX k a) (fun h => StX k h a its) := by
  cases k with
  | false => exact begins_list a its
  | true => exact begins_tuple a its
theorem itX_new {k : Bool} {a it : Addr} {h : Heap} (e : h.get? it = some (objX k a)) : ItX k h it a 0 := by
  cases k with
  | false => exact ⟨_, e, rfl, rfl⟩
  | true => exact ⟨_, e, rfl, rfl⟩
theorem not2 {a b c : Addr} (h : a ≠ b) (k : a ≠ c) : a ∉ [b, c] := by simp [h, k]
theorem neN {a b : Nat} (h : a ≠ b) : @Ne Addr a b := h
theorem zipSep2 {n a b : Nat} (la : a < n) (lb : b < n) : ZipSep2 (n + 4) (n + 2) (n + 3) n (n + 1) [n, a] [n + 1, b] where
  TIz := neN (by omega)
  TOz := neN (by omega)
  TITO := neN (by omega)
  TIi1 := neN (by omega)
  mem1 := by simp
  zf1 := not2 (neN (by omega)) (neN (by omega))
  Tf1 := not2 (neN (by omega)) (neN (by omega))
  TIi2 := neN (by omega)
  mem2 := by simp
  zf2 := not2 (neN (by omega)) (neN (by omega))
  Tf2 := not2 (neN (by omega)) (neN (by omega))
  sep1_2 := not2 (neN (by omega)) (neN (by omega))
  sep2_1 := not2 (neN (by omega)) (neN (by omega))
theorem zipSep3 {n a b c : Nat} (la : a < n) (lb : b < n) (lc : c < n) : ZipSep3 (n + 5) (n + 3) (n + 4) n (n + 1) (n + 2) [n, a] [n + 1, b] [n + 2, c] where
  TIz := neN (by omega)
  TOz := neN (by omega)
  TITO := neN (by omega)
  TIi1 := neN (by omega)
  mem1 := by simp
  zf1 := not2 (neN (by omega)) (neN (by omega))
  Tf1 := not2 (neN (by omega)) (neN (by omega))
  TIi2 := neN (by omega)
  mem2 := by simp
  zf2 := not2 (neN (by omega)) (neN (by omega))
  Tf2 := not2 (neN (by omega)) (neN (by omega))
  TIi3 := neN (by omega)
  mem3 := by simp
  zf3 := not2 (neN (by omega)) (neN (by omega))
  Tf3 := not2 (neN (by omega)) (neN (by omega))
  sep1_2 := not2 (neN (by omega)) (neN (by omega))
  sep1_3 := not2 (neN (by omega)) (neN (by omega))
  sep2_1 := not2 (neN (by omega)) (neN (by omega))
  sep2_3 := not2 (neN (by omega)) (neN (by omega))
  sep3_1 := not2 (neN (by omega)) (neN (by omega))
  sep3_2 := not2 (neN (by omega)) (neN (by omega))
theorem meets_enum1 {v : Value} {o : Obj} {H : Heap → Prop} (B : Begins v o H) :
    Meets (Builtin.«enumerate.__new__» ⟨[.type "enumerate", v], []⟩) (fun _ R s => H s.heap ∧
      R (.ok (.ret (.ref (s.heap.push o).objs.size))) { s with heap := (s.heap.push o).push { cls := .type "enumerate", data := .fields #[.none, .bool false, .ref s.heap.objs.size, rawInt 0, .none, .none] } }) :=
  .of_wp fun prog w A R s h => by
    obtain ⟨hp, g, d, tk, os⟩ := s; obtain ⟨h1, h⟩ := h
    have hsub := sub_enumerate
    have q1 : ∀ {A' : Around} {E : Value → Shared → Prop} {Q : Value → Shared → Prop}, Q (.ref hp.objs.size) ⟨hp.push o, g, d, tk, os⟩ → wpAny (model prog w) A' (pyIter v) Q E ⟨hp, g, d, tk, os⟩ :=
      fun q => B.iter prog w _ _ ⟨hp, g, d, tk, os⟩ _ h1 q
    wp_walk using q1
    refine wpAny_stack_any fun st => wpAny_pure ?_
    split
    · rename_i c _ _ _ _ _
      cases (c == Value.type "enumerate")
      · wp_walk using q1
        exact ⟨_, rfl, h⟩
      · wp_walk using q1
        exact ⟨_, rfl, h⟩
    · wp_walk using q1
      exact ⟨_, rfl, h⟩
/-- enumerate(v): its two new cells -/
theorem enum_begins1 {prog : Program} {w : World} {A : Around} {E : Value → Shared → Prop} {s : Shared} {v : Value} {o : Obj} {H : Heap → Prop} {Q : Value → Shared → Prop} (B : Begins v o H) (h1 : H s.heap)
    (h : ∀ h', IsEnum h' (s.heap.objs.size + 1) s.heap.objs.size 0 .none → h'.get? s.heap.objs.size = some o → h'.objs.size = s.heap.objs.size + 2 →
      (∀ b o, s.heap.get? b = some o → h'.get? b = some o) → Q (.ref (s.heap.objs.size + 1)) { s with heap := h' }) :
    wpAny (model prog w) A (call (.type "enumerate") [v]) Q E s := by
  refine callType_new F.called_enumerate (by decide) (F.typeCall_enumerate_1 _) (F.newCall_enumerate_1 _) (fun obj => F.args_object_init_2 obj _) F.entry_enumerate_new (meets_enum1 B) ⟨h1, ?_⟩
  have hz : (s.heap.push o).objs.size = s.heap.objs.size + 1 := Heap.size_push ..
  show _ ∧ _
  rw [hz]
  have he : IsEnum ((s.heap.push o).push { cls := .type "enumerate", data := .fields #[.none, .bool false, .ref s.heap.objs.size, rawInt 0, .none, .none] }) (s.heap.objs.size + 1) s.heap.objs.size 0 .none := by
    have := Heap.get?_push_size (s.heap.push o) (o := { cls := .type "enumerate", data := .fields #[.none, .bool false, .ref s.heap.objs.size, rawInt 0, .none, .none] }) rfl
    rw [hz] at this; exact this
  refine ⟨⟨_, he, rfl⟩, h _ he (Heap.get?_push_of_some _ (Heap.get?_push_size _ B.free)) (by rw [Heap.size_push, hz]) fun b o x => Heap.get?_push_of_some _ (Heap.get?_push_of_some _ x)⟩
/-- enumerate(row) -/
def iEnumX (K : PySem.W.Frag) (ta : TA) : TI := fun σ H R => ta σ H fun vs H1 => ∃ k a xs, vs = [.ref a] ∧ SqX k K H1 a xs ∧ R (ItS K [(k, a)] fun i => [.int (i : Nat)]) H1
theorem pi_enumX (hg : Gl X "enumerate") (hm : X.mg "enumerate" = none) (ha : PA X [e] ta) (hs : starEach [e] X.env = [(false, eval e X.env)]) :
    PI X (.Tuple elts kk tpos) (.Call (.Name "enumerate" p) [e] [] pos) (iEnumX X.K ta) := by
  refine ⟨fun pins s σ H R I h => ?_⟩
  refine Call_ (ld_blt I hg hm boot_enumerate (PyProof.Rows.callWith_type1 (thn (ha.run pos pins s σ H _ I h) fun us s1 ⟨vs, H1, I1, r1, q1⟩ => ?_) hs rfl))
  obtain ⟨k, a, xs, ex, hq, q⟩ := q1
  subst ex
  rw [Vals.ref1 r1]
  obtain ⟨its, rv, stx⟩ := Inv.sqx I1 hq
  have la := stx.lt
  refine enum_begins1 (beginsX k a its.toArray) stx fun h' he hit hsz hk => wpAny_pyIter_enum he ?_
  have I2 : L2.Inv X pins σ H1 { s1 with heap := h' } := I1.kept (t' := s1.toks) hk
  refine ⟨s1.heap.objs.size + 1, [s1.heap.objs.size + 1, s1.heap.objs.size], _, _, H1, rfl, I2, turn_enumX (k := k) (a := a) (Nat.ne_of_lt (Nat.lt_succ_of_lt la)) (Nat.ne_of_lt la) (Nat.succ_ne_self _), ⟨⟨.none, he⟩, itX_new hit⟩, fun b hb => ?_, q⟩
  have e' : b = s1.heap.objs.size + 1 ∨ b = s1.heap.objs.size := by simpa using hb
  have hle : s1.heap.objs.size ≤ b := by
    rcases e' with z | z <;> rw [z] <;> first | exact Nat.le_refl _ | exact Nat.le_add_right _ _
  exact I1.fpOk hle (I1.hok.fresh hle)
/-- zip(row, row) -/
def iZipX2 (K : PySem.W.Frag) (ta : TA) : TI := fun σ H R => ta σ H fun vs H1 => ∃ k l a b xs ys, vs = [.ref a, .ref b] ∧ SqX k K H1 a xs ∧ SqX l K H1 b ys ∧ R (ItS K [(k, a), (l, b)] fun _ => []) H1
theorem pi_zipX2 (hg : Gl X "zip") (hm : X.mg "zip" = none) (ha : PA X [e, e2] ta)
    (hs : starEach [e, e2] X.env = (false, eval e X.env) :: starEach [e2] X.env) (hpl : (backTo pos (starEach [e2] X.env)).any (·.1) = false) :
    PI X (.Tuple elts kk tpos) (.Call (.Name "zip" p) [e, e2] [] pos) (iZipX2 X.K ta) := by
  refine ⟨fun pins s σ H R I h => ?_⟩
  refine Call_ (ld_blt I hg hm PyProof.Rows.boot_zip (PyProof.Rows.callWith_type1 (thn (ha.run pos pins s σ H _ I h) fun us s1 ⟨vs, H1, I1, r1, q1⟩ => ?_) hs hpl))
  obtain ⟨k, l, a, b, xs, ys, ex, hqx, hqy, q⟩ := q1
  subst ex
  obtain ⟨u1, u2, rfl, r1, r2⟩ := r1.two
  cases r1
  cases r2
  obtain ⟨its, rv, stx⟩ := Inv.sqx I1 hqx
  obtain ⟨its2, rv2, sty⟩ := Inv.sqx I1 hqy
  have la := stx.lt
  have lb := sty.lt
  refine zip_begins2 (beginsX k a its.toArray) (beginsX l b its2.toArray) stx sty fun h' hz hTI hTO h1 h2 hsz hk => wpAny_pyIter_zip hz ?_
  have I2 : L2.Inv X pins σ H1 { s1 with heap := h' } := I1.kept (t' := s1.toks) hk
  refine ⟨_, [_, _, _, _, _], _, _, H1, rfl, I2, turn_zipX2 (k := k) (l := l) (a := a) (b := b) (zipSep2 la lb), ⟨hz, hTI, ⟨_, _, hTO⟩, itX_new h1, itX_new h2⟩, fun c hcm => ?_, q⟩
  have hle : s1.heap.objs.size ≤ c := by
    have e' : c = s1.heap.objs.size + 4 ∨ c = s1.heap.objs.size + 2 ∨ c = s1.heap.objs.size + 3 ∨ c = s1.heap.objs.size ∨ c = s1.heap.objs.size + 1 := by simpa using hcm
    rcases e' with z | z | z | z | z <;> rw [z] <;> first | exact Nat.le_refl _ | exact Nat.le_add_right _ _
  exact I1.fpOk hle (I1.hok.fresh hle)
def iZipX3 (K : PySem.W.Frag) (ta : TA) : TI := fun σ H R => ta σ H fun vs H1 => ∃ k l m a b c xs ys zs, vs = [.ref a, .ref b, .ref c] ∧ SqX k K H1 a xs ∧ SqX l K H1 b ys ∧ SqX m K H1 c zs ∧ R (ItS K [(k, a), (l, b), (m, c)] fun _ => []) H1
theorem pi_zipX3 (hg : Gl X "zip") (hm : X.mg "zip" = none) (ha : PA X [e, e2, e3] ta)
    (hs : starEach [e, e2, e3] X.env = (false, eval e X.env) :: starEach [e2, e3] X.env) (hpl : (backTo pos (starEach [e2, e3] X.env)).any (·.1) = false) :
    PI X (.Tuple elts kk tpos) (.Call (.Name "zip" p) [e, e2, e3] [] pos) (iZipX3 X.K ta) := by
  refine ⟨fun pins s σ H R I h => ?_⟩
  refine Call_ (ld_blt I hg hm PyProof.Rows.boot_zip (PyProof.Rows.callWith_type1 (thn (ha.run pos pins s σ H _ I h) fun us s1 ⟨vs, H1, I1, r1, q1⟩ => ?_) hs hpl))
  obtain ⟨k, l, m, a, b, c, xs, ys, zs, ex, hqx, hqy, hqz, q⟩ := q1
  subst ex
  cases r1 with
  | cons r1 rt =>
  obtain ⟨u2, u3, rfl, r2, r3⟩ := L2.Vals.two rt
  cases r1
  cases r2
  cases r3
  obtain ⟨its, rv, stx⟩ := Inv.sqx I1 hqx
  obtain ⟨its2, rv2, sty⟩ := Inv.sqx I1 hqy
  obtain ⟨its3, rv3, stz⟩ := Inv.sqx I1 hqz
  have la := stx.lt
  have lb := sty.lt
  have lc := stz.lt
  refine zip_begins3 (beginsX k a its.toArray) (beginsX l b its2.toArray) (beginsX m c its3.toArray) stx sty stz fun h' hz hTI hTO h1 h2 h3 hsz hk => wpAny_pyIter_zip hz ?_
  have I2 : L2.Inv X pins σ H1 { s1 with heap := h' } := I1.kept (t' := s1.toks) hk
  refine ⟨_, [_, _, _, _, _, _], _, _, H1, rfl, I2, turn_zipX3 (k := k) (l := l) (m := m) (a := a) (b := b) (c := c) (zipSep3 la lb lc), ⟨hz, hTI, ⟨_, _, _, hTO⟩, itX_new h1, itX_new h2, itX_new h3⟩, fun d hcm => ?_, q⟩
  have hle : s1.heap.objs.size ≤ d := by
    have e' : d = s1.heap.objs.size + 5 ∨ d = s1.heap.objs.size + 3 ∨ d = s1.heap.objs.size + 4 ∨ d = s1.heap.objs.size ∨ d = s1.heap.objs.size + 1 ∨ d = s1.heap.objs.size + 2 := by simpa using hcm
    rcases e' with z | z | z | z | z | z <;> rw [z] <;> first | exact Nat.le_refl _ | exact Nat.le_add_right _ _
  exact I1.fpOk hle (I1.hok.fresh hle)
end
end CL

set_option autoImplicit false
set_option linter.all false
set_option Elab.async false
set_option maxRecDepth 100000
set_option maxHeartbeats 1000000
/-! CLLc: targets, what is walked, comprehensions. -/
namespace CL
open PySem PySem.Spec PyProof.Rows L2

/-! ### targets -/
mutual
def gT (K : PySem.W.Frag) : E → TG
  | .name i => gName i
  | .tup es => gTup K es.length (gTs K es)
  | _ => fun _ _ _ _ => False
def gTs (K : PySem.W.Frag) : List E → TGs
  | [] => gNil
  | e :: es => gCons (gT K e) (gTs K es)
end
theorem set_get {σ : L2.St} {i j : Nat} {x : Option V} (h : j ≠ i) : (σ.set i x)[j]? = σ[j]? := List.getElem?_set_ne (fun e => h e.symm)
theorem Ag.putVal {Δ : Nm} {τ : CL.St} {σ : L2.St} {H F : Hp} {i : Nat} {v : V} {d : D} (g : Ag Δ τ σ H F) (hi : i < τ.length) (r : Rep Δ F v d) : Ag Δ (put τ i (some (.val d))) (σ.set i (some v)) H F := by
  have hσ : i < σ.length := by rw [← g.len]; exact hi
  refine ⟨g.sub, by rw [put_length, List.length_set]; exact g.len, fun j x e => ?_, fun j k x y a e1 e2 o1 o2 s1 s2 => ?_⟩
  · rcases get_put_eq e with ⟨rfl, q⟩ | ⟨ne, q⟩
    · cases q
      exact ⟨v, by rw [List.getElem?_set_self hσ], r⟩
    · rw [set_get ne]
      exact g.at_ j x q
  · rcases get_put_eq e1 with ⟨rfl, q⟩ | ⟨ne, q⟩
    · cases q; exact o1.elim
    · rcases get_put_eq e2 with ⟨rfl, q2⟩ | ⟨ne2, q2⟩
      · cases q2; exact o2.elim
      · rw [set_get ne] at s1
        rw [set_get ne2] at s2
        exact g.apart j k x y a q q2 o1 o2 s1 s2
/-- a target's names alone have changed, and hold values -/
structure Bound (τ τ1 : CL.St) (σ σ1 : L2.St) (ns : List Nat) : Prop where
  out : ∀ j, j ∉ ns → get τ1 j = get τ j ∧ σ1[j]? = σ[j]?
  ins : ∀ j, j ∈ ns → ∃ d, get τ1 j = some (.val d)
mutual
theorem bind_ok {Δ : Nm} : ∀ (t : E) {d : D} {τ τ1 : CL.St} {σ : L2.St} {H F : Hp} {v : V} {Q : L2.St → Hp → Prop}, Ag Δ τ σ H F → Rep Δ F v d → bindT t d τ = some τ1 →
    (∀ σ1, Ag Δ τ1 σ1 H F → Bound τ τ1 σ σ1 (tnames t) → Q σ1 H) → gT Δ.K t v σ H Q
  | .name i, d, τ, τ1, σ, H, F, v, Q, g, r, h, k => by
    rw [bindT] at h
    obtain ⟨hi, h⟩ := some_if h
    subst h
    rw [gT]
    refine k _ (g.putVal hi r) ⟨fun j hj => ?_, fun j hj => ?_⟩
    · have ne : j ≠ i := fun e => hj (by rw [tnames, e]; simp)
      exact ⟨get_put_ne ne, set_get ne⟩
    · rw [tnames] at hj
      have e : j = i := by simpa using hj
      subst e
      exact ⟨d, get_put hi⟩
  | .tup es, d, τ, τ1, σ, H, F, v, Q, g, r, h, k => by
    cases d with
    | tup ds =>
      rw [bindT] at h
      cases r with
      | @tup a vs _ h1 h2 =>
        rw [gT]
        have hl : ∀ {es : List E} {ds : List D} {τ τ1 : CL.St}, bindTs es ds τ = some τ1 → es.length = ds.length := by
          intro es
          induction es with
          | nil =>
            intro ds τ τ1 h
            cases ds with
            | nil => rfl
            | cons d ds => simp [bindTs] at h
          | cons e es ih =>
            intro ds τ τ1 h
            cases ds with
            | nil => simp [bindTs] at h
            | cons d ds =>
              rw [bindTs] at h
              cases q : bindT e d τ with
              | none => rw [q] at h; cases h
              | some τ2 =>
                rw [q] at h
                rw [List.length_cons, List.length_cons, ih h]
        refine ⟨a, vs, rfl, .inl (.inl (g.sub.tup h1)), by rw [h2.length, hl h], ?_⟩
        have := binds_ok es g h2 h (Q := Q) (fun σ1 g1 b => k σ1 g1 (by rw [tnames]; exact b))
        exact this
    | _ => simp [bindT] at h
  | .int _, d, τ, τ1, σ, H, F, v, Q, g, r, h, k => by simp [bindT] at h
  | .bl _, d, τ, τ1, σ, H, F, v, Q, g, r, h, k => by simp [bindT] at h
  | .non, d, τ, τ1, σ, H, F, v, Q, g, r, h, k => by simp [bindT] at h
  | .str _, d, τ, τ1, σ, H, F, v, Q, g, r, h, k => by simp [bindT] at h
  | .glob _, d, τ, τ1, σ, H, F, v, Q, g, r, h, k => by simp [bindT] at h
  | .fnv _, d, τ, τ1, σ, H, F, v, Q, g, r, h, k => by simp [bindT] at h
  | .lst _, d, τ, τ1, σ, H, F, v, Q, g, r, h, k => by simp [bindT] at h
  | .dic0 _, d, τ, τ1, σ, H, F, v, Q, g, r, h, k => by simp [bindT] at h
  | .dic1 _ _ _, d, τ, τ1, σ, H, F, v, Q, g, r, h, k => by simp [bindT] at h
  | .itd _, d, τ, τ1, σ, H, F, v, Q, g, r, h, k => by simp [bindT] at h
  | .bin _ _ _, d, τ, τ1, σ, H, F, v, Q, g, r, h, k => by simp [bindT] at h
  | .neg _, d, τ, τ1, σ, H, F, v, Q, g, r, h, k => by simp [bindT] at h
  | .cmp _ _ _, d, τ, τ1, σ, H, F, v, Q, g, r, h, k => by simp [bindT] at h
  | .chain _ _ _ _ _, d, τ, τ1, σ, H, F, v, Q, g, r, h, k => by simp [bindT] at h
  | .isN _ _, d, τ, τ1, σ, H, F, v, Q, g, r, h, k => by simp [bindT] at h
  | .isB _ _ _, d, τ, τ1, σ, H, F, v, Q, g, r, h, k => by simp [bindT] at h
  | .and_ _ _, d, τ, τ1, σ, H, F, v, Q, g, r, h, k => by simp [bindT] at h
  | .or_ _ _, d, τ, τ1, σ, H, F, v, Q, g, r, h, k => by simp [bindT] at h
  | .not_ _, d, τ, τ1, σ, H, F, v, Q, g, r, h, k => by simp [bindT] at h
  | .ife _ _ _, d, τ, τ1, σ, H, F, v, Q, g, r, h, k => by simp [bindT] at h
  | .call _ _, d, τ, τ1, σ, H, F, v, Q, g, r, h, k => by simp [bindT] at h
  | .mk _ _, d, τ, τ1, σ, H, F, v, Q, g, r, h, k => by simp [bindT] at h
  | .bi _ _, d, τ, τ1, σ, H, F, v, Q, g, r, h, k => by simp [bindT] at h
  | .me _ _ _, d, τ, τ1, σ, H, F, v, Q, g, r, h, k => by simp [bindT] at h
  | .attr _ _, d, τ, τ1, σ, H, F, v, Q, g, r, h, k => by simp [bindT] at h
  | .sub _ _, d, τ, τ1, σ, H, F, v, Q, g, r, h, k => by simp [bindT] at h
  | .slice _ _ _, d, τ, τ1, σ, H, F, v, Q, g, r, h, k => by simp [bindT] at h
  | .rev _, d, τ, τ1, σ, H, F, v, Q, g, r, h, k => by simp [bindT] at h
  | .lc _ _ _ _, d, τ, τ1, σ, H, F, v, Q, g, r, h, k => by simp [bindT] at h
  | .isi _ _, d, τ, τ1, σ, H, F, v, Q, g, r, h, k => by simp [bindT] at h
  | .isc _ _, d, τ, τ1, σ, H, F, v, Q, g, r, h, k => by simp [bindT] at h
  | .rng _, d, τ, τ1, σ, H, F, v, Q, g, r, h, k => by simp [bindT] at h
  | .zip _, d, τ, τ1, σ, H, F, v, Q, g, r, h, k => by simp [bindT] at h
  | .enum _, d, τ, τ1, σ, H, F, v, Q, g, r, h, k => by simp [bindT] at h
  | .it _, d, τ, τ1, σ, H, F, v, Q, g, r, h, k => by simp [bindT] at h
theorem binds_ok {Δ : Nm} : ∀ (ts : List E) {ds : List D} {τ τ1 : CL.St} {σ : L2.St} {H F : Hp} {vs : List V} {Q : L2.St → Hp → Prop}, Ag Δ τ σ H F → Reps Δ F vs ds → bindTs ts ds τ = some τ1 →
    (∀ σ1, Ag Δ τ1 σ1 H F → Bound τ τ1 σ σ1 (tnamess ts) → Q σ1 H) → gTs Δ.K ts vs σ H Q
  | [], ds, τ, τ1, σ, H, F, vs, Q, g, r, h, k => by
    cases ds with
    | nil =>
      rw [bindTs] at h
      cases h
      cases r
      rw [gTs]
      exact ⟨rfl, k σ g ⟨fun j _ => ⟨rfl, rfl⟩, fun j hj => by rw [tnamess] at hj; cases hj⟩⟩
    | cons d ds => simp [bindTs] at h
  | t :: ts, ds, τ, τ1, σ, H, F, vs, Q, g, r, h, k => by
    cases ds with
    | nil => simp [bindTs] at h
    | cons d ds =>
      rw [bindTs] at h
      cases q : bindT t d τ with
      | none => rw [q] at h; cases h
      | some τ2 =>
        rw [q] at h
        cases r with
        | @cons v _ vs _ r1 r2 =>
          rw [gTs]
          refine ⟨v, vs, rfl, ?_⟩
          refine bind_ok t g r1 q fun σ1 g1 b1 => ?_
          refine binds_ok ts g1 r2 h fun σ2 g2 b2 => k σ2 g2 ⟨fun j hj => ?_, fun j hj => ?_⟩
          · rw [tnamess, List.mem_append, not_or] at hj
            obtain ⟨e1, e2⟩ := b2.out j hj.2
            obtain ⟨e3, e4⟩ := b1.out j hj.1
            exact ⟨e1.trans e3, e2.trans e4⟩
          · rw [tnamess, List.mem_append] at hj
            by_cases hj2 : j ∈ tnamess ts
            · exact b2.ins j hj2
            · obtain ⟨e1, _⟩ := b2.out j hj2
              rcases hj with hj | hj
              · rw [e1]; exact b1.ins j hj
              · exact absurd hj hj2
end
end CL

set_option autoImplicit false
set_option linter.all false
set_option Elab.async false
set_option maxRecDepth 100000
set_option maxHeartbeats 1000000
/-! CLLc2: what is walked, comprehensions. -/
namespace CL
open PySem PySem.Spec PyProof.Rows L2

/-! ### names out of sight -/
theorem hide_get : ∀ (ns : List Nat) {τ : CL.St} {j : Nat} {x : C}, get (hide τ ns) j = some x → j ∉ ns ∧ get τ j = some x
  | [], τ, j, x, h => ⟨by simp, h⟩
  | i :: ns, τ, j, x, h => by
    rw [hide] at h
    obtain ⟨h1, h2⟩ := hide_get ns h
    rcases get_put_eq h2 with ⟨_, q⟩ | ⟨ne, q⟩
    · cases q
    · exact ⟨by simp [ne, h1], q⟩
theorem hide_len : ∀ (ns : List Nat) {τ : CL.St}, (hide τ ns).length = τ.length
  | [], τ => rfl
  | i :: ns, τ => by rw [hide, hide_len ns, put_length]
theorem back_get : ∀ (ns : List Nat) {σ τ : CL.St} {j : Nat} {x : C}, get (back σ τ ns) j = some x → (j ∈ ns ∧ get σ j = some x) ∨ (j ∉ ns ∧ get τ j = some x)
  | [], σ, τ, j, x, h => .inr ⟨by simp, h⟩
  | i :: ns, σ, τ, j, x, h => by
    rw [back] at h
    rcases back_get ns h with ⟨h1, h2⟩ | ⟨h1, h2⟩
    · exact .inl ⟨List.mem_cons_of_mem _ h1, h2⟩
    · rcases get_put_eq h2 with ⟨rfl, q⟩ | ⟨ne, q⟩
      · exact .inl ⟨List.mem_cons_self, q⟩
      · exact .inr ⟨by simp [ne, h1], q⟩
theorem back_len : ∀ (ns : List Nat) {σ τ : CL.St}, (back σ τ ns).length = τ.length
  | [], σ, τ => rfl
  | i :: ns, σ, τ => by rw [back, back_len ns, put_length]
theorem wipe_get : ∀ (vs : List Nat) {σ : L2.St} {j : Nat}, j ∉ vs → (wipe σ vs)[j]? = σ[j]?
  | [], σ, j, h => rfl
  | v :: vs, σ, j, h => by
    rw [wipe, set_get (fun e => h (by simp [e])), wipe_get vs (fun m => h (List.mem_cons_of_mem _ m))]
theorem wipe_in : ∀ (vs : List Nat) {σ : L2.St} {j : Nat} {x : V}, j ∈ vs → (wipe σ vs)[j]? ≠ some (some x)
  | v :: vs, σ, j, x, h => by
    intro e
    exact (wipe_some e).2 h
theorem wipe_eq {σ σ1 : L2.St} : ∀ {vs : List Nat}, σ1.length = σ.length → (∀ j, j ∉ vs → σ1[j]? = σ[j]?) → wipe σ1 vs = wipe σ vs := fun {vs} hl h => by
  apply List.ext_getElem?
  intro j
  by_cases hj : j ∈ vs
  · have l1 : (wipe σ1 vs).length = σ1.length := wipe_length σ1 vs
    have l2 : (wipe σ vs).length = σ.length := wipe_length σ vs
    by_cases hlt : j < σ.length
    · rw [List.getElem?_eq_getElem (by omega), List.getElem?_eq_getElem (by omega)]
      have a1 : ∀ x, (wipe σ1 vs)[j]? ≠ some (some x) := fun x => wipe_in vs hj
      have a2 : ∀ x, (wipe σ vs)[j]? ≠ some (some x) := fun x => wipe_in vs hj
      rw [List.getElem?_eq_getElem (by omega)] at a1 a2
      cases e1 : (wipe σ1 vs)[j] with
      | some x => exact absurd (by rw [e1]) (a1 x)
      | none =>
        cases e2 : (wipe σ vs)[j] with
        | some x => exact absurd (by rw [e2]) (a2 x)
        | none => rfl
    · rw [List.getElem?_eq_none (by omega), List.getElem?_eq_none (by omega)]
  · rw [wipe_get vs hj, wipe_get vs hj, h j hj]
section
variable {Δ : Nm} {τ τ' : CL.St} {σ : L2.St} {H F : Hp}
theorem Wr.hide {ns : List Nat} {a : Addr} (w : Wr (hide τ ns) σ a) : Wr τ σ a := by
  obtain ⟨i, x, e, o, q⟩ := w
  exact ⟨i, x, (hide_get ns e).2, o, q⟩
theorem Wr.wipe {vs : List Nat} {a : Addr} (w : Wr τ (L2.wipe σ vs) a) : Wr τ σ a := by
  obtain ⟨i, x, e, o, q⟩ := w
  exact ⟨i, x, e, o, (wipe_some q).1⟩
theorem Ag.hidden {ns vs : List Nat} (g : Ag Δ τ σ H F) (hv : ∀ v ∈ vs, v ∈ ns) : Ag Δ (hide τ ns) (L2.wipe σ vs) H F := by
  refine ⟨g.sub, by rw [hide_len, wipe_length]; exact g.len, fun i x e => ?_, fun i j x y a e1 e2 o1 o2 s1 s2 => ?_⟩
  · obtain ⟨h1, h2⟩ := hide_get ns e
    obtain ⟨v, hv2, r⟩ := g.at_ i x h2
    exact ⟨v, by rw [wipe_get vs fun m => h1 (hv _ m)]; exact hv2, r⟩
  · exact g.apart i j x y a (hide_get ns e1).2 (hide_get ns e2).2 o1 o2 (wipe_some s1).1 (wipe_some s2).1
end

/-! ### what is walked -/
/-- J walks ds, as long as what stood at H₁ stands but for what the names of τ may change -/
def WalkD (Δ : Nm) (J : It) (σ : L2.St) (τ : CL.St) (H₁ F₁ : Hp) (ds : List D) : Prop := ∃ G : Hp → Prop,
  (∀ H F, Ext F₁ F → Sub F H → (∀ a o, H₁ a = some o → ¬ Wr τ σ a → H a = some o) → G H) ∧
  Walk J ds.length G fun i H x H' => ∀ F, Ext F₁ F → Sub F H → ∃ d F', ds[i]? = some d ∧ Made Δ F H (.val d) x H' F'
def GI (Δ : Nm) (R : It → Hp → Prop) : Tg (List D × List Nat) := fun τ σ H F a τ' => ∀ J H' F', Post Δ τ τ' σ H F H' F' → WalkD Δ J σ (hide τ' a.2) H' F' a.1 → R J H'
theorem GI.shift {Δ : Nm} {R : It → Hp → Prop} : Shift Δ (GI Δ R) := ⟨fun p h J H' F' q r => h J H' F' (p.trans q) r⟩
def wpI (X : Cx) (tg iter : Expr) : TI := fun σ H R => ∀ (pins : List (Addr × Obj)) (s : Shared), L2.Inv X pins σ H s → wpAny (model X.prog X.w) X.A (eval iter X.env) (fun v s1 => wpAny (model X.prog X.w) X.A (pyIter v) (PIE X pins σ tg R) X.xe s1) X.xe s
def SndI (X : Cx) (Δ : Nm) (Γ : Ctx) (tg iter : Expr) (i' : E) : Prop := ∀ ⦃τ σ H F⦄, Ag Δ τ σ H F → ∀ ⦃R⦄, PostG X Δ (GI Δ R) τ σ H F (evI Γ i' τ) → wpI X tg iter σ H R
section
variable {X : Cx} {Δ : Nm} {Γ : Ctx} {τ : CL.St} {σ : L2.St} {H F : Hp} {tg iter : Expr}
theorem pi0 (tg iter : Expr) : PI X tg iter (wpI X tg iter) := ⟨fun pins s σ H R I h => h pins s I⟩
theorem wpI_of {t : TI} (h : PI X tg iter t) {R : It → Hp → Prop} (q : t σ H R) : wpI X tg iter σ H R := fun pins s I => h.run pins s σ H R I q
theorem SndI.bind {i' : E} {α : Type} {G : Tg α} (h : SndI X Δ Γ tg iter i') (g : Ag Δ τ σ H F) {f : List D × List Nat → CL.St → Res α} (hQ : PostG X Δ G τ σ H F ((evI Γ i' τ).bind f)) {K : It → Hp → Prop}
    (k : ∀ a τ1 J H1 F1, Post Δ τ τ1 σ H F H1 F1 → WalkD Δ J σ (hide τ1 a.2) H1 F1 a.1 → PostG X Δ G τ σ H F (f a τ1) → K J H1) : wpI X tg iter σ H K := by
  refine h g ?_
  revert hQ
  cases evI Γ i' τ with
  | ok o τ1 => exact fun hQ v H' F' p r => k o τ1 v H' F' p r hQ
  | exc x τ1 => exact fun hQ => hQ
  | no => exact fun hQ => hQ
/-- a row that is walked -/
theorem row_held (hK : X.K = Δ.K) {τ0 : CL.St} {H₀ F₀ : Hp} {o : Opd} {v : V} {d : D} {ds : List D} {ns : List Nat} (g0 : Ag Δ τ0 σ H₀ F₀) (p : Post Δ τ0 τ σ H₀ F₀ H F) (r : OpRel Δ τ σ H₀ H F v o) (e : vw o τ = some d) (hs : seq? d = some ds) (hn : ∀ i, o = .loc i → i ∈ ns) :
    ∃ k a vs, v = .ref a ∧ Reps Δ F vs ds ∧ SqX k X.K H a vs ∧ ∀ H' F', Ext F F' → Sub F' H' → (∀ a o, H a = some o → ¬ Wr (hide τ ns) σ a → H' a = some o) → SqX k X.K H' a vs := by
  have own : ∀ (x : C) (a : Addr), OwnAt Δ F H a x → x.toD = d → ¬ Wr (hide τ ns) σ a → ∃ vs, Reps Δ F vs ds ∧ SqX false X.K H a vs ∧ ∀ H' F', Ext F F' → Sub F' H' → (∀ a o, H a = some o → ¬ Wr (hide τ ns) σ a → H' a = some o) → SqX false X.K H' a vs := fun x a oa ex nw => by
    subst ex
    cases x with
    | val d => exact oa.elim
    | ol es =>
      cases hs
      obtain ⟨vs, q, r⟩ := oa
      exact ⟨vs, r, .inl (.inl q), fun H' F' _ _ k => .inl (.inl (k a _ q nw))⟩
    | od t k => cases hs
    | oi c fs => cases hs
  have rep : ∀ v, Rep Δ F v d → ∃ k a vs, v = .ref a ∧ Reps Δ F vs ds ∧ SqX k X.K H a vs ∧ ∀ H' F', Ext F F' → Sub F' H' → (∀ a o, H a = some o → ¬ Wr (hide τ ns) σ a → H' a = some o) → SqX k X.K H' a vs := fun v rv => by
    cases rv with
    | tup h1 h2 =>
      cases hs
      exact ⟨true, _, _, rfl, h2, (.inl (.inl (p.ag.sub.tup h1)) : SqT X.K H _ _), fun H' F' ex sub _ => (.inl (.inl (sub.tup (ex _ _ h1))) : SqT X.K H' _ _)⟩
    | lst h1 h2 =>
      cases hs
      exact ⟨false, _, _, rfl, h2, .inl (p.ag.sub.rdL h1), fun H' F' ex sub _ => .inl (sub.rdL (ex.rd h1))⟩
    | non => cases hs
    | bl _ => cases hs
    | int _ => cases hs
    | str _ => cases hs
    | dk _ _ => cases hs
    | dt _ _ => cases hs
    | ins _ _ => cases hs
    | fn _ => cases hs
    | kl _ _ => cases hs
  cases o with
  | c x =>
    have ex : x.toD = d := Option.some.inj e
    by_cases hx : x.isOwn
    · obtain ⟨a, rfl, h0, hF, oa⟩ := r.own hx
      obtain ⟨vs, h1, h2, h3⟩ := own x a oa ex fun w => OpRel.notWr (v := .ref a) (x := x) g0 p h0 w.hide
      exact ⟨false, a, vs, rfl, h1, h2, h3⟩
    · cases x with
      | val d' =>
        cases ex
        exact rep v r
      | ol _ => exact absurd trivial hx
      | od t _ => exact absurd trivial hx
      | oi _ _ => exact absurd trivial hx
  | loc i =>
    cases q : get τ i with
    | none => rw [vw, q] at e; cases e
    | some x =>
      rw [vw, q] at e
      have ex : x.toD = d := Option.some.inj e
      obtain ⟨u, hu, rx⟩ := p.ag.at_ i x q
      rw [show σ[i]? = some (some v) from r] at hu
      cases hu
      by_cases hx : x.isOwn
      · obtain ⟨a, rfl, hF, oa⟩ := rx.own hx
        obtain ⟨vs, h1, h2, h3⟩ := own x a oa ex fun w => by
          obtain ⟨j, y, ej, oj, sj⟩ := w
          obtain ⟨nj, ej⟩ := hide_get ns ej
          have : j = i := p.ag.apart j i y x a ej q oj hx sj r
          subst this
          exact nj (hn j rfl)
        exact ⟨false, a, vs, rfl, h1, h2, h3⟩
      · cases x with
        | val d' =>
          cases ex
          exact rep v rx
        | ol _ => exact absurd trivial hx
        | od t _ => exact absurd trivial hx
        | oi _ _ => exact absurd trivial hx
theorem walk_seq {k : Bool} {a : Addr} {vs : List V} {ds : List D} {F₁ : Hp} {K : PySem.W.Frag} (r : Reps Δ F₁ vs ds) {G : Hp → Prop} (hG : ∀ H, G H → SqX k K H a vs) :
    Walk (match k with | false => Itl K a | true => Itt K a) ds.length G fun i H x H' => ∀ F, Ext F₁ F → Sub F H → ∃ d F', ds[i]? = some d ∧ Made Δ F H (.val d) x H' F' := by
  have hl := r.length
  rw [← hl]
  cases k with
  | false =>
    refine (walk_list (K := K) (a := a) (xs := vs)).mono hG fun i H x H' _ g y F ex sub => ?_
    obtain ⟨rfl, y⟩ := y
    obtain ⟨d, h1, h2⟩ := r.getV y
    exact ⟨d, F, h1, .old (h2.mono ex)⟩
  | true =>
    refine (walk_tup (K := K) (a := a) (xs := vs)).mono hG fun i H x H' _ g y F ex sub => ?_
    obtain ⟨rfl, y⟩ := y
    obtain ⟨d, h1, h2⟩ := r.getV y
    exact ⟨d, F, h1, .old (h2.mono ex)⟩
theorem locsOf_mem : ∀ {os : List Opd} {i : Nat}, Opd.loc i ∈ os → i ∈ locsOf os
  | .loc j :: os, i, h => by
    rw [locsOf]
    rcases List.mem_cons.mp h with e | h
    · cases e; exact List.mem_cons_self
    · exact List.mem_cons_of_mem _ (locsOf_mem h)
  | .c x :: os, i, h => by
    rw [locsOf]
    · rcases List.mem_cons.mp h with e | h
      · cases e
      · exact locsOf_mem h
    · intro j e; cases e
variable {e : Expr} {e' : E}
/-- for .. in e -/
theorem i_it (hK : X.K = Δ.K) (he : SndE X Δ Γ e e') : SndI X Δ Γ tg e (.it e') := by
  intro τ σ H F g R hQ
  rw [evI] at hQ
  refine wpI_of (pi_seq (pe0 e)) ?_
  refine he.bind' g hQ fun o τ1 v H1 F1 p1 r1 hQ => ?_
  cases e1 : vw o τ1 with
  | none => rw [e1] at hQ; exact hQ.elim
  | some d =>
    rw [e1] at hQ
    have key : ∀ ds, seq? d = some ds → PostG X Δ (GI Δ R) τ σ H F (.ok (ds, locsOf [o]) τ1) → ∃ a, v = .ref a ∧ (((∃ xs, SqL X.K H1 a xs) ∧ R (Itl X.K a) H1) ∨ ((∃ xs, SqT X.K H1 a xs) ∧ R (Itt X.K a) H1)) := fun ds hs hQ => by
      obtain ⟨k, a, vs, rfl, h1, h2, h3⟩ := row_held (ns := locsOf [o]) hK g p1 r1 e1 hs fun i e => locsOf_mem (by rw [e]; exact List.mem_cons_self)
      refine ⟨a, rfl, ?_⟩
      have w := walk_seq (K := X.K) (G := fun H => SqX k X.K H a vs) h1 fun H g => g
      cases k with
      | false => exact .inl ⟨⟨vs, h2⟩, hQ _ _ _ p1 ⟨_, h3, w⟩⟩
      | true => exact .inr ⟨⟨vs, h2⟩, hQ _ _ _ p1 ⟨_, h3, w⟩⟩
    cases d with
    | tup ds => exact key ds rfl hQ
    | lst ds => exact key ds rfl hQ
    | _ => exact hQ.elim
/-- range -/
theorem walk_rng {lo : Int} {n : Nat} {F₁ : Hp} : Walk (Itr lo n) (rangeD lo n).length (fun _ => True) fun i H x H' => ∀ F, Ext F₁ F → Sub F H → ∃ d F', (rangeD lo n)[i]? = some d ∧ Made Δ F H (.val d) x H' F' := by
  have hl : (rangeD lo n).length = n := by simp [rangeD]
  rw [hl]
  exact (walk_range (lo := lo) (n := n)).mono (fun _ _ => trivial) fun i H x H' hi _ y => fun F ex sub => by
    obtain ⟨rfl, rfl⟩ := y
    exact ⟨.int (lo + i), F, by simp [rangeD, hi], .old (.int _)⟩
theorem walk_rngC {lo c : Int} {n : Nat} {F₁ : Hp} : Walk (Itc lo c n) (rangeC lo c n).length (fun _ => True) fun i H x H' => ∀ F, Ext F₁ F → Sub F H → ∃ d F', (rangeC lo c n)[i]? = some d ∧ Made Δ F H (.val d) x H' F' := by
  have hl : (rangeC lo c n).length = n := by simp [rangeC]
  rw [hl]
  exact (walk_rangeC (lo := lo) (c := c) (n := n)).mono (fun _ _ => trivial) fun i H x H' hi _ y => fun F ex sub => by
    obtain ⟨rfl, rfl⟩ := y
    exact ⟨.int (lo + i * c), F, by simp [rangeC, hi], .old (.int _)⟩
theorem big_ok {i : Int} (h : big i = true) : -(2 ^ 62) ≤ i ∧ i < 2 ^ 62 := by
  simp only [big, Bool.and_eq_true, decide_eq_true_eq] at h
  omega
variable {p pos : Pos} {a b c : Expr} {es' : List E}
theorem len1 {α : Type} {l : List α} (h : l.length = 1) : ∃ a, l = [a] := by
  match l, h with
  | [a], _ => exact ⟨a, rfl⟩
theorem len2 {α : Type} {l : List α} (h : l.length = 2) : ∃ a b, l = [a, b] := by
  match l, h with
  | [a, b], _ => exact ⟨a, b, rfl⟩
theorem len3 {α : Type} {l : List α} (h : l.length = 3) : ∃ a b c, l = [a, b, c] := by
  match l, h with
  | [a, b, c], _ => exact ⟨a, b, c, rfl⟩
theorem WalkD.always {J : It} {ds : List D} {τ' : CL.St} {H₁ F₁ : Hp} (w : Walk J ds.length (fun _ => True) fun i H x H' => ∀ F, Ext F₁ F → Sub F H → ∃ d F', ds[i]? = some d ∧ Made Δ F H (.val d) x H' F') : WalkD Δ J σ τ' H₁ F₁ ds :=
  ⟨_, fun _ _ _ _ _ => trivial, w⟩
variable {a' b' c' : E}
theorem i_rng1 (hg : Gl X "range") (hm : X.mg "range" = none) (hs : starEach [a] X.env = [(false, eval a X.env)]) (h : SndA X Δ Γ [a] [a']) : SndI X Δ Γ tg (.Call (.Name "range" p) [a] [] pos) (.rng [a']) := by
  intro τ σ H F g R hQ
  rw [evI] at hQ
  refine wpI_of (pi_range1 hg hm (pa0 _) hs) ?_
  refine h.bind' g hQ fun os τ1 vs H1 F1 ee p1 r1 hQ => ?_
  cases e1 : vws os τ1 with
  | none => rw [e1] at hQ; exact hQ.elim
  | some ds =>
    rw [e1] at hQ
    have hv := OpRels.views p1.ag r1.all e1
    obtain ⟨d, rfl⟩ := len1 (l := ds) (by rw [← Paired.length hv, r1.len, evs_len ee]; rfl)
    obtain ⟨v, rfl, w⟩ := pd1 hv
    cases d <;> first | exact hQ.elim | skip
    rename_i n
    obtain rfl := w.int
    cases hb : big n with
    | false => simp only [hb] at hQ; exact hQ.elim
    | true =>
      simp only [hb] at hQ
      have hb := big_ok hb
      exact ⟨n, rfl, hb.1, hb.2, hQ _ _ _ p1 (.always walk_rng)⟩
theorem i_rng2 (hg : Gl X "range") (hm : X.mg "range" = none) (hs : starEach [a, b] X.env = [(false, eval a X.env), (false, eval b X.env)]) (hs2 : starEach [b] X.env = [(false, eval b X.env)]) (h : SndA X Δ Γ [a, b] [a', b']) : SndI X Δ Γ tg (.Call (.Name "range" p) [a, b] [] pos) (.rng [a', b']) := by
  intro τ σ H F g R hQ
  rw [evI] at hQ
  refine wpI_of (pi_range2 hg hm (pa0 _) hs hs2) ?_
  refine h.bind' g hQ fun os τ1 vs H1 F1 ee p1 r1 hQ => ?_
  cases e1 : vws os τ1 with
  | none => rw [e1] at hQ; exact hQ.elim
  | some ds =>
    rw [e1] at hQ
    have hv := OpRels.views p1.ag r1.all e1
    obtain ⟨d, f, rfl⟩ := len2 (l := ds) (by rw [← Paired.length hv, r1.len, evs_len ee]; rfl)
    obtain ⟨v, u, rfl, w1, w2⟩ := pd2 hv
    cases d <;> first | (cases f <;> exact hQ.elim) | skip
    cases f <;> first | exact hQ.elim | skip
    rename_i n m
    obtain rfl := w1.int
    obtain rfl := w2.int
    cases hb : big n && big m with
    | false => simp only [hb] at hQ; exact hQ.elim
    | true =>
      simp only [hb] at hQ
      rw [Bool.and_eq_true] at hb
      have h1 := big_ok hb.1
      have h2 := big_ok hb.2
      exact ⟨n, m, rfl, ⟨h1.1, h1.2, h2.1, h2.2⟩, hQ _ _ _ p1 (.always walk_rng)⟩
/-- rows walked together -/
theorem walk_rows {srcs : List (Bool × Addr)} {pre : Nat → List V} {preD : Nat → List D} {xss : List (List V)} {dss : List (List D)} {F₁ : Hp} {K : PySem.W.Frag} {n : Nat} (rs : Paired (Reps Δ F₁) xss dss) (hne : n = 0 → True)
    (hpre : ∀ i F, Reps Δ F (pre i) (preD i)) (hmin : ∀ xs ∈ xss, n ≤ xs.length) (hend : ∃ xs ∈ xss, xs.length ≤ n) {ds : List D} (hl : ds.length = n)
    (hds : ∀ i es, i < n → Paired (fun (xs : List D) (d : D) => xs[i]? = some d) dss es → ds[i]? = some (.tup (preD i ++ es))) {G : Hp → Prop} (hG : ∀ H, G H → Srcs K H srcs xss) :
    Walk (ItS K srcs pre) ds.length G fun i H x H' => ∀ F, Ext F₁ F → Sub F H → ∃ d F', ds[i]? = some d ∧ Made Δ F H (.val d) x H' F' := by
  rw [hl]
  have get : ∀ {i : Nat} {xss : List (List V)} {dss : List (List D)} {vs : List V}, Paired (Reps Δ F₁) xss dss → Paired (fun (xs : List V) (v : V) => xs[i]? = some v) xss vs → ∃ es, Paired (fun (xs : List D) (d : D) => xs[i]? = some d) dss es ∧ Reps Δ F₁ vs es := by
    intro i xss dss vs h1 h2
    induction h1 generalizing vs with
    | nil => cases h2; exact ⟨[], .nil, .nil⟩
    | cons h t ih =>
      cases h2 with
      | cons h3 t2 =>
        obtain ⟨d, e1, e2⟩ := h.getV h3
        obtain ⟨es, e3, e4⟩ := ih t2
        exact ⟨d :: es, .cons e1 e3, .cons e2 e4⟩
  refine ⟨fun i H hi g => ⟨xss, hG H g, fun xs m => Nat.lt_of_lt_of_le hi (hmin xs m)⟩, fun H g => ⟨xss, hG H g, hmin, hend⟩, fun i H x H' hi g y F ex sub => ?_⟩
  obtain ⟨T, vals, rfl, hT, rfl, hv⟩ := y
  obtain ⟨es, e1, e2⟩ := get rs (hv xss (hG H g))
  exact ⟨_, _, hds i es hi e1, .tup sub hT ((hpre i F).append (e2.mono ex))⟩
theorem enumD_get : ∀ (n : Nat) (ds : List D) (i : Nat) (d : D), ds[i]? = some d → (enumD n ds)[i]? = some (.tup [.int ((n + i : Nat) : Int), d])
  | n, [], i, d, h => by simp at h
  | n, x :: xs, 0, d, h => by simp at h; subst h; simp [enumD]
  | n, x :: xs, i + 1, d, h => by
    have := enumD_get (n + 1) xs i d (by simpa using h)
    rw [enumD, List.getElem?_cons_succ, this]
    simp only [Option.some.injEq, D.tup.injEq, List.cons.injEq, D.int.injEq, and_true]
    omega
theorem enumD_len : ∀ (n : Nat) (ds : List D), (enumD n ds).length = ds.length
  | n, [] => rfl
  | n, x :: xs => by rw [enumD, List.length_cons, List.length_cons, enumD_len]
theorem zip2_get : ∀ (xs ys : List D) (i : Nat) (d e : D), xs[i]? = some d → ys[i]? = some e → (zip2 xs ys)[i]? = some (.tup [d, e])
  | [], ys, i, d, e, h, _ => by simp at h
  | x :: xs, [], i, d, e, _, h => by simp at h
  | x :: xs, y :: ys, 0, d, e, h, k => by simp at h k; subst h k; simp [zip2]
  | x :: xs, y :: ys, i + 1, d, e, h, k => by rw [zip2, List.getElem?_cons_succ, zip2_get xs ys i d e (by simpa using h) (by simpa using k)]
theorem zip2_len : ∀ (xs ys : List D), (zip2 xs ys).length = min xs.length ys.length
  | [], ys => by simp [zip2]
  | x :: xs, [] => by simp [zip2]
  | x :: xs, y :: ys => by rw [zip2, List.length_cons, List.length_cons, List.length_cons, zip2_len]; omega
theorem zip3_get : ∀ (xs ys zs : List D) (i : Nat) (d e f : D), xs[i]? = some d → ys[i]? = some e → zs[i]? = some f → (zip3 xs ys zs)[i]? = some (.tup [d, e, f])
  | [], ys, zs, i, d, e, f, h, _, _ => by simp at h
  | x :: xs, [], zs, i, d, e, f, _, h, _ => by simp at h
  | x :: xs, y :: ys, [], i, d, e, f, _, _, h => by simp at h
  | x :: xs, y :: ys, z :: zs, 0, d, e, f, h, k, l => by simp at h k l; subst h k l; simp [zip3]
  | x :: xs, y :: ys, z :: zs, i + 1, d, e, f, h, k, l => by rw [zip3, List.getElem?_cons_succ, zip3_get xs ys zs i d e f (by simpa using h) (by simpa using k) (by simpa using l)]
theorem zip3_len : ∀ (xs ys zs : List D), (zip3 xs ys zs).length = min (min xs.length ys.length) zs.length
  | [], ys, zs => by simp [zip3]
  | x :: xs, [], zs => by simp [zip3]
  | x :: xs, y :: ys, [] => by simp [zip3]
  | x :: xs, y :: ys, z :: zs => by rw [zip3, List.length_cons, List.length_cons, List.length_cons, List.length_cons, zip3_len]; omega
variable {elts : List Expr} {kk : Nat} {tpos : Pos}
theorem i_enum (hK : X.K = Δ.K) (hg : Gl X "enumerate") (hm : X.mg "enumerate" = none) (hs : starEach [e] X.env = [(false, eval e X.env)]) (he : SndE X Δ Γ e e') : SndI X Δ Γ (.Tuple elts kk tpos) (.Call (.Name "enumerate" p) [e] [] pos) (.enum e') := by
  intro τ σ H F g R hQ
  rw [evI] at hQ
  refine wpI_of (pi_enumX hg hm (pa_cons (pe0 e) pa_nil hs) hs) ?_
  refine he.bind' g hQ fun o τ1 v H1 F1 p1 r1 hQ => ?_
  cases e1 : vw o τ1 with
  | none => rw [e1] at hQ; exact hQ.elim
  | some d =>
    rw [e1] at hQ
    cases e2 : seq? d with
    | none => simp only [e2] at hQ; exact hQ.elim
    | some ds =>
      simp only [e2] at hQ
      obtain ⟨k, a, vs, rfl, h1, h2, h3⟩ := row_held (ns := locsOf [o]) hK g p1 r1 e1 e2 fun i e => locsOf_mem (by rw [e]; exact List.mem_cons_self)
      refine ⟨k, a, vs, rfl, h2, hQ _ _ _ p1 ⟨fun H => SqX k X.K H a vs, h3, ?_⟩⟩
      have hl := h1.length
      refine walk_rows (n := ds.length) (xss := [vs]) (dss := [ds]) (preD := fun i => [.int (i : Nat)]) (.cons h1 .nil) (fun _ => trivial) (fun i F => .cons (.int _) .nil) (fun xs m => (by rw [List.mem_singleton.mp m]; omega)) ⟨vs, by simp, by omega⟩ (enumD_len 0 ds) (fun i es hi hp => ?_) fun H g => .cons g .nil
      cases hp with
      | cons h t =>
        cases t
        have := enumD_get 0 ds i _ h
        rw [Nat.zero_add] at this
        exact this
theorem i_zip2 (hK : X.K = Δ.K) (hg : Gl X "zip") (hm : X.mg "zip" = none) (hs : starEach [a, b] X.env = (false, eval a X.env) :: starEach [b] X.env) (hpl : (backTo pos (starEach [b] X.env)).any (·.1) = false) (h : SndA X Δ Γ [a, b] [a', b']) : SndI X Δ Γ (.Tuple elts kk tpos) (.Call (.Name "zip" p) [a, b] [] pos) (.zip [a', b']) := by
  intro τ σ H F g R hQ
  rw [evI] at hQ
  refine wpI_of (pi_zipX2 hg hm (pa0 _) hs hpl) ?_
  refine h.bind' g hQ fun os τ1 vs H1 F1 ee p1 r1 hQ => ?_
  obtain ⟨o1, o2, rfl⟩ := len2 (l := os) (by rw [evs_len ee]; rfl)
  obtain ⟨v1, ws, rfl, q1, rt⟩ := paired_cons r1.all
  obtain ⟨v2, ws, rfl, q2, rt⟩ := paired_cons rt
  cases rt
  cases e1 : vw o1 τ1 with
  | none => simp only [vws, e1] at hQ; exact hQ.elim
  | some d1 =>
    cases e2 : vw o2 τ1 with
    | none => simp only [vws, e1, e2] at hQ; exact hQ.elim
    | some d2 =>
      simp only [vws, e1, e2] at hQ
      cases e3 : seq? d1 with
      | none => simp only [Option.bind, Option.map, e3] at hQ; exact hQ.elim
      | some xs =>
        cases e4 : seq? d2 with
        | none => simp only [Option.bind, Option.map, e3, e4] at hQ; exact hQ.elim
        | some ys =>
          simp only [Option.bind, Option.map, e3, e4] at hQ
          obtain ⟨k, a1, us, rfl, h1, h2, h3⟩ := row_held (ns := locsOf [o1, o2]) hK g p1 q1 e1 e3 fun i e => locsOf_mem (by rw [e]; simp)
          obtain ⟨l, a2, ws, rfl, k1, k2, k3⟩ := row_held (ns := locsOf [o1, o2]) hK g p1 q2 e2 e4 fun i e => locsOf_mem (by rw [e]; simp)
          refine ⟨k, l, a1, a2, us, ws, rfl, h2, k2, hQ _ _ _ p1 ⟨fun H => SqX k X.K H a1 us ∧ SqX l X.K H a2 ws, fun H F e s q => ⟨h3 H F e s q, k3 H F e s q⟩, ?_⟩⟩
          have hl := h1.length
          have hl2 := k1.length
          refine walk_rows (n := min xs.length ys.length) (xss := [us, ws]) (dss := [xs, ys]) (preD := fun i => []) (.cons h1 (.cons k1 .nil)) (fun _ => trivial) (fun i F => .nil) (fun zs m => ?_) ?_ (zip2_len xs ys) (fun i es hi hp => ?_) fun H g => .cons g.1 (.cons g.2 .nil)
          · have : zs = us ∨ zs = ws := by simpa using m
            rcases this with rfl | rfl <;> omega
          · by_cases hlt : xs.length ≤ ys.length
            · exact ⟨us, by simp, by omega⟩
            · exact ⟨ws, by simp, by omega⟩
          · cases hp with
            | cons h t =>
              cases t with
              | cons h' t =>
                cases t
                exact zip2_get xs ys i _ _ h h'
theorem i_zip3 (hK : X.K = Δ.K) (hg : Gl X "zip") (hm : X.mg "zip" = none) (hs : starEach [a, b, c] X.env = (false, eval a X.env) :: starEach [b, c] X.env) (hpl : (backTo pos (starEach [b, c] X.env)).any (·.1) = false) (h : SndA X Δ Γ [a, b, c] [a', b', c']) : SndI X Δ Γ (.Tuple elts kk tpos) (.Call (.Name "zip" p) [a, b, c] [] pos) (.zip [a', b', c']) := by
  intro τ σ H F g R hQ
  rw [evI] at hQ
  refine wpI_of (pi_zipX3 hg hm (pa0 _) hs hpl) ?_
  refine h.bind' g hQ fun os τ1 vs H1 F1 ee p1 r1 hQ => ?_
  obtain ⟨o1, o2, o3, rfl⟩ := len3 (l := os) (by rw [evs_len ee]; rfl)
  obtain ⟨v1, ws, rfl, q1, rt⟩ := paired_cons r1.all
  obtain ⟨v2, ws, rfl, q2, rt⟩ := paired_cons rt
  obtain ⟨v3, ws, rfl, q3, rt⟩ := paired_cons rt
  cases rt
  cases e1 : vw o1 τ1 with
  | none => simp only [vws, e1] at hQ; exact hQ.elim
  | some d1 =>
    cases e2 : vw o2 τ1 with
    | none => simp only [vws, e1, e2] at hQ; exact hQ.elim
    | some d2 =>
      cases e0 : vw o3 τ1 with
      | none => simp only [vws, e1, e2, e0] at hQ; exact hQ.elim
      | some d3 =>
      simp only [vws, e1, e2, e0] at hQ
      cases e3 : seq? d1 with
      | none => simp only [Option.bind, Option.map, e3] at hQ; exact hQ.elim
      | some xs =>
        cases e4 : seq? d2 with
        | none => simp only [Option.bind, Option.map, e3, e4] at hQ; exact hQ.elim
        | some ys =>
          cases e5 : seq? d3 with
          | none => simp only [Option.bind, Option.map, e3, e4, e5] at hQ; exact hQ.elim
          | some zs =>
          simp only [Option.bind, Option.map, e3, e4, e5] at hQ
          obtain ⟨k, a1, us, rfl, h1, h2, h3⟩ := row_held (ns := locsOf [o1, o2, o3]) hK g p1 q1 e1 e3 fun i e => locsOf_mem (by rw [e]; simp)
          obtain ⟨l, a2, ws, rfl, k1, k2, k3⟩ := row_held (ns := locsOf [o1, o2, o3]) hK g p1 q2 e2 e4 fun i e => locsOf_mem (by rw [e]; simp)
          obtain ⟨m, a3, ts, rfl, m1, m2, m3⟩ := row_held (ns := locsOf [o1, o2, o3]) hK g p1 q3 e0 e5 fun i e => locsOf_mem (by rw [e]; simp)
          refine ⟨k, l, m, a1, a2, a3, us, ws, ts, rfl, h2, k2, m2, hQ _ _ _ p1 ⟨fun H => SqX k X.K H a1 us ∧ SqX l X.K H a2 ws ∧ SqX m X.K H a3 ts, fun H F e s q => ⟨h3 H F e s q, k3 H F e s q, m3 H F e s q⟩, ?_⟩⟩
          have hl := h1.length
          have hl2 := k1.length
          have hl3 := m1.length
          refine walk_rows (n := min (min xs.length ys.length) zs.length) (xss := [us, ws, ts]) (dss := [xs, ys, zs]) (preD := fun i => []) (.cons h1 (.cons k1 (.cons m1 .nil))) (fun _ => trivial) (fun i F => .nil) (fun qs m => ?_) ?_ (zip3_len xs ys zs) (fun i es hi hp => ?_) fun H g => .cons g.1 (.cons g.2.1 (.cons g.2.2 .nil))
          · have : qs = us ∨ qs = ws ∨ qs = ts := by simpa using m
            rcases this with rfl | rfl | rfl <;> omega
          · by_cases hlt : xs.length ≤ ys.length
            · by_cases hlt2 : xs.length ≤ zs.length
              · exact ⟨us, by simp, by omega⟩
              · exact ⟨ts, by simp, by omega⟩
            · by_cases hlt2 : ys.length ≤ zs.length
              · exact ⟨ws, by simp, by omega⟩
              · exact ⟨ts, by simp, by omega⟩
          · cases hp with
            | cons h t =>
              cases t with
              | cons h' t =>
                cases t with
                | cons h'' t =>
                  cases t
                  exact zip3_get xs ys zs i _ _ _ h h' h''
end
end CL

set_option autoImplicit false
set_option linter.all false
set_option Elab.async false
set_option maxRecDepth 100000
set_option maxHeartbeats 1000000
/-! CLLc3: comprehensions. -/
namespace CL
open PySem PySem.Spec PyProof.Rows L2

/-- from the start of a comprehension, the new list at L apart -/
structure Loop (Δ : Nm) (L : Addr) (τ0 : CL.St) (σ : L2.St) (H0 F0 : Hp) (τ : CL.St) (H F : Hp) : Prop where
  ag : Ag Δ τ σ H F
  ext : Ext F0 F
  keep : ∀ a o, a ≠ L → H0 a = some o → ¬ Wr τ0 σ a → H a = some o
  froz : ∀ a o, F a = some o → F0 a = none → Wr τ0 σ a ∨ Nw H0 a
  mon : ∀ i x, get τ i = some x → x.isOwn → ∃ y, get τ0 i = some y ∧ y.isOwn
  dom : ∀ a o, H0 a = some o → ∃ u, H a = some u
  nF : F L = none
  nW : ¬ Wr τ0 σ L
  some_ : ∃ vs, H L = some (.lst vs)
section
variable {Δ : Nm} {L : Addr} {τ0 τh τb τe : CL.St} {σ σ1 : L2.St} {H0 F0 H F H' F' H4 F4 : Hp} {tn vs : List Nat}
theorem Loop.wr (l : Loop Δ L τ0 σ H0 F0 τh H F) {a : Addr} (w : Wr τh σ a) : Wr τ0 σ a := by
  obtain ⟨i, x, e, o, q⟩ := w
  obtain ⟨y, e', o'⟩ := l.mon i x e o
  exact ⟨i, y, e', o', q⟩
theorem Bound.wr (b : Bound τh τb σ σ1 tn) {a : Addr} (w : Wr τb σ1 a) : Wr τh σ a := by
  obtain ⟨i, x, e, o, q⟩ := w
  by_cases hi : i ∈ tn
  · obtain ⟨d, e'⟩ := b.ins i hi
    rw [e] at e'; cases e'
    exact o.elim
  · obtain ⟨e1, e2⟩ := b.out i hi
    exact ⟨i, x, e1 ▸ e, o, e2 ▸ q⟩
/-- one turn -/
theorem Loop.turn (l : Loop Δ L τ0 σ H0 F0 τh H F) (p1 : Post Δ τh τh σ H F H' F') (b : Bound τh τb σ σ1 tn) (p3 : Post Δ τb τe σ1 H' F' H4 F4) (hv : ∀ v ∈ vs, v ∈ tn) (hw : wipe σ1 vs = σ) : Loop Δ L τ0 σ H0 F0 (hide τe tn) H4 F4 ∧ H4 L = H L := by
  have nL1 : ¬ Wr τh σ L := fun w => l.nW (l.wr w)
  have nL3 : ¬ Wr τb σ1 L := fun w => nL1 (b.wr w)
  obtain ⟨ol, hol⟩ := l.some_
  have e1 : H' L = some (.lst ol) := p1.keep L _ hol nL1
  have e4 : H4 L = some (.lst ol) := p3.keep L _ e1 nL3
  have mon' : ∀ i x, get (hide τe tn) i = some x → x.isOwn → ∃ y, get τh i = some y ∧ y.isOwn := fun i x e o => by
    obtain ⟨h1, h2⟩ := hide_get tn e
    obtain ⟨y, h3, h4⟩ := p3.mon i x h2 o
    rw [(b.out i h1).1] at h3
    exact ⟨y, h3, h4⟩
  have nF4 : F4 L = none := by
    cases q : F4 L with
    | none => rfl
    | some o =>
      exfalso
      cases q2 : F' L with
      | none =>
        rcases p3.froz L o q q2 with w | w
        · exact nL3 w
        · obtain ⟨_, z⟩ := w _ e1; cases z
      | some u =>
        rcases p1.froz L u q2 l.nF with w | w
        · exact nL1 w
        · obtain ⟨_, z⟩ := w _ hol; cases z
  refine ⟨⟨?_, l.ext.trans (p1.ext.trans p3.ext), fun a o ha h nw => ?_, fun a o h n => ?_, fun i x e o => ?_, fun a o h => ?_, nF4, l.nW, ⟨ol, e4⟩⟩, by rw [e4, hol]⟩
  · rw [← hw]
    exact p3.ag.hidden hv
  · exact p3.keep a o (p1.keep a o (l.keep a o ha h nw) fun w => nw (l.wr w)) fun w => nw (l.wr (b.wr w))
  · have ha : a ≠ L := fun z => by rw [z, nF4] at h; cases h
    by_cases nw : Wr τ0 σ a
    · exact .inl nw
    cases q : F' a with
    | none =>
      rcases p3.froz a o h q with w | w
      · exact .inl (l.wr (b.wr w))
      · exact .inr fun u z => w u (p1.keep a u (l.keep a u ha z nw) fun w => nw (l.wr w))
    | some u =>
      cases q2 : F a with
      | some t => exact l.froz a t q2 n
      | none =>
        rcases p1.froz a u q q2 with w | w
        · exact .inl (l.wr w)
        · exact .inr fun u z => w u (l.keep a u ha z nw)
  · obtain ⟨y, h1, h2⟩ := mon' i x e o
    exact l.mon i y h1 h2
  · obtain ⟨u, h1⟩ := l.dom a o h
    obtain ⟨u, h2⟩ := p1.dom a u h1
    exact p3.dom a u h2
/-- the new list is written -/
theorem Loop.write {ws : List V} (l : Loop Δ L τ0 σ H0 F0 τh H F) : Loop Δ L τ0 σ H0 F0 τh (upd H L (.lst ws)) F := by
  have nL : ¬ Wr τh σ L := fun w => l.nW (l.wr w)
  refine ⟨⟨l.ag.sub.write l.nF, l.ag.len, fun i x e => ?_, l.ag.apart⟩, l.ext, fun a u ha h nw => by rw [upd_ne ha]; exact l.keep a u ha h nw, l.froz, l.mon, fun a u h => ?_, l.nF, l.nW, ⟨ws, upd_same⟩⟩
  · obtain ⟨v, hv, r⟩ := l.ag.at_ i x e
    refine ⟨v, hv, ?_⟩
    by_cases ho : x.isOwn
    · obtain ⟨a, rfl, hF, oa⟩ := r.own ho
      have hne : a ≠ L := fun z => nL ⟨i, x, e, ho, by rw [hv, z]⟩
      exact .of_own hF (oa.mono (Ext.refl _) fun u q => by
        obtain ⟨t, ht⟩ := oa.there
        rw [upd_ne hne]; exact q)
    · cases x <;> first | exact absurd trivial ho | exact r
  · obtain ⟨t, ht⟩ := l.dom a u h
    by_cases e : a = L
    · exact ⟨.lst ws, by rw [e]; exact upd_same⟩
    · exact ⟨t, by rw [upd_ne e]; exact ht⟩
end

def SndTs (X : Cx) (Δ : Nm) (Γ : Ctx) (ifs : List Expr) (c' : Option E) : Prop := ∀ ⦃τ σ H F⦄, Ag Δ τ σ H F → ∀ ⦃Q⦄, PostG X Δ (GB Δ Q) τ σ H F (evc Γ c' τ) →
  ∀ (pins : List (Addr × Obj)) (s : Shared), L2.Inv X pins σ H s → wpAny (model X.prog X.w) X.A (forIn ifs true fun c r => if r = true then do let ok ← isTrue c X.env (eval c X.env); pure (ForInStep.yield ok) else pure (ForInStep.yield r)) (TP X pins σ Q) X.xe s
theorem ts_nil {X : Cx} {Δ : Nm} {Γ : Ctx} : SndTs X Δ Γ [] none := by
  intro τ σ H F g Q hQ pins s I
  rw [evc] at hQ
  exact pts_nil.run pins s σ H Q I (hQ H F (.refl g))
theorem ts_one {X : Cx} {Δ : Nm} {Γ : Ctx} {c : Expr} {c' : E} (h : SndT X Δ Γ c c') : SndTs X Δ Γ [c] (some c') := by
  intro τ σ H F g Q hQ pins s I
  exact (pts_one (pt0 c)).run pins s σ H Q I (h g hQ)

section
variable {X : Cx} {Δ : Nm} {Γ : Ctx} {pos : Pos}
/-- in the block of a comprehension, whichever it is -/
def Blk (X : Cx) (scope : Scope) (P : Cx → Prop) : Prop := ∀ (s : Shared) (H : Hp) (C : Addr) (cl : List (Str × Addr)) (fp : List Addr), P (X.blk s H scope (compEnvC scope cl C X.env) fp)
def bT (X : Cx) (scope : Scope) (ifs : List Expr) : TT := fun σ H Q => Blk X scope fun Y => ∀ (pins : List (Addr × Obj)) (s : Shared), L2.Inv Y pins σ H s → wpAny (model Y.prog Y.w) Y.A (forIn ifs true fun c r => if r = true then do let ok ← isTrue c Y.env (eval c Y.env); pure (ForInStep.yield ok) else pure (ForInStep.yield r)) (TP Y pins σ Q) Y.xe s
def bE (X : Cx) (scope : Scope) (elt : Expr) : TE := fun σ H Q => Blk X scope fun Y => wpE Y elt σ H Q
theorem get_hide : ∀ {ns : List Nat} {τ : CL.St} {j : Nat} {y : C}, get τ j = some y → j ∉ ns → get (hide τ ns) j = some y := by
  intro ns
  induction ns with
  | nil => intro τ j y e _; exact e
  | cons k ns ih =>
    intro τ j y e n
    rw [hide]
    refine ih ?_ (fun m => n (List.mem_cons_of_mem _ m))
    rw [get_put_ne (fun z => n (by rw [z]; exact List.mem_cons_self))]
    exact e
theorem wipe_wipe (σ : L2.St) (vs : List Nat) : wipe (wipe σ vs) vs = wipe σ vs :=
  wipe_eq (wipe_length σ vs) fun j hj => wipe_get vs hj
theorem bindTs_len : ∀ (n : Nat) {es : List E} {ds : List D} {τ τ1 : CL.St}, (∀ {e : E} {d : D} {τ τ1 : CL.St}, e ∈ es → bindT e d τ = some τ1 → τ1.length = τ.length) → bindTs es ds τ = some τ1 → τ1.length = τ.length
  | n, [], [], τ, τ1, h, e => by simp [bindTs] at e; rw [e]
  | n, [], d :: ds, τ, τ1, h, e => by simp [bindTs] at e
  | n, x :: es, [], τ, τ1, h, e => by simp [bindTs] at e
  | n, x :: es, d :: ds, τ, τ1, h, e => by
    rw [bindTs] at e
    cases q : bindT x d τ with
    | none => rw [q] at e; cases e
    | some τ2 =>
      rw [q] at e
      have := bindTs_len n (es := es) (fun m => h (List.mem_cons_of_mem _ m)) e
      rw [this, h List.mem_cons_self q]
theorem bindT_len {t : E} {d : D} {τ τ1 : CL.St} (h : bindT t d τ = some τ1) : τ1.length = τ.length := by
  have key : ∀ n : Nat, ∀ {t : E} {d : D} {τ τ1 : CL.St}, sizeOf t < n → bindT t d τ = some τ1 → τ1.length = τ.length := by
    intro n
    induction n with
    | zero => intro t d τ τ1 h; omega
    | succ n ih =>
      intro t d τ τ1 hs h
      unfold bindT at h
      split at h
      · obtain ⟨_, h⟩ := some_if h
        rw [← h, put_length]
      · refine bindTs_len 0 (fun {e d τ τ1} m q => ih ?_ q) h
        have := List.sizeOf_lt_of_mem m
        simp only [E.tup.sizeOf_spec] at hs
        omega
      · cases h
  exact key _ (Nat.lt_succ_self _) h
theorem lc_okJ {elt : Expr} {ifs : List Expr} {scope : Scope} {own : List (Str × Nat)} {elt' tgt' : E} {ifs' : Option E} (hown : ∀ j, j ∈ own.map (·.2) → j ∈ tnames tgt') (hown2 : ∀ j, j ∈ tnames tgt' → j ∈ own.map (·.2))
    (ht : Blk X scope fun X => SndTs X Δ Γ ifs ifs') (he : Blk X scope fun X => SndE X Δ Γ elt elt') {τ τ1 : CL.St} {σ : L2.St} {H F H1 F1 : Hp} {J : It} {ds : List D} {locs : List Nat} (g : Ag Δ τ σ H F) (p1 : Post Δ τ τ1 σ H F H1 F1) (w : WalkD Δ J σ (hide τ1 locs) H1 F1 ds) {Q : VK}
    (hQ : PostG X Δ (GE Δ Q) τ σ H F (if ds.length ≤ lim then (lcGo (fun d τ => match bindT tgt' d (hide τ (tnames tgt')) with
      | some τ1 => (evc Γ ifs' τ1).bind fun b τ2 => match b with
        | true => (ev Γ elt' τ2).bind fun o τ3 => match CL.frz o τ3 with
          | some (x, τ4) => Res.ok (some x) τ4
          | none => .no
        | false => .ok none τ2
      | none => .no) ds (hide τ1 (tnames tgt' ++ locs))).bind fun xs σ2 => .ok (.c (.ol xs)) (back τ1 σ2 (tnames tgt' ++ locs)) else .no)) :
    tLc (fun _ _ R => R J H1) (gT Δ.K tgt') (bT X scope ifs) (bE X scope elt) (own.map (·.2)) σ H Q := by
  by_cases hlim : ds.length ≤ lim
  case neg => rw [if_neg hlim] at hQ; exact hQ.elim
  rw [if_pos hlim] at hQ
  intro D hD
  have hDF : F1 D = none := p1.ag.sub.free hD
  generalize hstep : (fun d τ => match bindT tgt' d (hide τ (tnames tgt')) with
      | some τ1 => (evc Γ ifs' τ1).bind fun b τ2 => match b with
        | true => (ev Γ elt' τ2).bind fun o τ3 => match CL.frz o τ3 with
          | some (x, τ4) => Res.ok (some x) τ4
          | none => .no
        | false => .ok none τ2
      | none => .no) = step at hQ
  cases eg : lcGo step ds (hide τ1 (tnames tgt' ++ locs)) with
  | exc x τ2 => rw [eg] at hQ; exact hQ.elim
  | no => rw [eg] at hQ; exact hQ.elim
  | ok xs τ2 =>
  rw [eg] at hQ
  have hQ : GE Δ Q τ σ H F (.c (.ol xs)) (back τ1 τ2 (tnames tgt' ++ locs)) := hQ
  obtain ⟨G, hG, w⟩ := w
  have vsub : ∀ v ∈ own.map (·.2), v ∈ tnames tgt' ++ locs := fun v m => List.mem_append_left _ (hown v m)
  have g0 := p1.ag.hidden vsub
  have l0 : Loop Δ D (hide τ1 (tnames tgt' ++ locs)) (wipe σ (own.map (·.2))) (upd H1 D (.lst [])) F1 (hide (hide τ1 (tnames tgt' ++ locs)) (tnames tgt')) (upd H1 D (.lst [])) F1 := by
    have g1 := (g0.laid (o := .lst []) hD).hidden (ns := tnames tgt') (vs := []) (fun _ m => by cases m)
    refine ⟨g1, Ext.refl _, fun a o _ h _ => h, fun a o h n => (by rw [n] at h; cases h), fun i x e o => ⟨x, (hide_get _ e).2, o⟩, fun a o h => ⟨o, h⟩, hDF, fun z => ?_, ⟨_, upd_same⟩⟩
    obtain ⟨_, u, e⟩ := g0.wr z
    rw [hD] at e; cases e
  -- what holds at turn i
  refine lc_it (te := bE X scope elt) (tt := bT X scope ifs) (Qd := fun H => Q (.ref D) H) w (fun i H => ∃ F τi acc xs1 xs2, lcGo step (ds.drop i) τi = .ok xs2 τ2 ∧ xs1 ++ xs2 = xs ∧ acc.length ≤ i ∧ Loop Δ D (hide τ1 (tnames tgt' ++ locs)) (wipe σ (own.map (·.2))) (upd H1 D (.lst [])) F1 (hide τi (tnames tgt')) H F ∧ H D = some (.lst acc) ∧ Reps Δ F acc xs1)
    ⟨F1, _, [], [], xs, by rw [List.drop_zero]; exact eg, rfl, Nat.le_refl _, l0, upd_same, .nil⟩ (fun i H hi ⟨F, τi, acc, xs1, xs2, e1, e2, e3, l, e4, r⟩ => ?_) (fun i x H H' hi ⟨F, τi, acc, xs1, xs2, e1, e2, e3, l, e4, r⟩ hy => ?_) (fun H ⟨F, τi, acc, xs1, xs2, e1, e2, e3, l, e4, r⟩ => ?_)
  · refine hG H F l.ext l.ag.sub fun a o ha nw => ?_
    have hne : a ≠ D := ne_of_none ha hD
    refine l.keep a o hne (by rw [upd_ne hne]; exact ha) fun z => nw ?_
    obtain ⟨j, y, ej, oj, sj⟩ := z
    obtain ⟨n1, e1⟩ := hide_get _ ej
    have n2 : j ∉ locs := fun m => n1 (List.mem_append_right _ m)
    exact ⟨j, y, get_hide e1 n2, oj, (wipe_some sj).1⟩
  · -- a turn
    have hiL : i < ds.length := hi
    rw [List.drop_eq_getElem_cons hiL, lcGo] at e1
    obtain ⟨d, F', hd, m⟩ := hy F l.ext l.ag.sub
    rw [List.getElem?_eq_getElem hiL] at hd
    cases hd
    have pm := m.post (τ := hide τi (tnames tgt')) (σ := wipe σ (own.map (·.2))) l.ag
    have rx : Rep Δ F' x ds[i] := pm.2 []
    have rest := pm.1
    -- the step's own run
    cases es : step ds[i] τi with
    | exc x τ' => rw [es] at e1; cases e1
    | no => rw [es] at e1; cases e1
    | ok oy τ' =>
    rw [es] at e1
    have e1 : ((lcGo step (List.drop (i + 1) ds) τ').bind fun xs σ2 => match oy with
      | some x => Res.ok (x :: xs) σ2
      | none => .ok xs σ2) = .ok xs2 τ2 := e1
    cases er : lcGo step (List.drop (i + 1) ds) τ' with
    | exc x τ'' => rw [er] at e1; cases e1
    | no => rw [er] at e1; cases e1
    | ok xs3 τ3 =>
    rw [er] at e1
    rw [← hstep] at es
    simp only at es
    cases eb : bindT tgt' ds[i] (hide τi (tnames tgt')) with
    | none => rw [eb] at es; cases es
    | some τb =>
    rw [eb] at es
    refine bind_ok tgt' rest.ag rx eb fun σ1 g1 bd => ?_
    have hlen : σ1.length = (wipe σ (own.map (·.2))).length := by
      have q1 := g1.len
      have q2 := rest.ag.len
      have q3 : τb.length = (hide τi (tnames tgt')).length := bindT_len eb
      omega
    have hw : wipe σ1 (own.map (·.2)) = wipe σ (own.map (·.2)) := by
      rw [wipe_eq hlen (fun j hj => (bd.out j fun m => hj (hown2 j m)).2)]
      apply List.ext_getElem?
      intro j
      by_cases hj : j ∈ own.map (·.2)
      · have w2 := wipe_wipe σ (own.map (·.2))
        rw [w2]
      · rw [wipe_get _ hj]
    refine ⟨hw, ?_⟩
    intro s0 Hs C cl fp
    refine ht s0 Hs C cl fp g1 ?_
    simp only at es
    cases ec : evc Γ ifs' τb with
    | exc x τ'' => rw [ec] at es; cases es
    | no => rw [ec] at es; cases es
    | ok bb τc =>
    rw [ec] at es
    have es : (match bb with
        | true => (ev Γ elt' τc).bind fun o τ3 => match CL.frz o τ3 with
          | some (x, τ4) => Res.ok (some x) τ4
          | none => .no
        | false => .ok none τc) = .ok oy τ' := es
    intro H3 F3 p3
    cases bb with
    | false =>
      cases es
      rw [if_neg Bool.false_ne_true]
      cases e1
      obtain ⟨l2, eD⟩ := l.turn rest bd p3 hown hw
      exact ⟨F3, τ', acc, xs1, xs2, er, e2, Nat.le_succ_of_le e3, l2, by rw [eD]; exact e4, r.mono (rest.ext.trans p3.ext)⟩
    | true =>
      rw [if_pos rfl]
      simp only at es
      intro s0 Hs C cl fp
      refine he s0 Hs C cl fp p3.ag ?_
      cases ee : ev Γ elt' τc with
      | exc x τ'' => rw [ee] at es; cases es
      | no => rw [ee] at es; cases es
      | ok o τd =>
      rw [ee] at es
      have es : (match CL.frz o τd with
          | some (x, τ4) => Res.ok (some x) τ4
          | none => .no) = .ok oy τ' := es
      cases ef : CL.frz o τd with
      | none => rw [ef] at es; cases es
      | some q =>
      obtain ⟨y', τe⟩ := q
      rw [ef] at es
      cases es
      cases e1
      intro v H4 F4 p4 r4
      have fin : ∀ F5, Post Δ τb τ' σ1 H' F' H4 F5 → Rep Δ F5 v y' → ∃ acc, H4 D = some (.lst acc) ∧ acc.length < sizeLine ∧ ∃ F τi acc_1 xs1 xs2, lcGo step (ds.drop (i + 1)) τi = .ok xs2 τ2 ∧ xs1 ++ xs2 = xs ∧ acc_1.length ≤ i + 1 ∧ Loop Δ D (hide τ1 (tnames tgt' ++ locs)) (wipe σ (own.map (·.2))) (upd H1 D (.lst [])) F1 (hide τi (tnames tgt')) (upd H4 D (.lst (acc ++ [v]))) F ∧ (upd H4 D (.lst (acc ++ [v]))) D = some (.lst acc_1) ∧ Reps Δ F acc_1 xs1 := fun F5 p5 rv => by
        obtain ⟨l2, eD⟩ := l.turn rest bd p5 hown hw
        refine ⟨acc, by rw [eD]; exact e4, ?_, F5, τ', acc ++ [v], xs1 ++ [y'], xs3, er, by rw [← e2]; simp, by rw [List.length_append, List.length_singleton]; omega, l2.write, upd_same, (r.mono (rest.ext.trans p5.ext)).append (.cons rv .nil)⟩
        have : sizeLine = 16777216 := sizeLine_eq
        have : lim = 1000000 := rfl
        omega
      rcases Post.frz1 p3.ag p4 r4 ef with ⟨rfl, _, rv, p5⟩ | ⟨a, u, rfl, _, _, _, rv, p5⟩
      · exact fin F4 (p3.trans p5) rv
      · exact fin _ (p3.trans p5) rv
  · -- the end
    rw [List.drop_eq_nil_of_le (Nat.le_refl _), lcGo] at e1
    cases e1
    rw [List.append_nil] at e2
    subst e2
    have nw1 : ∀ {a}, Wr (hide τ1 (tnames tgt' ++ locs)) (wipe σ (own.map (·.2))) a → Wr τ1 σ a := fun z => z.wipe.hide
    have hDn : ∀ a o, H1 a = some o → a ≠ D := fun a o h => ne_of_none h hD
    have agB : Ag Δ (back τ1 τ2 (tnames tgt' ++ locs)) σ H F := by
      refine ⟨l.ag.sub, ?_, fun j x e => ?_, fun j k x y a e1 e2 o1 o2 s1 s2 => ?_⟩
      · have q1 := l.ag.len
        rw [hide_len, wipe_length] at q1
        rw [back_len]; exact q1
      · rcases back_get _ e with ⟨h1, h2⟩ | ⟨h1, h2⟩
        · obtain ⟨v, hv, rv⟩ := p1.ag.at_ j x h2
          refine ⟨v, hv, ?_⟩
          by_cases ho : x.isOwn
          · obtain ⟨a, rfl, hF, oa⟩ := rv.own ho
            obtain ⟨u, hu⟩ := oa.there
            have nw : ¬ Wr (hide τ1 (tnames tgt' ++ locs)) (wipe σ (own.map (·.2))) a := fun z => by
              obtain ⟨k, y, ek, ok', sk⟩ := z
              obtain ⟨n1, ek⟩ := hide_get _ ek
              have : k = j := p1.ag.apart k j y x a ek h2 ok' ho (wipe_some sk).1 hv
              subst this
              exact n1 h1
            refine .of_own ?_ (oa.mono l.ext fun o q => l.keep a o (hDn a _ hu) (by rw [upd_ne (hDn a _ hu)]; exact q) nw)
            cases q : F a with
            | none => rfl
            | some o =>
              exfalso
              rcases l.froz a o q hF with z | z
              · exact nw z
              · exact oa.nw fun o' e' => z o' (by rw [upd_ne (hDn a _ e')]; exact e')
          · cases x <;> first | exact absurd trivial ho | exact Rep.mono l.ext rv
        · have h3 : j ∉ tnames tgt' := fun m => h1 (List.mem_append_left _ m)
          obtain ⟨v, hv, rv⟩ := l.ag.at_ j x (get_hide h2 h3)
          exact ⟨v, (wipe_some hv).1, rv⟩
      · -- apart
        have back1 : ∀ j x, get (back τ1 τ2 (tnames tgt' ++ locs)) j = some x → x.isOwn → ∃ z, get τ1 j = some z ∧ z.isOwn := fun j x e o => by
          rcases back_get _ e with ⟨h1, h2⟩ | ⟨h1, h2⟩
          · exact ⟨x, h2, o⟩
          · obtain ⟨y, h3, h4⟩ := l.mon j x (get_hide h2 fun m => h1 (List.mem_append_left _ m)) o
            exact ⟨y, (hide_get _ h3).2, h4⟩
        obtain ⟨z1, q1, q2⟩ := back1 j x e1 o1
        obtain ⟨z2, q3, q4⟩ := back1 k y e2 o2
        exact p1.ag.apart j k z1 z2 a q1 q3 q2 q4 s1 s2
    have post : Post Δ τ1 (back τ1 τ2 (tnames tgt' ++ locs)) σ H1 F1 H F := by
      refine ⟨agB, l.ext, fun a o h nw => l.keep a o (hDn a o h) (by rw [upd_ne (hDn a o h)]; exact h) fun z => nw (nw1 z), fun a o h n => ?_, fun j x e o => ?_, fun a o h => l.dom a o (by rw [upd_ne (hDn a o h)]; exact h)⟩
      · rcases l.froz a o h n with z | z
        · exact .inl (nw1 z)
        · exact .inr fun o' e' => z o' (by rw [upd_ne (hDn a _ e')]; exact e')
      · rcases back_get _ e with ⟨h1, h2⟩ | ⟨h1, h2⟩
        · exact ⟨x, h2, o⟩
        · obtain ⟨y, h3, h4⟩ := l.mon j x (get_hide h2 fun m => h1 (List.mem_append_left _ m)) o
          exact ⟨y, (hide_get _ h3).2, h4⟩
    exact hQ (.ref D) H F (p1.trans post) (OpRel.of_own (x := .ol xs1) (p1.gone hD) l.nF ⟨acc, e4, r⟩)
theorem lc_ok {elt tg iter : Expr} {ifs : List Expr} {scope : Scope} {own : List (Str × Nat)} {elt' tgt' it' : E} {ifs' : Option E} (hown : ∀ j, j ∈ own.map (·.2) → j ∈ tnames tgt') (hown2 : ∀ j, j ∈ tnames tgt' → j ∈ own.map (·.2))
    (hi : SndI X Δ Γ tg iter it') (ht : Blk X scope fun X => SndTs X Δ Γ ifs ifs') (he : Blk X scope fun X => SndE X Δ Γ elt elt') {τ : CL.St} {σ : L2.St} {H F : Hp} (g : Ag Δ τ σ H F) {Q : VK} (hQ : PostG X Δ (GE Δ Q) τ σ H F (ev Γ (.lc elt' tgt' it' ifs') τ)) :
    tLc (wpI X tg iter) (gT Δ.K tgt') (bT X scope ifs) (bE X scope elt) (own.map (·.2)) σ H Q := by
  rw [ev] at hQ
  exact hi.bind g hQ fun a τ1 J H1 F1 p1 w hQ => lc_okJ (ds := a.1) (locs := a.2) hown hown2 ht he g p1 w hQ
theorem s_lc {elt tg iter : Expr} {ifs : List Expr} {scope : Scope} {own : List (Str × Nat)} {elt' tgt' it' : E} {ifs' : Option E} (hc : X.calm = true) (hN : X.N.Nodup) (ok : BlkOk X.N X.env.scope scope own) (hown : ∀ j, j ∈ own.map (·.2) → j ∈ tnames tgt') (hown2 : ∀ j, j ∈ tnames tgt' → j ∈ own.map (·.2))
    (hi : SndI X Δ Γ tg iter it') (hg : Blk X scope fun X => PG X tg (gT Δ.K tgt')) (ht : Blk X scope fun X => SndTs X Δ Γ ifs ifs') (he : Blk X scope fun X => SndE X Δ Γ elt elt') (hs : ∀ x, foldedSetIterable iter X.env x = pure x) :
    SndE X Δ Γ (.ListComp elt [⟨tg, iter, ifs, 0⟩] scope pos) (.lc elt' tgt' it' ifs') := by
  intro τ σ H F g Q hQ
  have tt : Blk X scope fun Y => PTs Y ifs (bT X scope ifs) := fun s H C cl fp => ⟨fun pins s' σ' H' Q I h => h s H C cl fp pins s' I⟩
  have te : Blk X scope fun Y => PE Y elt (bE X scope elt) := fun s H C cl fp => ⟨fun pins s' σ' H' Q I h => h s H C cl fp pins s' I⟩
  exact wpE_of (pe_lc hc hN (pi0 tg iter) ok hg tt te hs) (lc_ok hown hown2 hi ht he g hQ)
end
end CL

set_option autoImplicit false
set_option linter.all false
set_option Elab.async false
set_option maxRecDepth 100000
set_option maxHeartbeats 1000000
/-! CLSt: statements. -/
namespace CL
open PySem PySem.Spec PyProof.Rows L2

structure PostS (Δ : Nm) (τ τ' : CL.St) (σ σ' : L2.St) (H F H' F' : Hp) : Prop where
  ag : Ag Δ τ' σ' H' F'
  ext : Ext F F'
  keep : ∀ a o, H a = some o → ¬ Wr τ σ a → H' a = some o
  froz : ∀ a o, F' a = some o → F a = none → Wr τ σ a ∨ Nw H a
  mon : ∀ a, Wr τ' σ' a → Wr τ σ a ∨ H a = none
  dom : ∀ a o, H a = some o → ∃ u, H' a = some u
  zero : ∀ y, get τ' 0 = some y → y.isOwn → (∃ x, get τ 0 = some x ∧ x.isOwn) ∧ σ'[0]? = σ[0]?
section
variable {Δ : Nm} {τ τ1 τ2 : CL.St} {σ σ1 σ2 : L2.St} {H F H1 F1 H2 F2 : Hp}
theorem Post.s (p : Post Δ τ τ1 σ H F H1 F1) : PostS Δ τ τ1 σ σ H F H1 F1 :=
  ⟨p.ag, p.ext, p.keep, p.froz, fun a w => .inl (p.wr w), p.dom, fun y e o => ⟨p.mon 0 y e o, rfl⟩⟩
theorem PostS.refl (g : Ag Δ τ σ H F) : PostS Δ τ τ σ σ H F H F := (Post.refl g).s
theorem PostS.gone (p : PostS Δ τ τ1 σ σ1 H F H1 F1) {a : Addr} (h : H1 a = none) : H a = none := by
  cases e : H a with
  | none => rfl
  | some o =>
    obtain ⟨u, q⟩ := p.dom a o e
    rw [h] at q; cases q
theorem PostS.from (p : PostS Δ τ τ1 σ σ1 H F H1 F1) {a : Addr} (h : Wr τ1 σ1 a ∨ H1 a = none) : Wr τ σ a ∨ H a = none := by
  rcases h with h | h
  · exact p.mon a h
  · exact .inr (p.gone h)
theorem PostS.trans (p : PostS Δ τ τ1 σ σ1 H F H1 F1) (q : PostS Δ τ1 τ2 σ1 σ2 H1 F1 H2 F2) : PostS Δ τ τ2 σ σ2 H F H2 F2 := by
  refine ⟨q.ag, p.ext.trans q.ext, fun a o h n => q.keep a o (p.keep a o h n) fun w => ?_, fun a o h n => ?_, fun a w => p.from (q.mon a w), fun a o h => ?_, fun y e o => ?_⟩
  · rcases p.mon a w with z | z
    · exact n z
    · rw [z] at h; cases h
  · cases e : F1 a with
    | some u => exact p.froz a u e n
    | none =>
      rcases q.froz a o h e with w | w
      · exact (p.mon a w).imp id Nw.of
      · by_cases hw : Wr τ σ a
        · exact .inl hw
        · exact .inr fun o h => w o (p.keep a o h hw)
  · obtain ⟨u, h1⟩ := p.dom a o h
    exact q.dom a u h1
  · obtain ⟨⟨x, e1, o1⟩, e2⟩ := q.zero y e o
    obtain ⟨h, e3⟩ := p.zero x e1 o1
    exact ⟨h, e2.trans e3⟩
end
/-- a value that is handed back -/
def RetOk (Δ : Nm) (τ : CL.St) (σ : L2.St) (H : Hp) (τ' : CL.St) (σ' : L2.St) (H' F' : Hp) (v : V) : C → Prop
  | .val d => Rep Δ F' v d
  | x => ∃ a, v = .ref a ∧ F' a = none ∧ OwnAt Δ F' H' a x ∧ ¬ Wr τ' σ' a ∧ (Wr τ σ a ∨ H a = none)
def flowTo (Δ : Nm) (D : Ends) (τ : CL.St) (σ : L2.St) (H : Hp) (τ' : CL.St) (σ' : L2.St) (H' F' : Hp) : CL.Flow → Prop
  | .next => D.nx σ' H'
  | .brk => D.bk σ' H'
  | .cont => D.ct σ' H'
  | .ret x => ∀ v, RetOk Δ τ σ H τ' σ' H' F' v x → D.rt v H'
def GS (Δ : Nm) (D : Ends) : Tg CL.Flow := fun τ σ H F f τ' => ∀ σ' H' F', PostS Δ τ τ' σ σ' H F H' F' → flowTo Δ D τ σ H τ' σ' H' F' f
theorem RetOk.own {Δ : Nm} {τ τ' : CL.St} {σ σ' : L2.St} {H H' F' : Hp} {v : V} {x : C} (h : RetOk Δ τ σ H τ' σ' H' F' v x) (ho : x.isOwn) : ∃ a, v = .ref a ∧ F' a = none ∧ OwnAt Δ F' H' a x ∧ ¬ Wr τ' σ' a ∧ (Wr τ σ a ∨ H a = none) := by
  cases x <;> first | exact ho.elim | exact h
theorem RetOk.of_own {Δ : Nm} {τ τ' : CL.St} {σ σ' : L2.St} {H H' F' : Hp} {a : Addr} {x : C} (hF : F' a = none) (oa : OwnAt Δ F' H' a x) (nw : ¬ Wr τ' σ' a) (hw : Wr τ σ a ∨ H a = none) : RetOk Δ τ σ H τ' σ' H' F' (.ref a) x := by
  cases x <;> first | exact oa.elim | exact ⟨a, rfl, hF, oa, nw, hw⟩
section
variable {Δ : Nm} {τ τ1 τ' : CL.St} {σ σ1 σ' : L2.St} {H F H1 F1 H' F' : Hp}
theorem RetOk.older {v : V} {x : C} (p : PostS Δ τ τ1 σ σ1 H F H1 F1) (h : RetOk Δ τ1 σ1 H1 τ' σ' H' F' v x) : RetOk Δ τ σ H τ' σ' H' F' v x := by
  by_cases ho : x.isOwn
  · obtain ⟨a, rfl, h1, h2, h3, h4⟩ := h.own ho
    exact .of_own h1 h2 h3 (p.from h4)
  · cases x <;> first | exact absurd trivial ho | exact h
theorem flowTo.later {D : Ends} {f : CL.Flow} (p : PostS Δ τ τ1 σ σ1 H F H1 F1) (h : flowTo Δ D τ σ H τ' σ' H' F' f) : flowTo Δ D τ1 σ1 H1 τ' σ' H' F' f := by
  cases f with
  | ret x => exact fun v r => h v (r.older p)
  | _ => exact h
theorem GS.later {X : Cx} {D : Ends} (p : PostS Δ τ τ1 σ σ1 H F H1 F1) {r : Res CL.Flow} (h : PostG X Δ (GS Δ D) τ σ H F r) : PostG X Δ (GS Δ D) τ1 σ1 H1 F1 r := by
  cases r with
  | ok f τ' => exact fun σ' H' F' q => (h σ' H' F' (p.trans q)).later p
  | exc x τ' => exact h
  | no => exact h
theorem GS.shift {D : Ends} : Shift Δ (GS Δ D) := ⟨fun p h σ' H' F' q => (h σ' H' F' (p.s.trans q)).later p.s⟩
/-- behind an assignment -/
def GU (Δ : Nm) (Q : L2.St → Hp → Prop) : Tg Unit := fun τ σ H F _ τ' => ∀ σ' H' F', PostS Δ τ τ' σ σ' H F H' F' → Q σ' H'
theorem GU.later {X : Cx} {Q : L2.St → Hp → Prop} (p : PostS Δ τ τ1 σ σ1 H F H1 F1) {r : Res Unit} (h : PostG X Δ (GU Δ Q) τ σ H F r) : PostG X Δ (GU Δ Q) τ1 σ1 H1 F1 r := by
  cases r with
  | ok f τ' => exact fun σ' H' F' q => h σ' H' F' (p.trans q)
  | exc x τ' => exact h
  | no => exact h
theorem GU.shift {Q : L2.St → Hp → Prop} : Shift Δ (GU Δ Q) := ⟨fun p h σ' H' F' q => h σ' H' F' (p.s.trans q)⟩
end
def SndS (X : Cx) (Δ : Nm) (Γ : Ctx) (st : Stmt) (s' : S) : Prop := ∀ ⦃τ σ H F⦄, Ag Δ τ σ H F → ∀ ⦃D⦄, PostG X Δ (GS Δ D) τ σ H F (ex Γ s' τ) → wpS X st D σ H
def SndSs (X : Cx) (Δ : Nm) (Γ : Ctx) (st : List Stmt) (s' : List S) : Prop := ∀ ⦃τ σ H F⦄, Ag Δ τ σ H F → ∀ ⦃D⦄, PostG X Δ (GS Δ D) τ σ H F (exs Γ s' τ) → wpSs X st D σ H
def wpG (X : Cx) (t : Expr) : TG := fun v σ H Q => ∀ (pins : List (Addr × Obj)) (s : Shared) (u : Value), L2.Inv X pins σ H s → RelV v u → wpAny (model X.prog X.w) X.A (assign t X.env u) (fun _ s' => ∃ σ' H', L2.Inv X pins σ' H' s' ∧ Q σ' H') X.xe s
def wpGs (X : Cx) (ts : List Expr) : TGs := fun vs σ H Q => ∀ (pins : List (Addr × Obj)) (s : Shared) (us : List Value), L2.Inv X pins σ H s → Vals vs us → wpAny (model X.prog X.w) X.A (assignInOrder ((assignEach ts X.env).map (·.2)) us) (fun _ s' => ∃ σ' H', L2.Inv X pins σ' H' s' ∧ Q σ' H') X.xe s
/-- a target that is handed a value -/
def SndG (X : Cx) (Δ : Nm) (Γ : Ctx) (t : Expr) (t' : E) : Prop := ∀ ⦃τ σ H F⦄, Ag Δ τ σ H F → ∀ ⦃v d⦄, Rep Δ F v d → ∀ ⦃Q⦄, PostG X Δ (GU Δ Q) τ σ H F (asgD Γ t' d τ) → wpG X t v σ H Q
def SndGs (X : Cx) (Δ : Nm) (Γ : Ctx) (ts : List Expr) (ts' : List E) : Prop := ∀ ⦃τ σ H F⦄, Ag Δ τ σ H F → ∀ ⦃vs ds⦄, Reps Δ F vs ds → ∀ ⦃Q⦄, PostG X Δ (GU Δ Q) τ σ H F (asgDs Γ ts' ds τ) → wpGs X ts vs σ H Q
section
variable {X : Cx} {Δ : Nm} {Γ : Ctx} {pos : Pos} {τ τ1 : CL.St} {σ : L2.St} {H F : Hp}
theorem pg0 (t : Expr) : PG X t (wpG X t) := ⟨fun pins s σ H v u Q I r h => h pins s u I r⟩
theorem pgs0 (ts : List Expr) : PGs X ts (wpGs X ts) := ⟨fun pins s σ H v u Q I r h => h pins s u I r⟩
theorem wpG_of {t : Expr} {g : TG} (h : PG X t g) {v : V} {Q : L2.St → Hp → Prop} (q : g v σ H Q) : wpG X t v σ H Q := fun pins s u I r => h.run pins s σ H v u Q I r q
theorem wpGs_of {t : List Expr} {g : TGs} (h : PGs X t g) {v : List V} {Q : L2.St → Hp → Prop} (q : g v σ H Q) : wpGs X t v σ H Q := fun pins s u I r => h.run pins s σ H v u Q I r q
/-- a name's own thing is written -/
theorem Post.write {i : Nat} {x x' : C} {a : Addr} {o : HO} (g : Ag Δ τ σ H F) (e : get τ i = some x) (hx : x.isOwn) (hσ : σ[i]? = some (some (.ref a))) (oa : OwnAt Δ F (upd H a o) a x') : Post Δ τ (put τ i (some x')) σ H F (upd H a o) F := by
  have w : Wr τ σ a := ⟨i, x, e, hx, hσ⟩
  obtain ⟨hF, u, hu⟩ := g.wr w
  have hi := get_lt e
  have back : ∀ j y, get (put τ i (some x')) j = some y → y.isOwn → ∃ z, get τ j = some z ∧ z.isOwn := fun j y ej oj => by
    rcases get_put_eq ej with ⟨rfl, q⟩ | ⟨ne, q⟩
    · exact ⟨x, e, hx⟩
    · exact ⟨y, q, oj⟩
  refine ⟨⟨g.sub.write hF, (put_length _ _ _).trans g.len, fun j y ej => ?_, fun j k y z b e1 e2 o1 o2 s1 s2 => ?_⟩, Ext.refl F, fun b t hb nw => ?_, fun b t hb hn => (by rw [hn] at hb; cases hb), back, fun b t hb => ?_⟩
  · rcases get_put_eq ej with ⟨rfl, q⟩ | ⟨ne, q⟩
    · cases q
      exact ⟨_, hσ, .of_own hF oa⟩
    · obtain ⟨v, hv, r⟩ := g.at_ j y q
      refine ⟨v, hv, ?_⟩
      by_cases hoj : y.isOwn
      · obtain ⟨b, rfl, hFb, ob⟩ := r.own hoj
        have hba : b ≠ a := fun z => ne (g.apart j i y x b q e hoj hx hv (by rw [z]; exact hσ))
        exact .of_own hFb (ob.mono (Ext.refl F) fun t ht => by rw [upd_ne hba]; exact ht)
      · cases y <;> first | exact absurd trivial hoj | exact r
  · obtain ⟨z1, q1, q2⟩ := back j y e1 o1
    obtain ⟨z2, q3, q4⟩ := back k z e2 o2
    exact g.apart j k z1 z2 b q1 q3 q2 q4 s1 s2
  · rw [upd_ne fun z => nw (by rw [z]; exact w)]; exact hb
  · by_cases z : b = a
    · exact ⟨o, by rw [z]; exact upd_same⟩
    · exact ⟨t, by rw [upd_ne z]; exact hb⟩
theorem Post.s_bound {τ1 : CL.St} {σ1 : L2.St} {tn : List Nat} (g : Ag Δ τ σ H F) (g1 : Ag Δ τ1 σ1 H F) (b : Bound τ τ1 σ σ1 tn) : PostS Δ τ τ1 σ σ1 H F H F := by
  refine ⟨g1, Ext.refl F, fun a o h _ => h, fun a o h n => (by rw [n] at h; cases h), fun a w => .inl (b.wr w), fun a o h => ⟨o, h⟩, fun y e o => ?_⟩
  by_cases h0 : 0 ∈ tn
  · obtain ⟨d, e'⟩ := b.ins 0 h0
    rw [e] at e'; cases e'
    exact o.elim
  · obtain ⟨e1, e2⟩ := b.out 0 h0
    exact ⟨⟨y, e1 ▸ e, o⟩, e2⟩

/-! ### targets -/
theorem g_name {i : Nat} {x : Str} (hN : X.N.Nodup) (hi : X.N[i]? = some x) (hx : Loc X.env.scope x) (hf : X.fn x = true ∨ X.env.scope.names.lookup x = some .local) : SndG X Δ Γ (.Name x pos) (.name i) := by
  intro τ σ H F g v d r Q hQ
  rw [asgD] at hQ
  by_cases hlt : i < τ.length
  · rw [if_pos hlt] at hQ
    refine wpG_of (pg_name hN hi hx hf) ?_
    have g1 := g.putVal hlt r
    refine hQ _ H F (Post.s_bound (tn := [i]) g g1 ⟨fun j hj => ?_, fun j hj => ?_⟩)
    · have ne : j ≠ i := fun e => hj (by simp [e])
      exact ⟨get_put_ne ne, set_get ne⟩
    · have e : j = i := by simpa using hj
      subst e
      exact ⟨d, get_put hlt⟩
  · rw [if_neg hlt] at hQ; exact hQ.elim
theorem gs_nil : SndGs X Δ Γ [] [] := by
  intro τ σ H F g vs ds r Q hQ
  cases r with
  | nil =>
    rw [asgDs] at hQ
    exact wpGs_of pgs_nil ⟨rfl, hQ σ H F (.refl g)⟩
  | cons _ _ => simp only [asgDs] at hQ; exact hQ.elim
theorem gs_cons {t : Expr} {ts : List Expr} {t' : E} {ts' : List E} (h1 : SndG X Δ Γ t t') (h2 : SndGs X Δ Γ ts ts') (hs : (assignEach (t :: ts) X.env).map (·.2) = assign t X.env :: (assignEach ts X.env).map (·.2)) : SndGs X Δ Γ (t :: ts) (t' :: ts') := by
  intro τ σ H F g vs ds r Q hQ
  cases r with
  | nil => simp only [asgDs] at hQ; exact hQ.elim
  | @cons v d vs ds r1 r2 =>
    rw [asgDs] at hQ
    refine wpGs_of (pgs_cons (pg0 t) (pgs0 ts) hs) ⟨v, vs, rfl, ?_⟩
    refine h1 g r1 ?_
    revert hQ
    cases asgD Γ t' d τ with
    | ok u τ1 => exact fun hQ σ1 H1 F1 p => h2 p.ag (r2.mono p.ext) (GU.later p hQ)
    | exc x τ1 => exact fun hQ => hQ
    | no => exact fun hQ => hQ
theorem asgDs_len : ∀ {ts : List E} {ds : List D} {τ τ1 : CL.St}, asgDs Γ ts ds τ = .ok () τ1 → ts.length = ds.length
  | [], [], _, _, _ => rfl
  | [], _ :: _, _, _, h => by simp only [asgDs] at h; cases h
  | _ :: _, [], _, _, h => by simp only [asgDs] at h; cases h
  | t :: ts, d :: ds, τ, τ1, h => by
    rw [asgDs] at h
    cases e : asgD Γ t d τ with
    | ok u τ2 =>
      rw [e] at h
      rw [List.length_cons, List.length_cons, asgDs_len (τ := τ2) h]
    | exc x τ2 => rw [e] at h; cases h
    | no => rw [e] at h; cases h
theorem g_tup {ts : List Expr} {ts' : List E} {k : Nat} (hc : X.calm = true) (h : SndGs X Δ Γ ts ts') (hK : X.K = Δ.K) (hn : (assignEach ts X.env).length = ts'.length) (hst : (assignEach ts X.env).findIdx? (·.1) = none) : SndG X Δ Γ (.Tuple ts k pos) (.tup ts') := by
  intro τ σ H F g v d r Q hQ
  cases d with
  | tup ds =>
    simp only [asgD] at hQ
    cases r with
    | @tup a vs _ h1 h2 =>
    refine wpG_of (pg_tup hc (pgs0 ts) hn hst) ?_
    have hl : ts'.length = ds.length := by
      cases e : asgDs Γ ts' ds τ with
      | ok u τ1 => exact asgDs_len e
      | exc x τ1 => rw [e] at hQ; exact hQ.elim
      | no => rw [e] at hQ; exact hQ.elim
    exact ⟨a, vs, rfl, hK ▸ .inl (.inl (g.sub.tup h1)), by rw [h2.length, hl], h g h2 hQ⟩
  | _ => simp only [asgD] at hQ; exact hQ.elim
end
end CL

set_option autoImplicit false
set_option linter.all false
set_option Elab.async false
set_option maxRecDepth 100000
set_option maxHeartbeats 1000000
/-! CLSt2: statements. -/
namespace CL
open PySem PySem.Spec PyProof.Rows L2

section
variable {Δ : Nm} {τ τ0 τ1 τ2 : CL.St} {σ σ0 σ1 : L2.St} {H₀ F₀ H F : Hp}
/-- fewer names -/
theorem Post.fewer (p : Post Δ τ0 τ σ H₀ F₀ H F) (hl : τ1.length = τ.length) (h : ∀ j y, get τ1 j = some y → get τ j = some y) : Post Δ τ0 τ1 σ H₀ F₀ H F :=
  ⟨⟨p.ag.sub, hl.trans p.ag.len, fun i x e => p.ag.at_ i x (h i x e), fun i j x y a e1 e2 => p.ag.apart i j x y a (h i x e1) (h j y e2)⟩, p.ext, p.keep, p.froz, fun i x e o => p.mon i x (h i x e) o, p.dom⟩
theorem Post.take {v : V} {o : Opd} {x : C} (g0 : Ag Δ τ0 σ H₀ F₀) (p : Post Δ τ0 τ σ H₀ F₀ H F) (h : OpRel Δ τ σ H₀ H F v o) (e : CL.take o τ = some (x, τ1)) :
    Post Δ τ0 τ1 σ H₀ F₀ H F ∧ RetOk Δ τ0 σ H₀ τ1 σ H F v x ∧ (∀ j y, get τ1 j = some y → get τ j = some y) ∧ ((∃ i, o = .loc i ∧ (x.isOwn → ∃ a, v = .ref a ∧ Wr τ σ a)) ∨ (o = .c x ∧ τ1 = τ)) := by
  cases o with
  | c y =>
    have e' : (y, τ) = (x, τ1) := Option.some.inj e
    cases e'
    refine ⟨p, ?_, fun j y e => e, .inr ⟨rfl, rfl⟩⟩
    by_cases hx : x.isOwn
    · obtain ⟨a, rfl, h0, hF, oa⟩ := h.own hx
      exact .of_own hF oa (OpRel.notWr (v := .ref a) (x := x) g0 p h0) (.inr h0)
    · cases x <;> first | exact absurd trivial hx | exact h
  | loc i =>
    rw [CL.take] at e
    cases q : get τ i with
    | none => rw [q] at e; cases e
    | some y =>
      rw [q] at e
      have e' : (y, put τ i none) = (x, τ1) := Option.some.inj e
      cases e'
      have sub : ∀ j y, get (put τ i none) j = some y → get τ j = some y := fun j y ej => by
        rcases get_put_eq ej with ⟨_, z⟩ | ⟨_, z⟩
        · cases z
        · exact z
      obtain ⟨w, hw, r⟩ := p.ag.at_ i x q
      rw [show σ[i]? = some (some v) from h] at hw
      cases hw
      refine ⟨p.fewer (put_length _ _ _) sub, ?_, sub, .inl ⟨i, rfl, fun hx => ?_⟩⟩
      · by_cases hx : x.isOwn
        · obtain ⟨a, rfl, hF, oa⟩ := r.own hx
          refine .of_own hF oa (fun w => ?_) (.inl (p.wr ⟨i, x, q, hx, h⟩))
          obtain ⟨j, y, ej, oj, sj⟩ := w
          rcases get_put_eq ej with ⟨_, z⟩ | ⟨ne, z⟩
          · cases z
          · exact ne (p.ag.apart j i y x a z q oj hx sj h)
        · cases x <;> first | exact absurd trivial hx | exact r
      · obtain ⟨a, rfl, _⟩ := r.own hx
        exact ⟨a, rfl, i, x, q, hx, h⟩
/-- the own ones among what is taken -/
def ownsC : List V → List C → List V
  | v :: vs, .val _ :: xs => ownsC vs xs
  | v :: vs, _ :: xs => v :: ownsC vs xs
  | _, _ => []
theorem ownsC_cons {v : V} {vs : List V} {x : C} {xs : List C} (h : x.isOwn) : ownsC (v :: vs) (x :: xs) = v :: ownsC vs xs := by
  cases x <;> first | exact h.elim | rfl
theorem ownsC_val {v : V} {vs : List V} {x : C} {xs : List C} (h : ¬ x.isOwn) : ownsC (v :: vs) (x :: xs) = ownsC vs xs := by
  cases x <;> first | exact absurd trivial h | rfl
theorem owns_cons {v : V} {vs : List V} {x : C} {os : List Opd} (h : x.isOwn) : owns (v :: vs) (.c x :: os) = v :: owns vs os := by
  cases x <;> first | exact h.elim | rfl
theorem RetOk.fewer {v : V} {x : C} (h : RetOk Δ τ0 σ0 H₀ τ σ H F v x) (hs : ∀ a, Wr τ1 σ a → Wr τ σ a) : RetOk Δ τ0 σ0 H₀ τ1 σ H F v x := by
  by_cases ho : x.isOwn
  · obtain ⟨a, rfl, h1, h2, h3, h4⟩ := h.own ho
    exact .of_own h1 h2 (fun w => h3 (hs a w)) h4
  · cases x <;> first | exact absurd trivial ho | exact h
theorem Post.takes (g0 : Ag Δ τ0 σ H₀ F₀) : ∀ {os : List Opd} {vs : List V} {τ τ' : CL.St} {xs : List C}, Post Δ τ0 τ σ H₀ F₀ H F → OpRels Δ τ σ H₀ H F vs os → CL.takes os τ = some (xs, τ') →
    Post Δ τ0 τ' σ H₀ F₀ H F ∧ Paired (RetOk Δ τ0 σ H₀ τ' σ H F) vs xs ∧ (ownsC vs xs).Nodup ∧ (∀ j y, get τ' j = some y → get τ j = some y) ∧ ∀ v ∈ ownsC vs xs, (∃ a, v = .ref a ∧ Wr τ σ a) ∨ v ∈ owns vs os
  | [], vs, τ, τ', xs, p, r, e => by
    have e' : (([] : List C), τ) = (xs, τ') := Option.some.inj e
    cases e'
    obtain ⟨r, _⟩ := r
    cases r
    exact ⟨p, .nil, List.nodup_nil, fun j y e => e, fun v m => by cases m⟩
  | o :: os, vs, τ, τ', xs, p, r, e => by
    rw [CL.takes] at e
    cases e1 : CL.take o τ with
    | none => rw [e1] at e; cases e
    | some q =>
      obtain ⟨x, τ1⟩ := q
      rw [e1] at e
      have e : (CL.takes os τ1).map (fun (xs, σ2) => (x :: xs, σ2)) = some (xs, τ') := e
      cases e2 : CL.takes os τ1 with
      | none => rw [e2] at e; cases e
      | some q =>
        obtain ⟨xs2, τ2⟩ := q
        rw [e2] at e
        have e' : (x :: xs2, τ2) = (xs, τ') := Option.some.inj e
        cases e'
        obtain ⟨ra, ap⟩ := r
        obtain ⟨v, ws, rfl, r1, rt⟩ := paired_cons ra
        obtain ⟨p1, ro, sb, kind⟩ := p.take g0 r1 e1
        have ap2 : (owns ws os).Nodup := by
          cases o with
          | loc i => exact ap
          | c y => cases y with
            | val d => exact ap
            | ol d => exact (List.nodup_cons.mp ap).2
            | od t d => exact (List.nodup_cons.mp ap).2
            | oi c d => exact (List.nodup_cons.mp ap).2
        have wsub : ∀ {τ τ1 : CL.St} {a : Addr}, (∀ j y, get τ1 j = some y → get τ j = some y) → Wr τ1 σ a → Wr τ σ a := fun hs w => by
          obtain ⟨j, y, ej, oj, sj⟩ := w
          exact ⟨j, y, hs j y ej, oj, sj⟩
        have rt1 : Paired (OpRel Δ τ1 σ H₀ H F) ws os := Paired.mapP rt fun w q h => by
          cases q with
          | loc j => exact h
          | c y => exact (by cases y <;> exact h)
        obtain ⟨p2, rs, nd, sb2, org⟩ := Post.takes g0 p1 ⟨rt1, ap2⟩ e2
        have ro2 := ro.fewer (fun a w => wsub sb2 w)
        refine ⟨p2, .cons ro2 rs, ?_, fun j y e => sb j y (sb2 j y e), fun w m => ?_⟩
        · by_cases hx : x.isOwn
          · rw [ownsC_cons hx]
            refine List.nodup_cons.mpr ⟨fun m => ?_, nd⟩
            obtain ⟨a, rfl, _, _, nw, _⟩ := ro.own hx
            rcases org _ m with ⟨b, eb, wb⟩ | mo
            · cases eb
              exact nw wb
            · rcases kind with ⟨i, rfl, hw⟩ | ⟨rfl, rfl⟩
              · obtain ⟨b, eb, wb⟩ := hw hx
                cases eb
                obtain ⟨c, ec, h0, _⟩ := owns_fresh rt _ mo
                cases ec
                exact OpRel.notWr (v := .ref a) (x := x) g0 p h0 wb
              · rw [owns_cons hx] at ap
                exact (List.nodup_cons.mp ap).1 mo
          · rw [ownsC_val hx]; exact nd
        · have later : w ∈ ownsC ws xs2 → (∃ a, w = .ref a ∧ Wr τ σ a) ∨ w ∈ owns (v :: ws) (o :: os) := fun m => by
            rcases org w m with ⟨a, ea, wa⟩ | mo
            · exact .inl ⟨a, ea, wsub sb wa⟩
            · refine .inr ?_
              cases o with
              | loc i => exact mo
              | c y => cases y with
                | val d => exact mo
                | ol d => exact List.mem_cons_of_mem _ mo
                | od t d => exact List.mem_cons_of_mem _ mo
                | oi c d => exact List.mem_cons_of_mem _ mo
          by_cases hx : x.isOwn
          · rw [ownsC_cons hx] at m
            rcases List.mem_cons.mp m with rfl | m
            · rcases kind with ⟨i, rfl, hw⟩ | ⟨rfl, rfl⟩
              · exact .inl (hw hx)
              · refine .inr ?_
                rw [owns_cons hx]
                exact List.mem_cons_self
            · exact later m
          · rw [ownsC_val hx] at m
            exact later m
theorem notOwn_iff {x : C} : x.ownB = false ↔ ¬ x.isOwn := by
  cases x <;> simp [C.ownB, C.isOwn]
/-- a name is given what was taken -/
theorem PostS.store {i : Nat} {v : V} {x : C} (p : PostS Δ τ0 τ σ0 σ H₀ F₀ H F) (r : RetOk Δ τ0 σ0 H₀ τ σ H F v x) (hi : i < τ.length) (h0 : i ≠ 0 ∨ ¬ x.isOwn) :
    PostS Δ τ0 (put τ i (some x)) σ0 (σ.set i (some v)) H₀ F₀ H F ∧ ∀ b, Wr (put τ i (some x)) (σ.set i (some v)) b → Wr τ σ b ∨ (x.isOwn ∧ v = .ref b) := by
  have hσ : i < σ.length := by rw [← p.ag.len]; exact hi
  have wr : ∀ b, Wr (put τ i (some x)) (σ.set i (some v)) b → Wr τ σ b ∨ (x.isOwn ∧ v = .ref b) := fun b w => by
    obtain ⟨j, y, ej, oj, sj⟩ := w
    rcases get_put_eq ej with ⟨rfl, z⟩ | ⟨ne, z⟩
    · cases z
      rw [List.getElem?_set_self hσ] at sj
      cases sj
      exact .inr ⟨oj, rfl⟩
    · rw [set_get ne] at sj
      exact .inl ⟨j, y, z, oj, sj⟩
  refine ⟨⟨⟨p.ag.sub, by rw [put_length, List.length_set]; exact p.ag.len, fun j y e => ?_, fun j k y z a e1 e2 o1 o2 s1 s2 => ?_⟩, p.ext, p.keep, p.froz, fun b w => ?_, p.dom, fun y e o => ?_⟩, wr⟩
  · rcases get_put_eq e with ⟨rfl, q⟩ | ⟨ne, q⟩
    · cases q
      refine ⟨v, by rw [List.getElem?_set_self hσ], ?_⟩
      by_cases hx : x.isOwn
      · obtain ⟨a, rfl, h1, h2, _⟩ := r.own hx
        exact .of_own h1 h2
      · cases x <;> first | exact absurd trivial hx | exact r
    · rw [set_get ne]
      exact p.ag.at_ j y q
  · rcases get_put_eq e1 with ⟨rfl, q⟩ | ⟨ne, q⟩
    · cases q
      rw [List.getElem?_set_self hσ] at s1
      cases s1
      obtain ⟨b, eb, h1, h2, nw, _⟩ := r.own o1
      cases eb
      rcases get_put_eq e2 with ⟨rfl, q2⟩ | ⟨ne2, q2⟩
      · rfl
      · rw [set_get ne2] at s2
        exact absurd ⟨k, z, q2, o2, s2⟩ nw
    · rw [set_get ne] at s1
      rcases get_put_eq e2 with ⟨rfl, q2⟩ | ⟨ne2, q2⟩
      · cases q2
        rw [List.getElem?_set_self hσ] at s2
        cases s2
        obtain ⟨b, eb, h1, h2, nw, _⟩ := r.own o2
        cases eb
        exact absurd ⟨j, y, q, o1, s1⟩ nw
      · rw [set_get ne2] at s2
        exact p.ag.apart j k y z a q q2 o1 o2 s1 s2
  · rcases wr b w with w | ⟨hx, rfl⟩
    · exact p.mon b w
    · obtain ⟨a, ea, _, _, _, h4⟩ := r.own hx
      cases ea
      exact h4
  · rcases get_put_eq e with ⟨e0, q⟩ | ⟨ne, q⟩
    · cases q
      rcases h0 with h0 | h0
      · exact absurd e0.symm h0
      · exact absurd o h0
    · obtain ⟨h1, h2⟩ := p.zero y q o
      exact ⟨h1, by rw [set_get ne]; exact h2⟩
end
section
variable {X : Cx} {Δ : Nm} {Γ : Ctx} {pos : Pos} {e : Expr} {e' : E}
theorem asg_core {i : Nat} (he : SndE X Δ Γ e e') {τ : CL.St} {σ : L2.St} {H F : Hp} (g : Ag Δ τ σ H F) {D : Ends} (hQ : PostG X Δ (GS Δ D) τ σ H F (ex Γ (.set i e') τ)) : wpE X e σ H fun x H1 => gName i x σ H1 D.nx := by
  rw [ex] at hQ
  refine he.bind' g hQ fun o τ1 v H1 F1 p1 r1 hQ => ?_
  cases e1 : CL.take o τ1 with
  | none => rw [e1] at hQ; exact hQ.elim
  | some q =>
    obtain ⟨x, τ2⟩ := q
    rw [e1] at hQ
    obtain ⟨p2, ro, _, _⟩ := p1.take g r1 e1
    simp only [stores] at hQ
    cases hb : decide (i < τ2.length) && (i != 0 || !x.ownB) with
    | false => rw [hb] at hQ; exact hQ.elim
    | true =>
      rw [hb] at hQ
      simp only [Bool.and_eq_true, Bool.or_eq_true, decide_eq_true_eq, bne_iff_ne, ne_eq, Bool.not_eq_true'] at hb
      exact hQ _ H1 F1 (p2.s.store ro hb.1 (hb.2.imp id notOwn_iff.mp)).1
theorem st_set {i : Nat} {x : Str} {pos' : Pos} (hN : X.N.Nodup) (hi : X.N[i]? = some x) (hx : Loc X.env.scope x) (hs : swapsWith e (some (.Name x pos')) pos.line X.env = pure false) (hf : X.fn x = true ∨ X.env.scope.names.lookup x = some .local) (he : SndE X Δ Γ e e') :
    SndS X Δ Γ (.Assign [.Name x pos'] e pos) (.set i e') := by
  intro τ σ H F g D hQ
  exact wpS_of (ps_set hN hi hx (pe0 e) hs hf) (asg_core he g hQ)
theorem st_asg {t : Expr} {t' : E} (hs : swapsWithSole [t] e pos.line X.env = pure false) (hw : swappedStores [t] e X.env = pure none) (h1 : (assignEach [t] X.env).map (·.2) = [assign t X.env]) (he : SndE X Δ Γ e e') (ht : SndG X Δ Γ t t') : SndS X Δ Γ (.Assign [t] e pos) (.asg t' e') := by
  intro τ σ H F g D hQ
  rw [ex] at hQ
  refine wpS_of (ps_asg (pe0 e) (pg0 t) hs hw h1) ?_
  refine he.bind' g hQ fun o τ1 v H1 F1 p1 r1 hQ => ?_
  have fin : ∀ {d τ2 F2}, CL.frz o τ1 = some (d, τ2) → Post Δ τ τ2 σ H F H1 F2 → Rep Δ F2 v d → wpG X t v σ H1 D.nx := fun {d τ2 F2} e1 p2 rv => by
    rw [e1] at hQ
    refine ht p2.ag rv ?_
    revert hQ
    simp only
    cases asgD Γ t' d τ2 with
    | ok u τ3 => exact fun hQ σ' H' F' p3 => hQ σ' H' F' (p2.s.trans p3)
    | exc x τ1 => exact fun hQ => hQ
    | no => exact fun hQ => hQ
  cases e1 : CL.frz o τ1 with
  | none => rw [e1] at hQ; exact hQ.elim
  | some q =>
    obtain ⟨d, τ2⟩ := q
    rcases p1.frz1 g r1 e1 with ⟨rfl, _, rv, p2⟩ | ⟨a, u, rfl, _, _, _, rv, p2⟩
    · exact fin e1 p2 rv
    · exact fin e1 p2 rv
/-- x, y = a, b with plain local names -/
theorem st_par2 {i j : Nat} {x y : Str} {a b : Expr} {px py pt : Pos} {kt k2 pt2} {es' : List E} (hc : X.calm = true) (hN : X.N.Nodup) (hi : X.N[i]? = some x) (hj : X.N[j]? = some y) (hij : i ≠ j)
    (hx : X.env.scope.names.lookup x = some .local) (hy : X.env.scope.names.lookup y = some .local)
    (hw : swappedStores [.Tuple [.Name x px, .Name y py] kt pt] (.Tuple [a, b] k2 pt2) X.env = pure (some [x, y]))
    (hs : swapsWithSole [.Tuple [.Name x px, .Name y py] kt pt] (.Tuple [a, b] k2 pt2) pos.line X.env = pure false) (h : SndA X Δ Γ [a, b] es') :
    SndS X Δ Γ (.Assign [.Tuple [.Name x px, .Name y py] kt pt] (.Tuple [a, b] k2 pt2) pos) (.par [i, j] es') := by
  intro τ σ H F g D hQ
  rw [ex] at hQ
  refine wpS_of (ps_par hc hN hi hj hij hx hy (pa0 _) hw hs) ?_
  refine h.bind' g hQ fun os τ1 vs H1 F1 ee p1 r1 hQ => ?_
  cases e1 : CL.takes os τ1 with
  | none => rw [e1] at hQ; exact hQ.elim
  | some q =>
    obtain ⟨xs, τ2⟩ := q
    rw [e1] at hQ
    obtain ⟨p2, rs, nd, _, _⟩ := Post.takes g p1 r1 e1
    match vs, xs, rs with
    | [], [], _ => exact hQ.elim
    | [_], [_], _ =>
      simp only [stores] at hQ
      split at hQ <;> exact hQ.elim
    | v :: w :: _ :: _, x :: y :: _ :: _, _ =>
      simp only [stores] at hQ
      split at hQ
      · split at hQ <;> exact hQ.elim
      · exact hQ.elim
    | [v, w], [x, y], .cons rv (.cons rw' .nil) =>
      refine ⟨v, w, rfl, ?_⟩
      simp only [stores] at hQ
      cases hb : decide (i < τ2.length) && (i != 0 || !x.ownB) with
      | false => rw [hb] at hQ; exact hQ.elim
      | true =>
        rw [hb, if_pos rfl] at hQ
        cases hb2 : decide (j < (put τ2 i (some x)).length) && (j != 0 || !y.ownB) with
        | false => rw [hb2] at hQ; exact hQ.elim
        | true =>
          rw [hb2, if_pos rfl] at hQ
          simp only [Bool.and_eq_true, Bool.or_eq_true, decide_eq_true_eq, bne_iff_ne, ne_eq, Bool.not_eq_true'] at hb hb2
          obtain ⟨p3, w3⟩ := p2.s.store rv hb.1 (hb.2.imp id notOwn_iff.mp)
          have rw2 : RetOk Δ τ σ H (put τ2 i (some x)) (σ.set i (some v)) H1 F1 w y := by
            by_cases hy : y.isOwn
            · obtain ⟨b, rfl, h1, h2, h3, h4⟩ := rw'.own hy
              refine .of_own h1 h2 (fun z => ?_) h4
              rcases w3 b z with z | ⟨hx, rfl⟩
              · exact h3 z
              · rw [ownsC_cons hx, ownsC_cons hy] at nd
                exact (List.nodup_cons.mp nd).1 List.mem_cons_self
            · cases y <;> first | exact absurd trivial hy | exact rw'
          exact hQ _ H1 F1 (p3.store rw2 hb2.1 (hb2.2.imp id notOwn_iff.mp)).1

/-! ### simple ones -/
theorem st_expr (hs : swapsWith e none pos.line X.env = pure false) (he : SndE X Δ Γ e e') : SndS X Δ Γ (.Expr e pos) (.expr e') := by
  intro τ σ H F g D hQ
  rw [ex] at hQ
  refine wpS_of (ps_expr (pe0 e) hs) ?_
  exact he.bind' g hQ fun o τ1 v H1 F1 p1 r1 hQ => hQ _ H1 F1 p1.s
theorem st_ret (he : SndE X Δ Γ e e') : SndS X Δ Γ (.Return (some e) pos) (.ret e') := by
  intro τ σ H F g D hQ
  rw [ex] at hQ
  refine wpS_of (ps_ret (pe0 e)) ?_
  refine he.bind' g hQ fun o τ1 v H1 F1 p1 r1 hQ => ?_
  cases e1 : CL.take o τ1 with
  | none => rw [e1] at hQ; exact hQ.elim
  | some q =>
    obtain ⟨x, τ2⟩ := q
    rw [e1] at hQ
    obtain ⟨p2, ro, _, _⟩ := p1.take g r1 e1
    exact hQ σ H1 F1 p2.s v ro
theorem st_retN : SndS X Δ Γ (.Return none pos) .retN := by
  intro τ σ H F g D hQ
  rw [ex] at hQ
  exact wpS_of ps_retN (hQ σ H F (.refl g) .non .non)
theorem st_pass : SndS X Δ Γ (.Pass pos) .pass := by
  intro τ σ H F g D hQ
  rw [ex] at hQ
  exact wpS_of ps_pass (hQ σ H F (.refl g))
theorem st_brk : SndS X Δ Γ (.Break pos) .brk := by
  intro τ σ H F g D hQ
  rw [ex] at hQ
  exact wpS_of ps_break (hQ σ H F (.refl g))
theorem st_cont : SndS X Δ Γ (.Continue pos) .cont := by
  intro τ σ H F g D hQ
  rw [ex] at hQ
  exact wpS_of ps_continue (hQ σ H F (.refl g))
/-- never reached -/
theorem st_never {st : Stmt} {c : Nat} {es : List E} : SndS X Δ Γ st (.raise c es) := by
  intro τ σ H F g D hQ
  rw [ex] at hQ
  exact hQ.elim
theorem st_doc {x j pos pos'} : SndS X Δ Γ (.Expr (.Constant (.str x) j pos) pos') .pass := by
  intro τ σ H F g D hQ
  rw [ex] at hQ
  exact wpS_of ps_doc (hQ σ H F (.refl g))
theorem ss_nil : SndSs X Δ Γ [] [] := by
  intro τ σ H F g D hQ
  rw [exs] at hQ
  exact wpSs_of pss_nil (hQ σ H F (.refl g))
theorem ss_cons {st : Stmt} {sts : List Stmt} {s' : S} {ss' : List S} (h1 : SndS X Δ Γ st s') (h2 : SndSs X Δ Γ sts ss') : SndSs X Δ Γ (st :: sts) (s' :: ss') := by
  intro τ σ H F g D hQ
  rw [exs] at hQ
  refine wpSs_of (pss_cons (ps0 st) (pss0 sts)) ?_
  refine h1 g (D := { D with nx := fun σ H => wpSs X sts D σ H }) ?_
  revert hQ
  cases ex Γ s' τ with
  | exc x τ1 => exact fun hQ => hQ
  | no => exact fun hQ => hQ
  | ok f τ1 =>
    intro hQ σ1 H1 F1 p
    cases f with
    | next => exact h2 p.ag (GS.later p hQ)
    | brk => exact hQ σ1 H1 F1 p
    | cont => exact hQ σ1 H1 F1 p
    | ret x => exact hQ σ1 H1 F1 p
theorem st_ife {t : Expr} {a b : List Stmt} {t' : E} {a' b' : List S} (ht : SndT X Δ Γ t t') (ha : SndSs X Δ Γ a a') (hb : SndSs X Δ Γ b b') : SndS X Δ Γ (.If t a b pos) (.ife t' a' b') := by
  intro τ σ H F g D hQ
  rw [ex] at hQ
  refine wpS_of (ps_if (pt0 t) (pss0 a) (pss0 b)) ?_
  refine ht.bind GS.shift g hQ fun k τ1 H1 F1 p1 hQ => ?_
  cases k with
  | true => exact ha p1.ag hQ
  | false => exact hb p1.ag hQ
theorem st_while {t : Expr} {b : List Stmt} {t' : E} {b' : List S} (hp : PassesOwn (model X.prog X.w) X.A X.env X.xe) (ht : SndT X Δ Γ t t') (hb : SndSs X Δ Γ b b') : SndS X Δ Γ (.While t b [] pos) (.while_ t' b') := by
  intro τ σ H F g D hQ
  rw [ex] at hQ
  refine wpS_of (ps_while hp (pt0 t) (pss0 b)) ?_
  refine ⟨fun m σ H => ∃ τ F, Ag Δ τ σ H F ∧ PostG X Δ (GS Δ D) τ σ H F (whGo (evc Γ (some t')) (exs Γ b') m τ), ⟨_, τ, F, g, hQ⟩, ?_⟩
  rintro m σ H ⟨τ, F, g, hQ⟩
  cases m with
  | zero => rw [whGo] at hQ; exact hQ.elim
  | succ m =>
    rw [whGo] at hQ
    refine ht.bind GS.shift g hQ fun k τ1 H1 F1 p1 hQ => ?_
    cases k with
    | false =>
      rw [if_neg Bool.false_ne_true]
      exact hQ σ H1 F1 (.refl p1.ag)
    | true =>
      rw [if_pos rfl]
      refine ⟨fun σ H => ∃ τ F, Ag Δ τ σ H F ∧ PostG X Δ (GS Δ D) τ σ H F (whGo (evc Γ (some t')) (exs Γ b') m τ), fun σ' H' w => ⟨m, Nat.lt_succ_self m, w⟩, ?_⟩
      refine hb p1.ag ?_
      revert hQ
      simp only
      cases exs Γ b' τ1 with
      | exc x τ1 => exact fun hQ => hQ
      | no => exact fun hQ => hQ
      | ok f τ2 =>
        intro hQ σ2 H2 F2 p
        cases f with
        | next => exact ⟨τ2, F2, p.ag, GS.later p hQ⟩
        | cont => exact ⟨τ2, F2, p.ag, GS.later p hQ⟩
        | brk => exact hQ σ2 H2 F2 p
        | ret x => exact hQ σ2 H2 F2 p
theorem Post.still {τ0 : CL.St} {σ : L2.St} {H₀ F₀ H : Hp} (g0 : Ag Δ τ0 σ H₀ F₀) : ∀ {ns : List Nat} {τ : CL.St} {F : Hp}, Post Δ τ0 τ σ H₀ F₀ H F → ∃ F', Post Δ τ0 (still τ ns) σ H₀ F₀ H F' ∧ Ext F F'
  | [], τ, F, p => ⟨F, p, Ext.refl F⟩
  | i :: ns, τ, F, p => by
    rw [CL.still]
    cases e : get τ i with
    | none =>
      have : Post Δ τ0 (put τ i none) σ H₀ F₀ H F := p.fewer (put_length _ _ _) fun j y ej => by
        rcases get_put_eq ej with ⟨_, z⟩ | ⟨_, z⟩
        · cases z
        · exact z
      exact Post.still g0 this
    | some x =>
      obtain ⟨v, hv, r⟩ := p.ag.at_ i x e
      have ef : CL.frz (.loc i) τ = some (x.toD, put τ i (some (.val x.toD))) := by rw [CL.frz, e]
      rcases p.frz1 g0 (v := v) (o := .loc i) hv ef with ⟨_, _, _, p2⟩ | ⟨a, u, _, _, hF, _, _, p2⟩
      · exact Post.still g0 p2
      · obtain ⟨F', p3, ex⟩ := Post.still g0 p2
        exact ⟨F', p3, (Ext.new hF).trans ex⟩
theorem still_get : ∀ {ns : List Nat} {τ : CL.St} {j : Nat} {y : C}, get (still τ ns) j = some y → y.isOwn → j ∉ ns ∧ get τ j = some y
  | [], τ, j, y, e, o => ⟨by simp, e⟩
  | i :: ns, τ, j, y, e, o => by
    rw [CL.still] at e
    obtain ⟨h1, h2⟩ := still_get e o
    rcases get_put_eq h2 with ⟨rfl, z⟩ | ⟨ne, z⟩
    · cases q : get τ j with
      | none => rw [q] at z; cases z
      | some x => rw [q] at z; cases z; exact o.elim
    · exact ⟨by simp [ne, h1], z⟩
theorem st_for {tg iter : Expr} {b : List Stmt} {t' it' : E} {b' : List S} (hp : PassesOwn (model X.prog X.w) X.A X.env X.xe) (hc : X.calm = true) (hi : SndI X Δ Γ tg iter it') (hg : PG X tg (gT Δ.K t')) (hb : SndSs X Δ Γ b b') (hs : ∀ x, foldedSetIterable iter X.env x = pure x) :
    SndS X Δ Γ (.For tg iter b [] pos) (.for_ t' it' b') := by
  intro τ σ H F g D hQ
  rw [ex] at hQ
  refine wpS_of (ps_for hp hc (pi0 tg iter) hg (pss0 b) hs) ?_
  refine hi.bind g hQ fun a τ1 J H1 F1 p1 w hQ => ?_
  obtain ⟨ds, locs⟩ := a
  simp only at hQ w
  obtain ⟨F2, p2, ex12⟩ := Post.still (ns := locs) g p1
  obtain ⟨G, hG, w⟩ := w
  have hQ2 : PostG X Δ (GS Δ D) (still τ1 locs) σ H1 F2 (forGo t' (exs Γ b') ds (still τ1 locs)) := GS.later p2.s hQ
  refine for_it w (fun i σ' H' => ∃ τ' F', PostS Δ (still τ1 locs) τ' σ σ' H1 F2 H' F' ∧ PostG X Δ (GS Δ D) τ' σ' H' F' (forGo t' (exs Γ b') (ds.drop i) τ'))
    ⟨still τ1 locs, F2, .refl p2.ag, by rw [List.drop_zero]; exact hQ2⟩ (fun i σ' H' hi ⟨τ', F', p, _⟩ => ?_) (fun i x σ' H' H'' hi ⟨τ', F', p, hq⟩ hy => ?_) (fun σ' H' ⟨τ', F', p, hq⟩ => ?_)
  · refine hG H' F' (ex12.trans p.ext) p.ag.sub fun a o ha nw => p.keep a o ha fun z => nw ?_
    obtain ⟨j, y, ej, oj, sj⟩ := z
    obtain ⟨n1, e1⟩ := still_get ej oj
    exact ⟨j, y, get_hide e1 n1, oj, sj⟩
  · obtain ⟨d, F'', hd, m⟩ := hy F' (ex12.trans p.ext) p.ag.sub
    have hiL : i < ds.length := hi
    rw [List.drop_eq_getElem_cons hiL, forGo] at hq
    rw [List.getElem?_eq_getElem hiL] at hd
    cases hd
    have pm := m.post (τ := τ') (σ := σ') p.ag
    cases eb : bindT t' ds[i] τ' with
    | none => rw [eb] at hq; exact hq.elim
    | some τb =>
      rw [eb] at hq
      refine bind_ok t' pm.1.ag (pm.2 []) eb fun σb gb bd => ?_
      have pb := pm.1.s.trans (Post.s_bound pm.1.ag gb bd)
      refine hb gb ?_
      have hq := GS.later pb hq
      simp only at hq
      revert hq
      cases exs Γ b' τb with
      | exc x τ1 => exact fun hQ => hQ
      | no => exact fun hQ => hQ
      | ok f τc =>
        intro hq σc Hc Fc pc
        cases f with
        | next => exact ⟨τc, Fc, (p.trans pb).trans pc, GS.later pc hq⟩
        | cont => exact ⟨τc, Fc, (p.trans pb).trans pc, GS.later pc hq⟩
        | brk => exact hq σc Hc Fc pc
        | ret x => exact hq σc Hc Fc pc
  · rw [List.drop_eq_nil_of_le (Nat.le_refl _), forGo] at hq
    exact hq σ' H' F' (.refl p.ag)
end
end CL

set_option autoImplicit false
set_option linter.all false
set_option Elab.async false
set_option maxRecDepth 100000
set_option maxHeartbeats 1000000
/-! CLDw: walks over dicts that names hold. -/
namespace CL
open PySem PySem.Spec PyProof.Rows L2
section
variable {Δ : Nm} {τ τ' : CL.St} {σ σ' : L2.St} {H F H' F' : Hp} {d : Addr} {u : HO} {od : Obj}
theorem keys_at : ∀ {ks : List (Key × V)} {kvs : List (D × D)}, RepKs Δ F ks kvs → ∀ {i : Nat} {k : Key} {v : V}, ks[i]? = some (k, v) → (kvs.map (·.1))[i]? = some (keyD k)
  | _, _, .nil, i, k, v, e => by simp at e
  | _, _, .cons h r, 0, k, v, e => by simp at e; obtain ⟨rfl, rfl⟩ := e; rfl
  | _, _, .cons h r, i + 1, k, v, e => by
    rw [List.map_cons, List.getElem?_cons_succ]
    exact keys_at r (i := i) (by simpa using e)
theorem keysT_at : ∀ {ks : List (List Key × V)} {kvs : List (D × D)}, RepTs Δ F ks kvs → ∀ {i : Nat} {k : List Key} {v : V}, ks[i]? = some (k, v) → (kvs.map (·.1))[i]? = some (keyT k)
  | _, _, .nil, i, k, v, e => by simp at e
  | _, _, .cons h r, 0, k, v, e => by simp at e; obtain ⟨rfl, rfl⟩ := e; rfl
  | _, _, .cons h r, i + 1, k, v, e => by
    rw [List.map_cons, List.getElem?_cons_succ]
    exact keysT_at r (i := i) (by simpa using e)
theorem rep_key (k : Key) : Rep Δ F (kV k) (keyD k) := by
  cases k with
  | inl i => exact .int i
  | inr s => exact .str s
theorem reps_key : ∀ ks : List Key, Reps Δ F (ks.map kV) (ks.map keyD)
  | [] => .nil
  | k :: ks => .cons (rep_key k) (reps_key ks)
theorem walk_dk {ks : List (Key × V)} {kvs : List (D × D)} {o : Obj} (r : RepKs Δ F ks kvs) (hd : H d = some (.frz o (.dK ks))) (nw : ¬ Wr τ σ d) : WalkD Δ (Itk d o ks) σ τ H F (kvs.map (·.1)) := by
  refine ⟨fun H => H d = some (.frz o (.dK ks)), fun H' F' _ _ k => k d _ hd nw, ?_⟩
  have w := walk_keys (d := d) (o := o) (kvs := ks)
  rw [r.length] at w
  rw [List.length_map]
  refine ⟨w.goes, w.stops, fun i H x H' hi hG y F1 ex sub => ?_⟩
  obtain ⟨rfl, k, v, e, rfl⟩ := w.yields i H x H' hi hG y
  exact ⟨keyD k, F1, keys_at r e, .old (rep_key k)⟩
theorem walk_dt {ks : List (List Key × V)} {kvs : List (D × D)} {o : Obj} (r : RepTs Δ F ks kvs) (hd : H d = some (.frz o (.dT ks))) (nw : ¬ Wr τ σ d) : WalkD Δ (Itkt d o ks) σ τ H F (kvs.map (·.1)) := by
  refine ⟨fun H => H d = some (.frz o (.dT ks)), fun H' F' _ _ k => k d _ hd nw, ?_⟩
  have w := walk_keysT (d := d) (o := o) (kvs := ks)
  rw [r.length] at w
  rw [List.length_map]
  refine ⟨w.goes, w.stops, fun i H x H' hi hG y F1 ex sub => ?_⟩
  obtain ⟨rfl, k, v, q, e, rfl, hq⟩ := w.yields i H x H' hi hG y
  cases hF : F1 q with
  | none => exact ⟨keyT k, _, keysT_at r e, .ftup hq hF (reps_key k)⟩
  | some z =>
    have : z = .tup (k.map kV) := by
      rcases sub q z hF with h | ⟨h, ob, h2⟩
      · rw [hq] at h; cases h; rfl
      · rw [hq] at h2; cases h2
    subst this
    exact ⟨keyT k, F1, keysT_at r e, .old (.tup hF (reps_key k))⟩
/-! locks -/
theorem Ag.lock (g : Ag Δ τ σ H F) (hF : F d = some u) (hd : isDk u) : Ag Δ τ σ (upd H d (.frz od u)) F := by
  refine ⟨fun a o e => ?_, g.len, fun i x e => ?_, g.apart⟩
  · by_cases ha : a = d
    · subst ha
      rw [hF] at e; cases e
      exact .inr ⟨hd, od, upd_same⟩
    · rw [upd_ne ha]; exact g.sub a o e
  · obtain ⟨v, hv, r⟩ := g.at_ i x e
    refine ⟨v, hv, ?_⟩
    by_cases ho : x.isOwn
    · obtain ⟨a, rfl, hFa, oa⟩ := r.own ho
      have ne : a ≠ d := fun z => by rw [z, hF] at hFa; cases hFa
      exact .of_own hFa (oa.mono (Ext.refl F) fun o h => by rw [upd_ne ne]; exact h)
    · cases x <;> first | exact absurd trivial ho | exact r
theorem Ag.unlock (g : Ag Δ τ σ H F) (hF : F d = some u) : Ag Δ τ σ (upd H d u) F := by
  refine ⟨fun a o e => ?_, g.len, fun i x e => ?_, g.apart⟩
  · by_cases ha : a = d
    · subst ha
      rw [hF] at e; cases e
      exact .inl upd_same
    · rw [upd_ne ha]; exact g.sub a o e
  · obtain ⟨v, hv, r⟩ := g.at_ i x e
    refine ⟨v, hv, ?_⟩
    by_cases ho : x.isOwn
    · obtain ⟨a, rfl, hFa, oa⟩ := r.own ho
      have ne : a ≠ d := fun z => by rw [z, hF] at hFa; cases hFa
      exact .of_own hFa (oa.mono (Ext.refl F) fun o h => by rw [upd_ne ne]; exact h)
    · cases x <;> first | exact absurd trivial ho | exact r
theorem Ag.still_not (g : Ag Δ τ σ H F) (hF : F d = some u) : ¬ Wr τ σ d := fun w => by
  have := (g.wr w).1
  rw [hF] at this; cases this
theorem PostS.unlock (g : Ag Δ τ σ H F) (p : PostS Δ τ τ' σ σ' (upd H d (.frz od u)) F H' F') (hF : F d = some u) (hH : H d = some u) : PostS Δ τ τ' σ σ' H F (upd H' d u) F' := by
  have hF' := p.ext d u hF
  refine ⟨p.ag.unlock hF', p.ext, fun a o h nw => ?_, fun a o h n => ?_, fun a w => ?_, fun a o h => ?_, p.zero⟩
  · by_cases ha : a = d
    · subst ha
      rw [hH] at h; cases h
      exact upd_same
    · rw [upd_ne ha]
      exact p.keep a o (by rw [upd_ne ha]; exact h) nw
  · refine (p.froz a o h n).imp id fun w o' h' => ?_
    have ha : a ≠ d := fun z => by rw [z, hF] at n; cases n
    exact w o' (by rw [upd_ne ha]; exact h')
  · refine (p.mon a w).imp id fun z => ?_
    have ha : a ≠ d := fun e => by rw [e, upd_same] at z; cases z
    rw [upd_ne ha] at z
    exact z
  · by_cases ha : a = d
    · exact ⟨u, by rw [ha]; exact upd_same⟩
    · obtain ⟨t, ht⟩ := p.dom a o (by rw [upd_ne ha]; exact h)
      exact ⟨t, by rw [upd_ne ha]; exact ht⟩
abbrev lockD (D : Ends) (d : Addr) (od : Obj) (u : HO) : Ends := ⟨fun σ' H' => H' d = some (.frz od u) ∧ D.nx σ' (upd H' d u), fun v H' => H' d = some (.frz od u) ∧ D.rt v (upd H' d u), fun σ' H' => H' d = some (.frz od u) ∧ D.bk σ' (upd H' d u), fun σ' H' => H' d = some (.frz od u) ∧ D.ct σ' (upd H' d u)⟩
theorem GS.lock {X : Cx} {D : Ends} (g : Ag Δ τ σ H F) (hF : F d = some u) (hH : H d = some u) (hd : isDk u) {r : Res CL.Flow} (h : PostG X Δ (GS Δ D) τ σ H F r) : PostG X Δ (GS Δ (lockD D d od u)) τ σ (upd H d (.frz od u)) F r := by
  cases r with
  | exc x τ' => exact h
  | no => exact h
  | ok f τ' =>
    intro σ' H' F' p
    have hk : H' d = some (.frz od u) := p.keep d _ upd_same (g.still_not hF)
    have h2 := h σ' _ F' (p.unlock g hF hH)
    cases f with
    | next => exact ⟨hk, h2⟩
    | brk => exact ⟨hk, h2⟩
    | cont => exact ⟨hk, h2⟩
    | ret x =>
      intro v r
      refine ⟨hk, h2 v ?_⟩
      by_cases ho : x.isOwn
      · obtain ⟨a, rfl, h1, oa, h3, h4⟩ := r.own ho
        have ne : a ≠ d := fun z => by rw [z, p.ext d u hF] at h1; cases h1
        refine .of_own h1 (oa.mono (Ext.refl _) fun o h => by rw [upd_ne ne]; exact h) h3 (h4.imp id fun z => ?_)
        rw [upd_ne ne] at z
        exact z
      · cases x <;> first | exact absurd trivial ho | exact r
end
section
variable {X : Cx} {Δ : Nm} {Γ : Ctx} {pos pos' : Pos} {b : List Stmt} {b' : List S} {t' : E}
theorem for_core (hb : SndSs X Δ Γ b b') {τ : CL.St} {σ : L2.St} {H F : Hp} {J : It} {ds : List D} {D : Ends} (g : Ag Δ τ σ H F) (w : WalkD Δ J σ τ H F ds) (hQ : PostG X Δ (GS Δ D) τ σ H F (forGo t' (exs Γ b') ds τ)) :
    ∃ W : Nat → Nat → L2.St → Hp → Prop, (∃ m, W 0 m σ H) ∧ ∀ i m σ H, W i m σ H →
      (J.stop i H ∧ D.nx σ H) ∨ (J.go i H ∧ ∃ N : L2.St → Hp → Prop, (∀ σ' H', N σ' H' → ∃ m', m' < m ∧ W (i + 1) m' σ' H') ∧ ∀ x H', J.yld i H x H' → gT Δ.K t' x σ H' fun σ2 H2 => wpSs X b { D with nx := N, ct := N, bk := D.nx } σ2 H2) := by
  obtain ⟨G, hG, w⟩ := w
  refine for_it w (fun i σ' H' => ∃ τ' F', PostS Δ τ τ' σ σ' H F H' F' ∧ PostG X Δ (GS Δ D) τ' σ' H' F' (forGo t' (exs Γ b') (ds.drop i) τ'))
    ⟨τ, F, .refl g, by rw [List.drop_zero]; exact hQ⟩ (fun i σ' H' hi ⟨τ', F', p, _⟩ => ?_) (fun i x σ' H' H'' hi ⟨τ', F', p, hq⟩ hy => ?_) (fun σ' H' ⟨τ', F', p, hq⟩ => ?_)
  · exact hG H' F' p.ext p.ag.sub fun a o ha nw => p.keep a o ha nw
  · obtain ⟨d, F'', hd, m⟩ := hy F' p.ext p.ag.sub
    have hiL : i < ds.length := hi
    rw [List.drop_eq_getElem_cons hiL, forGo] at hq
    rw [List.getElem?_eq_getElem hiL] at hd
    cases hd
    have pm := m.post (τ := τ') (σ := σ') p.ag
    cases eb : bindT t' ds[i] τ' with
    | none => rw [eb] at hq; exact hq.elim
    | some τb =>
      rw [eb] at hq
      refine bind_ok t' pm.1.ag (pm.2 []) eb fun σb gb bd => ?_
      have pb := pm.1.s.trans (Post.s_bound pm.1.ag gb bd)
      refine hb gb ?_
      have hq := GS.later pb hq
      simp only at hq
      revert hq
      cases exs Γ b' τb with
      | exc x τ1 => exact fun hQ => hQ
      | no => exact fun hQ => hQ
      | ok f τc =>
        intro hq σc Hc Fc pc
        cases f with
        | next => exact ⟨τc, Fc, (p.trans pb).trans pc, GS.later pc hq⟩
        | cont => exact ⟨τc, Fc, (p.trans pb).trans pc, GS.later pc hq⟩
        | brk => exact hq σc Hc Fc pc
        | ret x => exact hq σc Hc Fc pc
  · rw [List.drop_eq_nil_of_le (Nat.le_refl _), forGo] at hq
    exact hq σ' H' F' (.refl p.ag)
theorem still_one {τ : CL.St} {i : Nat} {z : C} (e : get τ i = some z) : get (still τ [i]) i = some (.val z.toD) := by
  rw [CL.still, CL.still, e, get_put (get_lt e)]
  rfl
/-- for t in d, a name that holds a dict -/
theorem st_forD {tg : Expr} {x : Str} {i : Nat} (hp : PassesOwn (model X.prog X.w) X.A X.env X.xe) (hc : X.calm = true) (hg : PG X tg (gT Δ.K t')) (hb : SndSs X Δ Γ b b')
    (hN : X.N[i]? = some x := by rfl) (hv : Vis X.env.scope x := by first | exact Or.inl rfl | exact Or.inr (Or.inl rfl) | exact Or.inr (Or.inr rfl)) (hd : (x == ("__debug__" : Str)) = false := by decide)
    (hcd : (x == ("__classdict__" : Str)) = false := by decide) (hs : ∀ y, foldedSetIterable (.Name x pos') X.env y = pure y := by intro _; rfl) :
    SndS X Δ Γ (.For tg (.Name x pos') b [] pos) (.for_ t' (.itd i) b') := by
  intro τ σ H F g D hQ
  rw [ex, evI] at hQ
  cases e0 : get τ i with
  | none => rw [e0] at hQ; exact hQ.elim
  | some z =>
    rw [e0] at hQ
    simp only at hQ
    cases e1 : z.toD with
    | dct t kvs =>
      rw [e1] at hQ
      have hQ : PostG X Δ (GS Δ D) τ σ H F (forGo t' (exs Γ b') (kvs.map (·.1)) (still (still τ [i]) [])) := hQ
      rw [show still (still τ [i]) [] = still τ [i] from rfl] at hQ
      obtain ⟨F2, p2, ex12⟩ := Post.still (ns := [i]) g (Post.refl g)
      have hQ2 := GS.later p2.s hQ
      have eg := still_one e0
      rw [e1] at eg
      obtain ⟨v, hv', rv⟩ := p2.ag.at_ i _ eg
      cases rv with
      | @dk a ks _ hF r =>
        rcases p2.ag.sub a _ hF with hH | ⟨_, ob, hH⟩
        · exact wpS_of (ps_lock (ps_for hp hc (pi_keys (pe_var hN hv hd hcd)) hg (pss0 b) hs)) ⟨a, _, hH, trivial, fun od => ⟨_, hv', a, od, rfl, .inl ⟨ks, upd_same, for_core hb (p2.ag.lock hF trivial) (walk_dk r upd_same (p2.ag.still_not hF)) (GS.lock p2.ag hF hH trivial hQ2)⟩⟩⟩
        · exact wpS_of (ps_for hp hc (pi_keys (pe_var hN hv hd hcd)) hg (pss0 b) hs) ⟨_, hv', a, ob, rfl, .inl ⟨ks, hH, for_core hb p2.ag (walk_dk r hH (p2.ag.still_not hF)) hQ2⟩⟩
      | @dt a ks _ hF r =>
        rcases p2.ag.sub a _ hF with hH | ⟨_, ob, hH⟩
        · exact wpS_of (ps_lock (ps_for hp hc (pi_keys (pe_var hN hv hd hcd)) hg (pss0 b) hs)) ⟨a, _, hH, trivial, fun od => ⟨_, hv', a, od, rfl, .inr ⟨ks, upd_same, for_core hb (p2.ag.lock hF trivial) (walk_dt r upd_same (p2.ag.still_not hF)) (GS.lock p2.ag hF hH trivial hQ2)⟩⟩⟩
        · exact wpS_of (ps_for hp hc (pi_keys (pe_var hN hv hd hcd)) hg (pss0 b) hs) ⟨_, hv', a, ob, rfl, .inr ⟨ks, hH, for_core hb p2.ag (walk_dt r hH (p2.ag.still_not hF)) hQ2⟩⟩
    | _ => rw [e1] at hQ; exact hQ.elim
theorem Post.unlock {τ τ' : CL.St} {σ : L2.St} {H F H' F' : Hp} {d : Addr} {u : HO} {od : Obj} (p : Post Δ τ τ' σ (upd H d (.frz od u)) F H' F') (hF : F d = some u) (hH : H d = some u) : Post Δ τ τ' σ H F (upd H' d u) F' := by
  have hF' := p.ext d u hF
  refine ⟨p.ag.unlock hF', p.ext, fun a o h nw => ?_, fun a o h n => ?_, p.mon, fun a o h => ?_⟩
  · by_cases ha : a = d
    · subst ha
      rw [hH] at h; cases h
      exact upd_same
    · rw [upd_ne ha]
      exact p.keep a o (by rw [upd_ne ha]; exact h) nw
  · refine (p.froz a o h n).imp id fun w o' h' => ?_
    have ha : a ≠ d := fun z => by rw [z, hF] at n; cases n
    exact w o' (by rw [upd_ne ha]; exact h')
  · by_cases ha : a = d
    · exact ⟨u, by rw [ha]; exact upd_same⟩
    · obtain ⟨t, ht⟩ := p.dom a o (by rw [upd_ne ha]; exact h)
      exact ⟨t, by rw [upd_ne ha]; exact ht⟩
theorem GE.lock {τ : CL.St} {σ : L2.St} {H F : Hp} {d : Addr} {u : HO} {od : Obj} {Q : VK} (g : Ag Δ τ σ H F) (hF : F d = some u) (hH : H d = some u) {r : Res Opd} (h : PostG X Δ (GE Δ Q) τ σ H F r) : PostG X Δ (GE Δ fun v H' => H' d = some (.frz od u) ∧ Q v (upd H' d u)) τ σ (upd H d (.frz od u)) F r := by
  cases r with
  | exc x τ' => exact h
  | no => exact h
  | ok o τ' =>
    intro v H' F' p r
    have hk : H' d = some (.frz od u) := p.keep d _ upd_same (g.still_not hF)
    refine ⟨hk, h v _ F' (p.unlock hF hH) ?_⟩
    cases o with
    | loc i => exact r
    | c x =>
      by_cases ho : x.isOwn
      · obtain ⟨a, rfl, h0, h1, oa⟩ := r.own ho
        have ne : a ≠ d := fun z => by rw [z, p.ext d u hF] at h1; cases h1
        refine .of_own ?_ h1 (oa.mono (Ext.refl _) fun o h => by rw [upd_ne ne]; exact h)
        rw [upd_ne ne] at h0
        exact h0
      · cases x <;> first | exact absurd trivial ho | exact r
/-- [.. for t in d], a name that holds a dict -/
theorem s_lcD {elt tg : Expr} {ifs : List Expr} {scope : Scope} {own : List (Str × Nat)} {elt' tgt' : E} {ifs' : Option E} {x : Str} {i : Nat} (hc : X.calm = true) (hN' : X.N.Nodup) (ok : BlkOk X.N X.env.scope scope own) (hown : ∀ j, j ∈ own.map (·.2) → j ∈ tnames tgt') (hown2 : ∀ j, j ∈ tnames tgt' → j ∈ own.map (·.2))
    (hg : Blk X scope fun X => PG X tg (gT Δ.K tgt')) (ht : Blk X scope fun X => SndTs X Δ Γ ifs ifs') (he : Blk X scope fun X => SndE X Δ Γ elt elt')
    (hN : X.N[i]? = some x := by rfl) (hv : Vis X.env.scope x := by first | exact Or.inl rfl | exact Or.inr (Or.inl rfl) | exact Or.inr (Or.inr rfl)) (hd : (x == ("__debug__" : Str)) = false := by decide)
    (hcd : (x == ("__classdict__" : Str)) = false := by decide) (hs : ∀ y, foldedSetIterable (.Name x pos') X.env y = pure y := by intro _; rfl) :
    SndE X Δ Γ (.ListComp elt [⟨tg, .Name x pos', ifs, 0⟩] scope pos) (.lc elt' tgt' (.itd i) ifs') := by
  intro τ σ H F g Q hQ
  have tt : Blk X scope fun Y => PTs Y ifs (bT X scope ifs) := fun s H C cl fp => ⟨fun pins s' σ' H' Q I h => h s H C cl fp pins s' I⟩
  have te : Blk X scope fun Y => PE Y elt (bE X scope elt) := fun s H C cl fp => ⟨fun pins s' σ' H' Q I h => h s H C cl fp pins s' I⟩
  rw [ev, evI] at hQ
  cases e0 : get τ i with
  | none => rw [e0] at hQ; exact hQ.elim
  | some z =>
    rw [e0] at hQ
    simp only at hQ
    cases e1 : z.toD with
    | dct t kvs =>
      rw [e1] at hQ
      obtain ⟨F2, p2, ex12⟩ := Post.still (ns := [i]) g (Post.refl g)
      have hQ2 := PostG.shift GE.shift p2 hQ
      have eg := still_one e0
      rw [e1] at eg
      obtain ⟨v, hv', rv⟩ := p2.ag.at_ i _ eg
      cases rv with
      | @dk a ks _ hF r =>
        rcases p2.ag.sub a _ hF with hH | ⟨_, ob, hH⟩
        · exact wpE_of (pe_lock (pe_lc hc hN' (pi_keys (pe_var hN hv hd hcd)) ok hg tt te hs)) ⟨a, _, hH, trivial, fun od => ⟨_, hv', a, od, rfl, .inl ⟨ks, upd_same, lc_okJ (locs := []) hown hown2 ht he (p2.ag.lock hF trivial) (.refl (p2.ag.lock hF trivial)) (walk_dk r upd_same (p2.ag.still_not hF)) (GE.lock p2.ag hF hH hQ2)⟩⟩⟩
        · exact wpE_of (pe_lc hc hN' (pi_keys (pe_var hN hv hd hcd)) ok hg tt te hs) ⟨_, hv', a, ob, rfl, .inl ⟨ks, hH, lc_okJ (locs := []) hown hown2 ht he p2.ag (.refl p2.ag) (walk_dk r hH (p2.ag.still_not hF)) hQ2⟩⟩
      | @dt a ks _ hF r =>
        rcases p2.ag.sub a _ hF with hH | ⟨_, ob, hH⟩
        · exact wpE_of (pe_lock (pe_lc hc hN' (pi_keys (pe_var hN hv hd hcd)) ok hg tt te hs)) ⟨a, _, hH, trivial, fun od => ⟨_, hv', a, od, rfl, .inr ⟨ks, upd_same, lc_okJ (locs := []) hown hown2 ht he (p2.ag.lock hF trivial) (.refl (p2.ag.lock hF trivial)) (walk_dt r upd_same (p2.ag.still_not hF)) (GE.lock p2.ag hF hH hQ2)⟩⟩⟩
        · exact wpE_of (pe_lc hc hN' (pi_keys (pe_var hN hv hd hcd)) ok hg tt te hs) ⟨_, hv', a, ob, rfl, .inr ⟨ks, hH, lc_okJ (locs := []) hown hown2 ht he p2.ag (.refl p2.ag) (walk_dt r hH (p2.ag.still_not hF)) hQ2⟩⟩
    | _ => rw [e1] at hQ; exact hQ.elim
end
end CL

set_option autoImplicit false
set_option linter.all false
set_option Elab.async false
set_option maxRecDepth 100000
set_option maxHeartbeats 1000000
/-! CLSt3: three names at once. -/
namespace CL
open PySem PySem.Spec PyProof.Rows L2
def setAll : L2.St → List Nat → List V → L2.St
  | σ, i :: is, v :: vs => setAll (σ.set i (some v)) is vs
  | σ, _, _ => σ
theorem mem_owns {b : Addr} : ∀ {vs : List V} {xs : List C}, V.ref b ∈ ownsC vs xs → True := fun _ => trivial
section
variable {Δ : Nm} {τ : CL.St} {σ : L2.St} {H F H1 F1 : Hp}
/-- what is handed on stays so behind a store of another -/
theorem RetOk.past {τ2 τ3 : CL.St} {σ2 σ3 : L2.St} {v w : V} {x y : C} (w3 : ∀ b, Wr τ3 σ3 b → Wr τ2 σ2 b ∨ (x.isOwn ∧ v = .ref b)) (hn : x.isOwn → y.isOwn → w ≠ v) (r : RetOk Δ τ σ H τ2 σ2 H1 F1 w y) : RetOk Δ τ σ H τ3 σ3 H1 F1 w y := by
  by_cases hy : y.isOwn
  · obtain ⟨b, rfl, h1, h2, h3, h4⟩ := r.own hy
    refine .of_own h1 h2 (fun z => ?_) h4
    rcases w3 b z with z | ⟨hx, rfl⟩
    · exact h3 z
    · exact hn hx hy rfl
  · cases y <;> first | exact absurd trivial hy | exact r
theorem stores_ok : ∀ (is : List Nat) {vs : List V} {xs : List C} {τ2 τ3 : CL.St} {σ2 : L2.St}, PostS Δ τ τ2 σ σ2 H F H1 F1 → Paired (RetOk Δ τ σ H τ2 σ2 H1 F1) vs xs → (ownsC vs xs).Nodup → stores is xs τ2 = .ok () τ3 → PostS Δ τ τ3 σ (setAll σ2 is vs) H F H1 F1
  | [], vs, xs, τ2, τ3, σ2, p, rs, nd, e => by
    cases xs with
    | nil => rw [stores] at e; cases e; cases rs; exact p
    | cons x xs => simp [stores] at e
  | i :: is, _, _, τ2, τ3, σ2, p, .nil, nd, e => by simp [stores] at e
  | i :: is, _, _, τ2, τ3, σ2, p, .cons (a := v) (b := x) r rs, nd, e => by
    rw [stores] at e
    cases hb : decide (i < τ2.length) && (i != 0 || !x.ownB) with
    | false => rw [hb] at e; cases e
    | true =>
      rw [hb, if_pos rfl] at e
      simp only [Bool.and_eq_true, Bool.or_eq_true, decide_eq_true_eq, bne_iff_ne, ne_eq, Bool.not_eq_true'] at hb
      obtain ⟨p3, w3⟩ := p.store r hb.1 (hb.2.imp id notOwn_iff.mp)
      have key : ∀ {vs : List V} {xs : List C}, Paired (RetOk Δ τ σ H τ2 σ2 H1 F1) vs xs → (x.isOwn → v ∉ ownsC vs xs) → Paired (RetOk Δ τ σ H (put τ2 i (some x)) (σ2.set i (some v)) H1 F1) vs xs := by
        intro vs xs rs
        induction rs with
        | nil => intro _; exact .nil
        | @cons w y ws ys rw' t ih =>
          intro hn
          refine .cons (rw'.past w3 fun hx hy z => hn hx (by rw [ownsC_cons hy, z]; exact List.mem_cons_self)) (ih fun hx m => hn hx ?_)
          by_cases hy : y.isOwn
          · rw [ownsC_cons hy]; exact List.mem_cons_of_mem _ m
          · rw [ownsC_val hy]; exact m
      by_cases hx : x.isOwn
      · rw [ownsC_cons hx] at nd
        exact stores_ok is p3 (key rs fun _ => (List.nodup_cons.mp nd).1) (List.nodup_cons.mp nd).2 e
      · rw [ownsC_val hx] at nd
        exact stores_ok is p3 (key rs fun h => absurd h hx) nd e
theorem stores_len : ∀ (is : List Nat) {xs : List C} {τ2 τ3 : CL.St}, stores is xs τ2 = .ok () τ3 → xs.length = is.length
  | [], [], _, _, _ => rfl
  | [], _ :: _, _, _, e => by simp [stores] at e
  | _ :: _, [], _, _, e => by simp [stores] at e
  | i :: is, x :: xs, τ2, τ3, e => by
    rw [stores] at e
    split at e
    · rw [List.length_cons, List.length_cons, stores_len is e]
    · cases e
end
section
variable {Δ : Nm} {τ τ2 : CL.St} {σ : L2.St} {H F H1 F1 : Hp} {p : Addr} {o : HO}
/-- a thing laid that nobody holds -/
theorem Post.lay (q : Post Δ τ τ2 σ H F H1 F1) (hp : H1 p = none) : Post Δ τ τ2 σ H F (upd H1 p o) F1 :=
  q.trans ⟨q.ag.laid hp, Ext.refl F1, fun a u e _ => by rw [upd_ne (ne_of_none e hp)]; exact e, fun a u e n => (by rw [n] at e; cases e), fun i y e o => ⟨y, e, o⟩, fun a u e => ⟨u, by rw [upd_ne (ne_of_none e hp)]; exact e⟩⟩
theorem RetOk.lay {v : V} {x : C} (hp : H1 p = none) (r : RetOk Δ τ σ H τ2 σ H1 F1 v x) : RetOk Δ τ σ H τ2 σ (upd H1 p o) F1 v x := by
  by_cases ho : x.isOwn
  · obtain ⟨a, rfl, h1, h2, h3, h4⟩ := r.own ho
    exact .of_own h1 (h2.mono (Ext.refl F1) fun u e => by rw [upd_ne (ne_of_none e hp)]; exact e) h3 h4
  · cases x <;> first | exact absurd trivial ho | exact r
theorem RetOk.lays (hp : H1 p = none) : ∀ {vs : List V} {xs : List C}, Paired (RetOk Δ τ σ H τ2 σ H1 F1) vs xs → Paired (RetOk Δ τ σ H τ2 σ (upd H1 p o) F1) vs xs
  | _, _, .nil => .nil
  | _, _, .cons r t => .cons (r.lay hp) (RetOk.lays hp t)
end
section
variable {X : Cx} {Δ : Nm} {Γ : Ctx}
/-- x, y, z = a, b, c where some of the names are cells: by way of a tuple that nobody keeps -/
theorem st_parC3 {i j l : Nat} {x y z : Str} {a b c : Expr} {px py pz pt pos pt2 : Pos} {kt k2 : Nat} {es' : List E} (hc : X.calm = true) (hN : X.N.Nodup) (hi : X.N[i]? = some x) (hj : X.N[j]? = some y) (hl : X.N[l]? = some z)
    (hx : Loc X.env.scope x) (hx2 : X.fn x = true ∨ X.env.scope.names.lookup x = some .local) (hy : Loc X.env.scope y) (hy2 : X.fn y = true ∨ X.env.scope.names.lookup y = some .local) (hz : Loc X.env.scope z) (hz2 : X.fn z = true ∨ X.env.scope.names.lookup z = some .local)
    (hs : swapsWithSole [.Tuple [.Name x px, .Name y py, .Name z pz] kt pt] (.Tuple [a, b, c] k2 pt2) pos.line X.env = pure false)
    (hw : swappedStores [.Tuple [.Name x px, .Name y py, .Name z pz] kt pt] (.Tuple [a, b, c] k2 pt2) X.env = pure none)
    (h1 : (assignEach [.Tuple [.Name x px, .Name y py, .Name z pz] kt pt] X.env).map (·.2) = [assign (.Tuple [.Name x px, .Name y py, .Name z pz] kt pt) X.env])
    (hn : (assignEach [.Name x px, .Name y py, .Name z pz] X.env).length = 3) (hst : (assignEach [.Name x px, .Name y py, .Name z pz] X.env).findIdx? (·.1) = none)
    (g1 : (assignEach (.Name x px :: [.Name y py, .Name z pz]) X.env).map (·.2) = assign (.Name x px) X.env :: (assignEach [.Name y py, .Name z pz] X.env).map (·.2))
    (g2 : (assignEach (.Name y py :: [.Name z pz]) X.env).map (·.2) = assign (.Name y py) X.env :: (assignEach [.Name z pz] X.env).map (·.2))
    (g3 : (assignEach (.Name z pz :: []) X.env).map (·.2) = assign (.Name z pz) X.env :: (assignEach [] X.env).map (·.2))
    (h : SndA X Δ Γ [a, b, c] es') :
    SndS X Δ Γ (.Assign [.Tuple [.Name x px, .Name y py, .Name z pz] kt pt] (.Tuple [a, b, c] k2 pt2) pos) (.par [i, j, l] es') := by
  intro τ σ H F g D hQ
  rw [ex] at hQ
  refine wpS_of (ps_asg (pe_tup (pa0 _)) (pg_tup hc (pgs_cons (pg_name hN hi hx hx2) (pgs_cons (pg_name hN hj hy hy2) (pgs_cons (pg_name hN hl hz hz2) pgs_nil g3) g2) g1) hn hst) hs hw h1) ?_
  refine h.bind' g hQ fun os τ1 vs H1 F1 ee p1 r1 hQ => ?_
  cases e1 : CL.takes os τ1 with
  | none => rw [e1] at hQ; exact hQ.elim
  | some q =>
    obtain ⟨xs, τ2⟩ := q
    rw [e1] at hQ
    obtain ⟨p2, rs, nd, _, _⟩ := Post.takes g p1 r1 e1
    cases e2 : stores [i, j, l] xs τ2 with
    | no => simp only [e2, Res.bind] at hQ; exact hQ.elim
    | exc d τ3 => simp only [e2, Res.bind] at hQ; exact hQ.elim
    | ok u τ3 =>
      simp only [e2, Res.bind] at hQ
      have hlen := stores_len _ e2
      have hlv : vs.length = 3 := by rw [Paired.length rs, hlen]; rfl
      refine ⟨size_small (by rw [hlv]; exact Nat.le_of_ble_eq_true rfl), fun p hp => ⟨p, vs, rfl, .inl (.inl upd_same), hlv, ?_⟩⟩
      have p3 := stores_ok [i, j, l] (p2.lay (o := .tup vs) hp).s (RetOk.lays hp rs) nd e2
      match vs, hlv with
      | [u, v, w], _ => exact ⟨u, [v, w], rfl, v, [w], rfl, w, [], rfl, rfl, hQ _ _ F1 p3⟩
theorem st_par3 {i j l : Nat} {x y z : Str} {a b c : Expr} {px py pz pt pos : Pos} {kt k2 pt2} {es' : List E} (hc : X.calm = true) (hN : X.N.Nodup) (hi : X.N[i]? = some x) (hj : X.N[j]? = some y) (hl : X.N[l]? = some z) (hij : i ≠ j) (hil : i ≠ l) (hjl : j ≠ l)
    (hx : X.env.scope.names.lookup x = some .local) (hy : X.env.scope.names.lookup y = some .local) (hz : X.env.scope.names.lookup z = some .local)
    (hw : swappedStores [.Tuple [.Name x px, .Name y py, .Name z pz] kt pt] (.Tuple [a, b, c] k2 pt2) X.env = pure (some [x, y, z]))
    (hs : swapsWithSole [.Tuple [.Name x px, .Name y py, .Name z pz] kt pt] (.Tuple [a, b, c] k2 pt2) pos.line X.env = pure false) (h : SndA X Δ Γ [a, b, c] es') :
    SndS X Δ Γ (.Assign [.Tuple [.Name x px, .Name y py, .Name z pz] kt pt] (.Tuple [a, b, c] k2 pt2) pos) (.par [i, j, l] es') := by
  intro τ σ H F g D hQ
  rw [ex] at hQ
  refine wpS_of (ps_par3 hc hN hi hj hl hij hil hjl hx hy hz (pa0 _) hw hs) ?_
  refine h.bind' g hQ fun os τ1 vs H1 F1 ee p1 r1 hQ => ?_
  cases e1 : CL.takes os τ1 with
  | none => rw [e1] at hQ; exact hQ.elim
  | some q =>
    obtain ⟨xs, τ2⟩ := q
    rw [e1] at hQ
    obtain ⟨p2, rs, nd, _, _⟩ := Post.takes g p1 r1 e1
    cases e2 : stores [i, j, l] xs τ2 with
    | no => simp only [e2, Res.bind] at hQ; exact hQ.elim
    | exc d τ3 => simp only [e2, Res.bind] at hQ; exact hQ.elim
    | ok u τ3 =>
      simp only [e2, Res.bind] at hQ
      have hlen := stores_len _ e2
      have hlv : vs.length = 3 := by rw [Paired.length rs, hlen]; rfl
      have p3 := stores_ok [i, j, l] p2.s rs nd e2
      match vs, hlv with
      | [u, v, w], _ => exact ⟨u, v, w, rfl, hQ _ H1 F1 p3⟩
end
end CL

set_option autoImplicit false
set_option linter.all false
set_option Elab.async false
set_option maxRecDepth 100000
set_option maxHeartbeats 1000000
/-! CLMe: methods of lists, o[i] = v, o.f = v, +=, whole defs. -/
namespace CL
open PySem PySem.Spec PyProof.Rows L2

theorem Inv.lstW {X : Cx} {pins : List (Addr × Obj)} {σ : L2.St} {H : Hp} {s : Shared} {l b : Addr} {xs zs : List V} {v u : Value} {Q : VK} (I : L2.Inv X pins σ H s) (hH : H l = some (.lst xs)) (hB : Rd H b (.lst zs)) (hz : xs.length + zs.length ≤ sizeLine) (q : Q .non (upd H l (.lst (xs ++ zs)))) :
    wpAny (model X.prog X.w) X.A (call (.builtin "list.extend") [.ref l, .ref b]) (EP X pins σ Q) X.xe s := by
  obtain ⟨z, its, n, r, hl, e⟩ := I.lstM hH
  obtain ⟨z2, its2, n2, r2, hl2, e2⟩ := Inv.rdl I hB
  have hsz : its.toArray.size + its2.toArray.size ≤ sizeLine := by rw [List.size_toArray, List.size_toArray]; omega
  have hlong : ¬ (!its.toArray.isEmpty && Builtin.List.listTooLong (its.toArray.size + its2.toArray.size)) = true := by
    rw [notLongL hsz, Bool.and_false]
    exact Bool.false_ne_true
  refine call_meets F.slot_list_extend ⟨_, e, rfl⟩ F.entry_list_extend (F.args_list_extend_2 _ _)
    (AutoSeq1.list_extend_list_list_0 l its.toArray n b its2.toArray n2 hlong (by rw [List.size_toArray]; omega) (by omega)) ⟨e, e2, ?_⟩
  refine ⟨.non, _, I.lset (its' := its ++ its2) hH e (by simp) (r.append r2) ?_, rfl, q⟩
  rw [List.length_append]
  exact hz
/-- xs.extend(ys), ys to be read -/
def rExtendR : V → List V → Hp → VK → Prop := fun x vs H Q => ∃ l b xs zs, x = .ref l ∧ vs = [.ref b] ∧ H l = some (.lst xs) ∧ Rd H b (.lst zs) ∧ xs.length + zs.length ≤ sizeLine ∧ Q .non (upd H l (.lst (xs ++ zs)))
theorem mt_extendR {X : Cx} : MtR X "list.extend" rExtendR := by
  intro pins s σ H x vs v us Q I rx rv h
  obtain ⟨l, b, xs, zs, rfl, rfl, hH, hB, hz, q⟩ := h
  cases rx
  obtain ⟨u, rfl, ru⟩ := L2.Vals.one rv
  cases ru
  exact Inv.lstW (v := .none) (u := .none) I hH hB hz q
section
variable {X : Cx} {Δ : Nm} {Γ : Ctx} {pos cpos apos : Pos} {o a : Expr} {o' a' : E}
theorem View.tyL {F H : Hp} (sub : Sub F H) {v : V} {ds : List D} {K : PySem.W.Frag} (h : View Δ F H v (.lst ds)) : tyV K "list" v H := by
  obtain ⟨b, xs, rfl, h1, _⟩ := h.lst sub
  exact .inl ⟨rfl, xs, .inl h1⟩
/-- o.m(a), o a list, m one that asks for a list -/
theorem me_core {m : Me} (hm : ∀ d, meTy m d = true → ∃ ds, d = .lst ds) (ho : SndE X Δ Γ o o') (ha : SndE X Δ Γ a a') {τ : CL.St} {σ : L2.St} {H F : Hp} (g : Ag Δ τ σ H F) {Q : VK} {r : V → List V → Hp → VK → Prop} (hQ : PostG X Δ (GE Δ Q) τ σ H F (ev Γ (.me m o' [a']) τ))
    (k : ∀ x y τ1 τ2 v u H1 F1 H2 F2, Ag Δ τ1 σ H1 F1 → Post Δ τ1 τ2 σ H1 F1 H2 F2 → OpRel Δ τ2 σ H H2 F2 v x → OpRel Δ τ2 σ H1 H2 F2 u y → PostG X Δ (GE Δ Q) τ1 σ H1 F1 (me1 m x [y] τ2) → r v [u] H2 Q) :
    tBM X.K "list" r (wpE X o) (tCons (wpE X a) tNil) σ H Q := by
  rw [ev] at hQ
  refine ho.bind GE.shift g hQ fun x τ1 v H1 F1 p1 r1 hQ => ?_
  cases e1 : vw x τ1 with
  | none => rw [e1] at hQ; exact hQ.elim
  | some d =>
    rw [e1] at hQ
    cases e2 : meTy m d with
    | false => simp only [e2] at hQ; exact hQ.elim
    | true =>
      simp only [e2] at hQ
      obtain ⟨ds, rfl⟩ := hm d e2
      refine ⟨(r1.view p1.ag e1).tyL p1.ag.sub, ?_⟩
      rw [if_pos trivial, evs, Res.bind_bind] at hQ
      refine ha.bind' p1.ag hQ fun y τ2 u H2 F2 p2 r2 hq => ?_
      rw [evs] at hq
      exact k x y τ1 τ2 v u H1 F1 H2 F2 p1.ag p2 (r1.step g p1 p2) r2 hq
theorem me_core0 {m : Me} (hm : ∀ d, meTy m d = true → ∃ ds, d = .lst ds) (ho : SndE X Δ Γ o o') {τ : CL.St} {σ : L2.St} {H F : Hp} (g : Ag Δ τ σ H F) {Q : VK} {r : V → List V → Hp → VK → Prop} (hQ : PostG X Δ (GE Δ Q) τ σ H F (ev Γ (.me m o' []) τ))
    (k : ∀ x τ1 v H1 F1, Ag Δ τ1 σ H1 F1 → OpRel Δ τ1 σ H H1 F1 v x → PostG X Δ (GE Δ Q) τ1 σ H1 F1 (me1 m x [] τ1) → r v [] H1 Q) :
    tBM0 X.K "list" r (wpE X o) σ H Q := by
  rw [ev] at hQ
  refine ho.bind GE.shift g hQ fun x τ1 v H1 F1 p1 r1 hQ => ?_
  cases e1 : vw x τ1 with
  | none => rw [e1] at hQ; exact hQ.elim
  | some d =>
    rw [e1] at hQ
    cases e2 : meTy m d with
    | false => simp only [e2] at hQ; exact hQ.elim
    | true =>
      simp only [e2] at hQ
      obtain ⟨ds, rfl⟩ := hm d e2
      refine ⟨(r1.view p1.ag e1).tyL p1.ag.sub, ?_⟩
      rw [if_pos trivial, evs] at hQ
      exact k x τ1 v H1 F1 p1.ag r1 hQ
/-- an own list of a name -/
theorem own_list {τ : CL.St} {σ : L2.St} {H F : Hp} {i : Nat} {ds : List D} {v : V} (g : Ag Δ τ σ H F) (e : get τ i = some (.ol ds)) (r : σ[i]? = some (some v)) : ∃ a vs, v = .ref a ∧ H a = some (.lst vs) ∧ Reps Δ F vs ds ∧ F a = none := by
  obtain ⟨w, hw, rw'⟩ := g.at_ i _ e
  rw [r] at hw; cases hw
  obtain ⟨a, rfl, hF, vs, h1, h2⟩ := rw'
  exact ⟨a, vs, rfl, h1, h2, hF⟩
variable (hbase : attributeBase o "append" X.env (eval o X.env) = eval o X.env)
theorem s_append (hbase : attributeBase o "append" X.env (eval o X.env) = eval o X.env)
    (hfew : ((backTo cpos (starEach [a] X.env)).all (fun x => !x.1) && (backToKw cpos (keywordEach [] X.env)).all (fun x => x.1.isSome) && decide (([a] : List Expr).length + ([] : List Keyword).length + (if ([] : List Keyword).isEmpty then 0 else 1) < 30)) = true)
    (hline : (apos.endLine == cpos.line) = true) (hs : starEach [a] X.env = (false, eval a X.env) :: starEach [] X.env) (ho : SndE X Δ Γ o o') (ha : SndE X Δ Γ a a') :
    SndE X Δ Γ (.Call (.Attribute o "append" apos) [a] [] cpos) (.me .append o' [a']) := by
  intro τ σ H F g Q hQ
  refine wpE_of (pe_bm PySem.F.plainAttrs_list PySem.F.slot_list_append PySem.F.type_list_append mt_append (pe0 o) (pa_cons (pe0 a) pa_nil hs) hbase hfew hline hs rfl) ?_
  refine me_core (fun d h => by cases d <;> first | (simp [meTy] at h; done) | exact ⟨_, rfl⟩) ho ha g hQ fun x y τ1 τ2 v u H1 F1 H2 F2 g1 p2 rx ry hq => ?_
  simp only [me1] at hq
  cases x with
  | c x => exact hq.elim
  | loc i =>
    simp only at hq
    have fin : ∀ {d τ3 F3}, CL.frz y τ2 = some (d, τ3) → Post Δ τ1 τ3 σ H1 F1 H2 F3 → Rep Δ F3 u d → rAppend v [u] H2 Q := fun {d τ3 F3} e1 p3 rv => by
      rw [e1] at hq
      simp only at hq
      cases e2 : get τ3 i with
      | none => rw [e2] at hq; exact hq.elim
      | some z =>
        rw [e2] at hq
        cases z with
        | ol ds =>
          simp only at hq
          obtain ⟨b, vs, rfl, h1, h2, hF⟩ := own_list p3.ag e2 rx
          have hl := h2.length
          by_cases hlt : ds.length < lim
          · rw [if_pos hlt] at hq
            refine ⟨b, vs, u, rfl, rfl, h1, ?_, ?_⟩
            · have : sizeLine = 16777216 := sizeLine_eq
              have : lim = 1000000 := rfl
              omega
            · have p4 := Post.write (x' := .ol (ds ++ [d])) (o := .lst (vs ++ [u])) p3.ag e2 trivial rx ⟨_, upd_same, h2.append (.cons rv .nil)⟩
              exact hq _ _ _ (p3.trans p4) .non
          · rw [if_neg hlt] at hq; exact hq.elim
        | _ => exact hq.elim
    cases e1 : CL.frz y τ2 with
    | none => rw [e1] at hq; exact hq.elim
    | some q =>
      obtain ⟨d, τ3⟩ := q
      rcases p2.frz1 g1 ry e1 with ⟨rfl, _, rv, p3⟩ | ⟨a, u, rfl, _, _, _, rv, p3⟩
      · exact fin e1 p3 rv
      · exact fin e1 p3 rv
theorem s_extend (hbase : attributeBase o "extend" X.env (eval o X.env) = eval o X.env)
    (hfew : ((backTo cpos (starEach [a] X.env)).all (fun x => !x.1) && (backToKw cpos (keywordEach [] X.env)).all (fun x => x.1.isSome) && decide (([a] : List Expr).length + ([] : List Keyword).length + (if ([] : List Keyword).isEmpty then 0 else 1) < 30)) = true)
    (hline : (apos.endLine == cpos.line) = true) (hs : starEach [a] X.env = (false, eval a X.env) :: starEach [] X.env) (ho : SndE X Δ Γ o o') (ha : SndE X Δ Γ a a') :
    SndE X Δ Γ (.Call (.Attribute o "extend" apos) [a] [] cpos) (.me .extend o' [a']) := by
  intro τ σ H F g Q hQ
  refine wpE_of (pe_bm PySem.F.plainAttrs_list PySem.F.slot_list_extend PySem.F.type_list_extend mt_extendR (pe0 o) (pa_cons (pe0 a) pa_nil hs) hbase hfew hline hs rfl) ?_
  refine me_core (fun d h => by cases d <;> first | (simp [meTy] at h; done) | exact ⟨_, rfl⟩) ho ha g hQ fun x y τ1 τ2 v u H1 F1 H2 F2 g1 p2 rx ry hq => ?_
  simp only [me1] at hq
  cases x with
  | c x => exact hq.elim
  | loc i =>
    simp only at hq
    cases e1 : vw y τ2 with
    | none => rw [e1] at hq; exact hq.elim
    | some d =>
      rw [e1] at hq
      cases d with
      | lst es =>
        simp only at hq
        cases e2 : get τ2 i with
        | none => rw [e2] at hq; exact hq.elim
        | some z =>
          rw [e2] at hq
          cases z with
          | ol ds =>
            simp only at hq
            obtain ⟨b, vs, rfl, h1, h2, hF⟩ := own_list p2.ag e2 rx
            obtain ⟨b2, ws, rfl, k1, k2⟩ := (ry.view p2.ag e1).lst p2.ag.sub
            have hl := h2.length
            have hl2 := k2.length
            by_cases hlt : ds.length + es.length ≤ lim
            · rw [if_pos hlt] at hq
              refine ⟨b, b2, vs, ws, rfl, rfl, h1, k1, limS (by omega), ?_⟩
              have p4 := Post.write (x' := .ol (ds ++ es)) (o := .lst (vs ++ ws)) p2.ag e2 trivial rx ⟨_, upd_same, h2.append k2⟩
              exact hq _ _ _ (p2.trans p4) .non
            · rw [if_neg hlt] at hq; exact hq.elim
          | _ => exact hq.elim
      | _ => exact hq.elim
theorem s_pop0 (hbase : attributeBase o "pop" X.env (eval o X.env) = eval o X.env) (hline : (apos.endLine == cpos.line) = true) (ho : SndE X Δ Γ o o') :
    SndE X Δ Γ (.Call (.Attribute o "pop" apos) [] [] cpos) (.me .pop0 o' []) := by
  intro τ σ H F g Q hQ
  refine wpE_of (pe_bm0 PySem.F.plainAttrs_list PySem.F.slot_list_pop PySem.F.type_list_pop mt_pop (pe0 o) hbase hline) ?_
  refine me_core0 (fun d h => by cases d <;> first | (simp [meTy] at h; done) | exact ⟨_, rfl⟩) ho g hQ fun x τ1 v H1 F1 g1 rx hq => ?_
  simp only [me1] at hq
  cases x with
  | c x => exact hq.elim
  | loc i =>
    simp only at hq
    cases e2 : get τ1 i with
    | none => rw [e2] at hq; exact hq.elim
    | some z =>
      rw [e2] at hq
      cases z with
      | ol ds =>
        simp only at hq
        obtain ⟨b, vs, rfl, h1, h2, hF⟩ := own_list g1 e2 rx
        cases e3 : ds.getLast? with
        | none => rw [e3] at hq; exact hq.elim
        | some d =>
          rw [e3] at hq
          have hl := h2.length
          rw [List.getLast?_eq_getElem?] at e3
          obtain ⟨w, q1, q2⟩ := h2.get e3
          refine ⟨b, vs, w, rfl, rfl, h1, by rw [hl]; exact q1, ?_⟩
          have p4 := Post.write (x' := .ol ds.dropLast) (o := .lst vs.dropLast) g1 e2 trivial rx ⟨_, upd_same, h2.dropLast⟩
          exact hq w _ _ p4 q2
      | _ => exact hq.elim
theorem s_pop1 (hbase : attributeBase o "pop" X.env (eval o X.env) = eval o X.env)
    (hfew : ((backTo cpos (starEach [a] X.env)).all (fun x => !x.1) && (backToKw cpos (keywordEach [] X.env)).all (fun x => x.1.isSome) && decide (([a] : List Expr).length + ([] : List Keyword).length + (if ([] : List Keyword).isEmpty then 0 else 1) < 30)) = true)
    (hline : (apos.endLine == cpos.line) = true) (hs : starEach [a] X.env = (false, eval a X.env) :: starEach [] X.env) (ho : SndE X Δ Γ o o') (ha : SndE X Δ Γ a a') :
    SndE X Δ Γ (.Call (.Attribute o "pop" apos) [a] [] cpos) (.me .pop1 o' [a']) := by
  intro τ σ H F g Q hQ
  refine wpE_of (pe_bm PySem.F.plainAttrs_list PySem.F.slot_list_pop PySem.F.type_list_pop mt_popAt (pe0 o) (pa_cons (pe0 a) pa_nil hs) hbase hfew hline hs rfl) ?_
  refine me_core (fun d h => by cases d <;> first | (simp [meTy] at h; done) | exact ⟨_, rfl⟩) ho ha g hQ fun x y τ1 τ2 v u H1 F1 H2 F2 g1 p2 rx ry hq => ?_
  simp only [me1] at hq
  cases x with
  | c x => exact hq.elim
  | loc i =>
    simp only at hq
    cases e1 : vw y τ2 with
    | none => rw [e1] at hq; exact hq.elim
    | some d =>
      rw [e1] at hq
      cases d with
      | int k =>
        simp only at hq
        cases e2 : get τ2 i with
        | none => rw [e2] at hq; exact hq.elim
        | some z =>
          rw [e2] at hq
          cases z with
          | ol ds =>
            simp only at hq
            obtain ⟨b, vs, rfl, h1, h2, hF⟩ := own_list p2.ag e2 rx
            have hl := h2.length
            cases hb : big k with
            | false => rw [hb] at hq; exact hq.elim
            | true =>
            rw [hb, if_pos rfl] at hq
            have hb := big_ok hb
            cases e3 : CL.ixN ds.length k with
            | none => rw [e3] at hq; exact hq.elim
            | some j =>
              rw [e3] at hq
              simp only at hq
              cases e4 : ds[j]? with
              | none => rw [e4] at hq; exact hq.elim
              | some d =>
                rw [e4] at hq
                simp only at hq
                obtain ⟨w, q1, q2⟩ := h2.get e4
                obtain ⟨s1, s2, s3, s4⟩ := L2.ixN_seq (show L2.ixN ds.length k = some j from e3)
                have hu : u = .int k := (ry.view p2.ag e1).int
                subst hu
                refine ⟨b, vs, k, j, w, rfl, rfl, h1, by omega, by omega, by rw [hl]; exact s1, q1, ?_⟩
                have p4 := Post.write (x' := .ol (ds.eraseIdx j)) (o := .lst (vs.eraseIdx j)) p2.ag e2 trivial rx ⟨_, upd_same, h2.erase j⟩
                exact hq w _ _ (p2.trans p4) q2
          | _ => exact hq.elim
      | _ => exact hq.elim

/-! ### += -/
def rAug (op : Bop) : TIp := fun x y H Q => ∃ i j c, x = .int i ∧ y = .int j ∧ augD op (.int i) (.int j) = some (.val (.int c)) ∧ Q (.int c) H
theorem ip_aug (op : Bop) : PIp X (opOf op) (rAug op) := by
  intro pins s σ H x y v u Q I rx ry h
  obtain ⟨i, j, c, rfl, rfl, hc, q⟩ := h
  unfold augD at hc
  split at hc
  · rename_i h1 h2
    cases hc; cases h1; cases h2
    exact iop_add pins s σ H _ _ v u Q I rx ry ⟨_, _, rfl, rfl, q⟩
  · rename_i h1 h2
    cases hc; cases h1; cases h2
    exact iop_sub pins s σ H _ _ v u Q I rx ry ⟨_, _, rfl, rfl, q⟩
  · rename_i h1 h2
    obtain ⟨hl, hc⟩ := some_if hc
    cases hc; cases h1; cases h2
    refine iop_mul pins s σ H _ _ v u Q I rx ry ⟨_, _, rfl, rfl, ?_, q⟩
    simp only [mulOk, Bool.or_eq_true, Bool.and_eq_true, decide_eq_true_eq] at hl
    exact hl
  · cases hc
theorem augD_ints {op : Bop} {x y : D} {c : C} (h : augD op x y = some c) : ∃ i j k, x = .int i ∧ y = .int j ∧ c = .val (.int k) := by
  unfold augD at h
  split at h
  · cases h; exact ⟨_, _, _, rfl, rfl, rfl⟩
  · cases h; exact ⟨_, _, _, rfl, rfl, rfl⟩
  · obtain ⟨_, h⟩ := some_if h
    cases h; exact ⟨_, _, _, rfl, rfl, rfl⟩
  · cases h
theorem st_aug {i : Nat} {x : Str} {op : Bop} {pos' : Pos} (hN : X.N.Nodup) (hi : X.N[i]? = some x) (hx : Loc X.env.scope x) (hf : X.fn x = true ∨ X.env.scope.names.lookup x = some .local) (ha : SndE X Δ Γ a a') :
    SndS X Δ Γ (.AugAssign (.Name x pos') (opOf op) a pos) (.aug i op a') := by
  intro τ σ H F g D hQ
  rw [ex] at hQ
  cases e0 : get τ i with
  | none => rw [e0] at hQ; exact hQ.elim
  | some z =>
    rw [e0] at hQ
    cases z with
    | val d =>
      simp only at hQ
      obtain ⟨v0, hv0, r0⟩ := g.at_ i _ e0
      have hlt := get_lt e0
      refine wpS_of (ps_aug hN hi hx (pe0 a) (ip_aug op) hf) ⟨v0, hv0, ?_⟩
      refine ha.bind' g hQ fun y τ1 u H1 F1 p1 r1 hQ => ?_
      cases e1 : vw y τ1 with
      | none => rw [e1] at hQ; exact hQ.elim
      | some k =>
        rw [e1] at hQ
        cases e2 : augD op d k with
        | none => simp only [e2] at hQ; exact hQ.elim
        | some c =>
          simp only [e2] at hQ
          obtain ⟨m, n, t, rfl, rfl, rfl⟩ := augD_ints e2
          cases r0
          have hu : u = .int n := (r1.view p1.ag e1).int
          subst hu
          refine ⟨m, n, t, rfl, rfl, e2, ?_⟩
          have hlt1 : i < τ1.length := by rw [p1.ag.len, ← g.len]; exact hlt
          have g2 := p1.ag.putVal (v := .int t) hlt1 (.int t)
          refine hQ _ H1 F1 (p1.s.trans (Post.s_bound (tn := [i]) p1.ag g2 ⟨fun j hj => ?_, fun j hj => ?_⟩))
          · have ne : j ≠ i := fun e => hj (by simp [e])
            exact ⟨get_put_ne ne, set_get ne⟩
          · have e : j = i := by simpa using hj
            subst e
            exact ⟨_, get_put hlt1⟩
    | _ => exact hQ.elim

/-! ### o[i] = v -/
def rSetA : V → V → V → Hp → (Hp → Prop) → Prop := fun o i v H Q => rSetL o i v H Q ∨ ∃ a H', o = .ref a ∧ DPut H a i v H' ∧ Q H'
theorem set_any (hu : X.A.units + 70 < cLine) : PSet X rSetA := by
  intro pins s σ H o i v ov iv u Q I ro ri rv h
  rcases h with h | ⟨a, H', rfl, g, q⟩
  · exact set_list pins s σ H o i v ov iv u Q I ro ri rv h
  · obtain rfl : ov = Value.ref a := ro
    exact d_setItem (by omega) I g ri rv fun s' I' => ⟨H', I', q⟩
/-- what a dict of one's own becomes -/
theorem put_own {τ : CL.St} {σ : L2.St} {H F : Hp} {i : Nat} {t : Bool} {kvs : List (D × D)} {v0 u v : V} {k d : D} (g : Ag Δ τ σ H F) (e : get τ i = some (.od t kvs)) (hv0 : σ[i]? = some (some v0)) (vk : View Δ F H u k) (rv : Rep Δ F v d)
    (hk : keyOk t k = true) (hl : kvs.length < lim) : ∃ a H', v0 = .ref a ∧ DPut H a u v H' ∧ Post Δ τ (put τ i (some (.od t (dput kvs k d)))) σ H F H' F := by
  obtain ⟨w, hw, rw'⟩ := g.at_ i _ e
  rw [hv0] at hw; cases hw
  obtain ⟨a, rfl, hF, oa⟩ := rw'
  cases t with
  | false =>
    obtain ⟨ks, hH, r⟩ := oa
    obtain ⟨κ, rfl, rfl⟩ := key_view vk hk
    exact ⟨a, _, rfl, .inl ⟨ks, κ, hH, rfl, by rw [r.length]; exact Nat.lt_of_lt_of_le hl (limS (Nat.le_refl _)), rfl⟩, Post.write g e trivial hv0 ⟨_, upd_same, r.put κ rv⟩⟩
  | true =>
    obtain ⟨ks, hH, r⟩ := oa
    obtain ⟨b, κ, rfl, hb, rfl⟩ := tkey_view g.sub vk hk
    exact ⟨a, _, rfl, .inr ⟨ks, κ, b, hH, rfl, hb, by rw [r.length]; exact Nat.lt_of_lt_of_le hl (limS (Nat.le_refl _)), rfl⟩, Post.write g e trivial hv0 ⟨_, upd_same, r.put κ rv⟩⟩
theorem g_sub {i : Nat} {x : Str} {p : Pos} (hu : X.A.units + 70 < cLine) (hN : X.N[i]? = some x) (hv : Vis X.env.scope x) (hd : (x == ("__debug__" : Str)) = false) (hcd : (x == ("__classdict__" : Str)) = false) (ha : SndE X Δ Γ a a')
    (hasg : ∀ v, assign (.Subscript (.Name x p) a pos) X.env v = (do
      let ov ← holding [v] (eval (.Name x p) X.env)
      let iv ← holding [v, ov] (eval a X.env)
      standAt pos
      holding [v, ov, iv] (setItem ov iv v)
      release [v, ov, iv] [])) : SndG X Δ Γ (.Subscript (.Name x p) a pos) (.sub (.name i) a') := by
  intro τ σ H F g v d rd Q hQ
  rw [asgD] at hQ
  cases e0 : get τ i with
  | none => rw [e0] at hQ; exact hQ.elim
  | some z =>
    rw [e0] at hQ
    simp only at hQ
    obtain ⟨v0, hv0, r0⟩ := g.at_ i _ e0
    refine wpG_of (pg_sub (pe_var hN hv hd hcd) (pe0 a) (set_any hu) hasg) ⟨v0, hv0, ?_⟩
    refine ha.bind' g hQ fun y τ1 u H1 F1 p1 r1 hQ => ?_
    cases e1 : vw y τ1 with
    | none => rw [e1] at hQ; exact hQ.elim
    | some k =>
      rw [e1] at hQ
      simp only [setAt] at hQ
      cases e2 : get τ1 i with
      | none => rw [e2] at hQ; exact hQ.elim
      | some z =>
        rw [e2] at hQ
        cases z with
        | ol ds =>
          obtain ⟨b, vs, rfl, h1, h2, hF⟩ := own_list p1.ag e2 hv0
          have hl := h2.length
          cases k with
          | int n =>
            simp only at hQ
            cases e3 : CL.ixN ds.length n with
            | none => rw [e3] at hQ; exact hQ.elim
            | some j =>
              rw [e3] at hQ
              refine .inl ⟨b, vs, n, j, rfl, (r1.view p1.ag e1).int, h1, by rw [hl]; exact e3, ?_⟩
              have p4 := Post.write (x' := .ol (ds.set j d)) (o := .lst (vs.set j v)) p1.ag e2 trivial hv0 ⟨_, upd_same, h2.set j (rd.mono p1.ext)⟩
              exact hQ _ _ _ (p1.trans p4).s
          | _ => exact hQ.elim
        | od t kvs =>
          simp only at hQ
          by_cases hk : (keyOk t k && decide (kvs.length < lim)) = true
          · rw [if_pos hk] at hQ
            rw [Bool.and_eq_true, decide_eq_true_eq] at hk
            obtain ⟨b, H', rfl, dp, p4⟩ := put_own p1.ag e2 hv0 (r1.view p1.ag e1) (rd.mono p1.ext) hk.1 hk.2
            exact .inr ⟨b, H', rfl, dp, hQ _ _ _ (p1.trans p4).s⟩
          · rw [if_neg hk] at hQ
            exact hQ.elim
        | _ => exact hQ.elim

/-! ### o.f = v -/
theorem fput_reps {F : Hp} (inj : ∀ i j, Δ.fld i = Δ.fld j → i = j) {f : Nat} {d : D} {v : V} (r : Rep Δ F v d) : ∀ {vs : List (Str × V)} {fs : List (Nat × D)}, RepFs Δ F vs fs → RepFs Δ F (putF (Δ.fld f) v vs) (fput fs f d) ∧ vs.length = fs.length
  | _, _, .nil => ⟨.cons r .nil, rfl⟩
  | _, _, .cons (f := k) (v := w) (vs := vs) q t => by
    obtain ⟨h1, h2⟩ := fput_reps inj (f := f) r t
    rw [fput]
    by_cases e : k = f
    · subst e
      rw [if_pos rfl]
      refine ⟨?_, by simp [h2]⟩
      rw [show putF (Δ.fld k) v ((Δ.fld k, w) :: vs) = (Δ.fld k, v) :: vs from by simp [putF]]
      exact .cons r t
    · rw [if_neg e]
      refine ⟨?_, by simp [h2]⟩
      have ne : ¬ Δ.fld k = Δ.fld f := fun z => e (inj _ _ z)
      rw [show putF (Δ.fld f) v ((Δ.fld k, w) :: vs) = (Δ.fld k, w) :: putF (Δ.fld f) v vs from by simp [putF, ne]]
      exact .cons q h1
theorem g_attr {i f : Nat} {x : Str} {p : Pos} (hK : X.K = Δ.K) (inj : ∀ i j, Δ.fld i = Δ.fld j → i = j) (hC : ∀ c, Cls X.K (Δ.cls c) ∧ NoAttr X.K (Δ.cls c) (Δ.fld f)) (hN : X.N[i]? = some x) (hv : Vis X.env.scope x) (hd : (x == ("__debug__" : Str)) = false) (hcd : (x == ("__classdict__" : Str)) = false) :
    SndG X Δ Γ (.Attribute (.Name x p) (Δ.fld f) pos) (.attr (.name i) f) := by
  intro τ σ H F g v d rd Q hQ
  rw [asgD] at hQ
  cases e0 : get τ i with
  | none => rw [e0] at hQ; exact hQ.elim
  | some z =>
    rw [e0] at hQ
    cases z with
    | oi c fs =>
      simp only at hQ
      by_cases hl : fs.length < 1000
      · rw [if_pos hl] at hQ
        obtain ⟨v0, hv0, r0⟩ := g.at_ i _ e0
        obtain ⟨b, rfl, hF, dx, vs, h1, h2⟩ := r0
        obtain ⟨h3, h4⟩ := fput_reps inj (f := f) rd h2
        intro pins s u I ru
        refine PySem.W.kas_attr (thn ((pe_var (pos := p) hN hv hd hcd).run pins s σ H (fun v H1 => v = .ref b ∧ H1 = H) I ⟨.ref b, hv0, rfl, rfl⟩) fun ov s1 ⟨w, H1, I1, r1, q1⟩ => ?_)
        obtain ⟨rfl, rfl⟩ := q1
        cases r1
        refine setattr_ok I1 h1 (hC c).1 (hC c).2 (by rw [h4]; exact hl) ru fun s2 I2 => ?_
        have p4 := Post.write (x' := .oi c (fput fs f d)) g e0 trivial hv0 ⟨dx, _, upd_same, h3⟩
        exact ⟨σ, _, I2, hQ _ _ _ p4.s⟩
      · rw [if_neg hl] at hQ; exact hQ.elim
    | _ => exact hQ.elim
end
end CL

set_option autoImplicit false
set_option linter.all false
set_option Elab.async false
set_option maxRecDepth 100000
set_option maxHeartbeats 1000000
/-! CLFn: whole defs. -/
namespace CL
open PySem PySem.Spec PyProof.Rows L2

theorem start_get : ∀ {xs : List C} {n i : Nat} {x : C}, get (CL.start n xs) i = some x → xs[i]? = some x := by
  have key : ∀ {xs : List C} {m i : Nat} {x : C}, get (xs.map some ++ List.replicate m none) i = some x → xs[i]? = some x := by
    intro xs
    induction xs with
    | nil =>
      intro m i x h
      have : ∀ {m i : Nat}, get (List.replicate m (none : Option C)) i = none := by
        intro m
        induction m with
        | zero => intro i; rfl
        | succ m ih =>
          intro i
          cases i with
          | zero => rfl
          | succ i => exact ih
      rw [List.map_nil, List.nil_append, this] at h
      cases h
    | cons y ys ih =>
      intro m i x h
      cases i with
      | zero => exact h
      | succ i => rw [List.getElem?_cons_succ]; exact ih h
  intro xs n i x h
  exact key h
theorem reps_args {Δ : Nm} {F : Hp} : ∀ {vs : List V} {ds : List D} {i : Nat} {x : C}, Reps Δ F vs ds → (ds.map C.val)[i]? = some x → ∃ v d, x = .val d ∧ vs[i]? = some v ∧ Rep Δ F v d
  | vs, ds, i, x, r, h => by
    rw [List.getElem?_map] at h
    cases e : ds[i]? with
    | none => rw [e] at h; cases h
    | some d =>
      rw [e] at h
      cases h
      obtain ⟨v, h1, h2⟩ := r.get e
      exact ⟨v, d, rfl, h1, h2⟩
section
variable {X : Cx} {Δ : Nm} {Γ : Ctx}
theorem start_ag {H G : Hp} {io : Bool} {vs : List V} {xs : List C} {N : List Str} (sub : Sub G H) (a : ArgsOk Δ H G io vs xs) (hn : vs.length ≤ N.length) :
    Ag Δ (CL.start N.length xs) (L2.start N vs) H G ∧ (∀ a, Wr (CL.start N.length xs) (L2.start N vs) a → isIo io vs a) ∧ xs.length = vs.length := by
  have hl : xs.length = vs.length := by
    cases a with
    | plain r => rw [List.length_map, r.length]
    | io _ _ r => rw [List.length_cons, List.length_cons, List.length_map, r.length]
  have at0 : ∀ {i : Nat} {v : V}, vs[i]? = some v → (L2.start N vs)[i]? = some (some v) := fun {i v} h => by
    have hlt := (List.getElem?_eq_some_iff.mp h).1
    unfold L2.start
    rw [List.getElem?_append_left (by rw [List.length_map]; exact hlt), List.getElem?_map, h]
    rfl
  have rel : ∀ i x, xs[i]? = some x → ∃ v, vs[i]? = some v ∧ SlotRel Δ G H v x ∧ (x.isOwn → i = 0 ∧ io = true) := fun i x e => by
    cases a with
    | plain r =>
      obtain ⟨v, d, rfl, h1, h2⟩ := reps_args r e
      exact ⟨v, h1, h2, fun o => o.elim⟩
    | @io a x0 vs ds hG oa r =>
      cases i with
      | zero =>
        cases e
        exact ⟨.ref a, rfl, .of_own hG oa, fun _ => ⟨rfl, rfl⟩⟩
      | succ i =>
        rw [List.getElem?_cons_succ] at e
        obtain ⟨v, d, rfl, h1, h2⟩ := reps_args r e
        exact ⟨v, by rw [List.getElem?_cons_succ]; exact h1, h2, fun o => o.elim⟩
  refine ⟨⟨sub, ?_, fun i x e => ?_, fun i j x y b e1 e2 o1 o2 s1 s2 => ?_⟩, fun b w => ?_, hl⟩
  · unfold CL.start L2.start
    rw [List.length_append, List.length_map, List.length_replicate, List.length_append, List.length_map, List.length_replicate]
    omega
  · obtain ⟨v, h1, h2, _⟩ := rel i x (start_get e)
    exact ⟨v, at0 h1, h2⟩
  · obtain ⟨_, _, _, h1⟩ := rel i x (start_get e1)
    obtain ⟨_, _, _, h2⟩ := rel j y (start_get e2)
    rw [(h1 o1).1, (h2 o2).1]
  · obtain ⟨i, x, e, o, s⟩ := w
    obtain ⟨v, h1, _, h2⟩ := rel i x (start_get e)
    obtain ⟨rfl, hio⟩ := h2 o
    rw [at0 h1] at s
    cases s
    refine ⟨hio, ?_⟩
    cases vs with
    | nil => cases h1
    | cons w ws => exact h1
theorem end_ok {H G : Hp} {io : Bool} {vs : List V} {xs : List C} {N : List Str} {body : List Stmt} {body' : List S} {Q : VK} (sub : Sub G H) (a : ArgsOk Δ H G io vs xs) (hn : vs.length ≤ N.length) (hb : SndSs X Δ Γ body body')
    (he : CallEnd Δ io vs H G Q (runF Γ io N.length body' xs)) : wpSs X body { nx := fun _ H' => Q .non H', rt := Q } (L2.start N vs) H := by
  obtain ⟨g, hw, _⟩ := start_ag sub a hn
  refine hb g ?_
  unfold runF at he
  -- what is known at the end
  have fin : ∀ {τ' σ' H' F'} (x : C) (v : V), PostS Δ (CL.start N.length xs) τ' (L2.start N vs) σ' H G H' F' → RetOk Δ (CL.start N.length xs) (L2.start N vs) H τ' σ' H' F' v x → CallEnd Δ io vs H G Q (endF io (.ok (.ret x) τ')) → Q v H' := fun {τ' σ' H' F'} x v p r he => by
    have cp : CallPost Δ io vs H G H' F' := by
      refine ⟨p.ag.sub, p.ext, fun b o hb n => p.keep b o hb fun w => n (hw b w), fun b o hb hn => ?_, p.dom⟩
      rcases p.froz b o hb hn with w | w
      · exfalso
        obtain ⟨hio, hv⟩ := hw b w
        -- what stands in the first name stands
        subst hio
        simp only [endF] at he
        cases e0 : get τ' 0 with
        | none => rw [e0] at he; exact he.elim
        | some y =>
          rw [e0] at he
          simp only at he
          cases ey : y.ownB with
          | false => rw [ey] at he; exact he.elim
          | true =>
            obtain ⟨v0, s0, rr⟩ := p.ag.at_ 0 y e0
            obtain ⟨c, rfl, hF, _⟩ := rr.own (ownB_iff ey)
            obtain ⟨_, hz⟩ := p.zero y e0 (ownB_iff ey)
            rw [s0] at hz
            have : (L2.start N vs)[0]? = some (some (.ref b)) := by
              cases vs with
              | nil => cases hv
              | cons w ws =>
                cases hv
                rfl
            rw [this] at hz
            cases hz
            rw [hF] at hb
            cases hb
      · exact w
    have ret : io = false ∨ (∃ y, get τ' 0 = some y ∧ y.isOwn) → OpRel Δ [] [] H H' F' v (.c x) := fun hio => by
      by_cases hx : x.isOwn
      · obtain ⟨b, rfl, h1, h2, h3, h4⟩ := r.own hx
        refine .of_own ?_ h1 h2
        rcases h4 with w | w
        · exfalso
          obtain ⟨hi, hv⟩ := hw b w
          rcases hio with hio | ⟨y, e0, oy⟩
          · rw [hi] at hio; cases hio
          · obtain ⟨_, hz⟩ := p.zero y e0 oy
            have : (L2.start N vs)[0]? = some (some (.ref b)) := by
              cases vs with
              | nil => cases hv
              | cons w ws => cases hv; rfl
            rw [this] at hz
            exact h3 ⟨0, y, e0, oy, hz⟩
        · exact w
      · cases x <;> first | exact absurd trivial hx | exact r
    cases io with
    | false => exact he v H' F' cp (ret (.inl rfl)) fun z => by cases z
    | true =>
      simp only [endF] at he
      cases e0 : get τ' 0 with
      | none => rw [e0] at he; exact he.elim
      | some y =>
        rw [e0] at he
        simp only at he
        cases ey : y.ownB with
        | false => rw [ey] at he; exact he.elim
        | true =>
          rw [ey, if_pos rfl] at he
          have oy := ownB_iff ey
          refine he v H' F' cp (ret (.inr ⟨y, e0, oy⟩)) fun _ => ?_
          obtain ⟨v0, s0, rr⟩ := p.ag.at_ 0 y e0
          obtain ⟨c, rfl, hF, oa⟩ := rr.own oy
          obtain ⟨⟨x0, ex0, ox0⟩, hz⟩ := p.zero y e0 oy
          obtain ⟨u, hu, r0⟩ := g.at_ 0 x0 ex0
          obtain ⟨a0, rfl, _, _⟩ := r0.own ox0
          obtain ⟨_, hv⟩ := hw a0 ⟨0, x0, ex0, ox0, hu⟩
          rw [s0, hu] at hz
          cases hz
          exact ⟨_, y, hv, rfl, hF, oa⟩
  cases er : exs Γ body' (CL.start N.length xs) with
  | exc x τ' => rw [er] at he; exact he
  | no => rw [er] at he; exact he
  | ok f τ' =>
    rw [er] at he
    intro σ' H' F' p
    cases f with
    | brk => exact he.elim
    | cont => exact he.elim
    | next => exact fin (.val .non) .non p .non (by cases io <;> exact he)
    | ret x => exact fun v r => fin x v p r he
end
section
variable {P : Program} {w : World} {K : PySem.W.Frag} {mg : Str → Option Value} {base : Heap} {Δ : Nm} {Γ : Ctx}
/-- a def keeps its promise -/
theorem fn_done {x qual : Str} {st : Stmt} {f : Addr} {fd : FuncData} {N ps : List Str} {k : Nat} {io : Bool} {body' : List S} (F : L2.Fun K x qual st f fd) (S : FnScope N ps (defScope st))
    (hb : ∀ (cdv : Value) (A : Around) (outer : List Env) (s : Shared) (H : Hp) (E : XK), Room k (A.deeper (envOfC qual (defScope st) s.heap.objs.size f cdv)) →
      SndSs (cxOf L2.CX0 P w K mg base N qual (defScope st) f cdv A outer s H E).nox Δ Γ (defBody st) body') :
    FnOk P w K mg base L2.CX0 (k + 1) f fd ps (spF Δ ⟨ps.length, io, runF Γ io N.length body'⟩) := by
  have hpl : ps.length ≤ N.length := by have := congrArg List.length S.pre; rw [List.length_take] at this; omega
  refine F.ok S (fun vs H Q E h => h.1) fun cdv A outer s H vs Q E hr h => ?_
  obtain ⟨hl, G, xs, sub, ar, he⟩ := h
  have hl : vs.length = ps.length := hl
  exact ⟨_, pss0 _, end_ok sub ar (by rw [hl]; exact hpl) (hb cdv A outer s H E hr) he⟩
theorem cal_done {x : Str} {st : Stmt} {f : Addr} {fd : FuncData} {N ps : List Str} {k : Nat} {io : Bool} {body' : List S} (F : L2.Fun K x x st f fd) (hm : mg x = some (.ref f)) (b : Binds K fd ps []) (S : FnScope N ps (defScope st))
    (hb : ∀ (cdv : Value) (A : Around) (outer : List Env) (s : Shared) (H : Hp) (E : XK), Room k (A.deeper (envOfC x (defScope st) s.heap.objs.size f cdv)) →
      SndSs (cxOf L2.CX0 P w K mg base N x (defScope st) f cdv A outer s H E).nox Δ Γ (defBody st) body') :
    C8.Cal P w K mg base (k + 1) x (spF Δ ⟨ps.length, io, runF Γ io N.length body'⟩) [] :=
  ⟨f, fd, ps, [], fn_done F S hb, hm, F.kp, b, .nil⟩
theorem mak_done {x qual : Str} {C : Addr} {st : Stmt} {f : Addr} {fd : FuncData} {N ps : List Str} {k : Nat} {io : Bool} {body' : List S} (M : Mk K C f) (F : L2.Fun K "__init__" qual st f fd) (hm : mg x = some (.ref C)) (b : Binds K fd ps []) (S : FnScope N ps (defScope st))
    (hb : ∀ (cdv : Value) (A : Around) (outer : List Env) (s : Shared) (H : Hp) (E : XK), Room k (A.deeper (envOfC qual (defScope st) s.heap.objs.size f cdv)) →
      SndSs (cxOf L2.CX0 P w K mg base N qual (defScope st) f cdv A outer s H E).nox Δ Γ (defBody st) body') :
    C8.Mak P w K mg base (k + 1) x C (spF Δ ⟨ps.length, io, runF Γ io N.length body'⟩) [] :=
  ⟨f, fd, ps, [], M, fn_done F S hb, hm, b, .nil⟩
end
end CL

set_option autoImplicit false
set_option linter.all false
set_option Elab.async false
set_option maxRecDepth 100000
set_option maxHeartbeats 1000000
/-! CLPr: short words for printed proofs. -/
namespace CL
open PySem PySem.Spec PyProof.Rows L2
section
variable {X : Cx} {Δ : Nm} {Γ : Ctx} {pos : Pos}
theorem hu70 {k : Nat} {A : Around} (hr : Room k A) : A.units + 70 < cLine := by have := hr.un; omega
theorem n_ (i : Nat) {x : Str} (hN : X.N[i]? = some x := by rfl) (hv : Vis X.env.scope x := by first | exact Or.inl rfl | exact Or.inr (Or.inl rfl) | exact Or.inr (Or.inr rfl)) (hd : (x == ("__debug__" : Str)) = false := by decide)
    (hcd : (x == ("__classdict__" : Str)) = false := by decide) : SndE X Δ Γ (.Name x pos) (.name i) := s_name hN hv hd hcd
theorem k_ {x : Str} {n : Nat} {i : Int} (h : ∃ t, X.mg x = some (.int i t)) (hg : Gl X x := by rfl) (hc : Γ.cst n = some (.int i) := by rfl) (hd : (x == ("__debug__" : Str)) = false := by decide) : SndE X Δ Γ (.Name x pos) (.glob n) := by
  obtain ⟨t, hm⟩ := h
  exact s_glob (v := .int i) hg hm ⟨t, rfl⟩ hc (fun F => .int i) hd
/-! targets by names -/
theorem pg_n {x : Str} {i : Nat} {K : PySem.W.Frag} (hN : X.N.Nodup) (hi : X.N[i]? = some x := by rfl) (hx : Loc X.env.scope x := by first | exact Or.inl rfl | exact Or.inr rfl) (hf : X.fn x = true ∨ X.env.scope.names.lookup x = some .local := by first | exact Or.inl rfl | exact Or.inr rfl) : PG X (.Name x pos) (gT K (.name i)) := by
  rw [gT]
  exact pg_name hN hi hx hf
theorem pgs_n {K : PySem.W.Frag} : PGs X [] (gTs K []) := by
  rw [gTs]
  exact pgs_nil
theorem pgs_c {K : PySem.W.Frag} {e : Expr} {es : List Expr} {t : E} {ts : List E} (h1 : PG X e (gT K t)) (h2 : PGs X es (gTs K ts)) (hs : (assignEach (e :: es) X.env).map (·.2) = assign e X.env :: (assignEach es X.env).map (·.2) := by rfl) : PGs X (e :: es) (gTs K (t :: ts)) := by
  rw [gTs]
  exact pgs_cons h1 h2 hs
theorem pg_t {K : PySem.W.Frag} {es : List Expr} {k : Nat} {ts : List E} (hK : X.K = K) (hc : X.calm = true) (h : PGs X es (gTs K ts)) (hn : (assignEach es X.env).length = ts.length := by rfl) (hst : (assignEach es X.env).findIdx? (·.1) = none := by rfl) : PG X (.Tuple es k pos) (gT K (.tup ts)) := by
  rw [gT]
  subst hK
  exact pg_tup hc h hn hst
variable {e a b c : Expr} {e' a' b' c' : E}
theorem a_c {es : List Expr} {es' : List E} (he : SndE X Δ Γ e e') (hes : SndA X Δ Γ es es') (hs : starEach (e :: es) X.env = (false, eval e X.env) :: starEach es X.env := by rfl) : SndA X Δ Γ (e :: es) (e' :: es') := a_cons he hes hs
theorem asg_post {i : Nat} {τ : CL.St} {σ : L2.St} {H F : Hp} (g : Ag Δ τ σ H F) {D : Ends} (hQ : PostG X Δ (GS Δ D) τ σ H F (ex Γ (.set i e') τ)) : PostG X Δ (GE Δ fun x H1 => gName i x σ H1 D.nx) τ σ H F (ev Γ e' τ) := by
  rw [ex] at hQ
  revert hQ
  cases ev Γ e' τ with
  | exc x τ1 => exact fun hQ => hQ
  | no => exact fun hQ => hQ
  | ok o τ1 =>
    intro hQ v H1 F1 p1 r1
    have hQ : PostG X Δ (GS Δ D) τ σ H F (match CL.take o τ1 with
      | some (x, σ2) => (stores [i] [x] σ2).bind fun _ σ3 => .ok .next σ3
      | none => .no) := hQ
    cases e1 : CL.take o τ1 with
    | none => rw [e1] at hQ; exact hQ.elim
    | some q =>
      obtain ⟨x, τ2⟩ := q
      rw [e1] at hQ
      obtain ⟨p2, ro, _, _⟩ := p1.take g r1 e1
      simp only [stores] at hQ
      cases hb : decide (i < τ2.length) && (i != 0 || !x.ownB) with
      | false => rw [hb] at hQ; exact hQ.elim
      | true =>
        rw [hb] at hQ
        simp only [Bool.and_eq_true, Bool.or_eq_true, decide_eq_true_eq, bne_iff_ne, ne_eq, Bool.not_eq_true'] at hb
        exact hQ _ H1 F1 (p2.s.store ro hb.1 (hb.2.imp id notOwn_iff.mp)).1
/-- name = [.. for ..] on one line, the name a plain local -/
theorem st_setLc {i : Nat} {y : Str} {py : Pos} {elt tg iter : Expr} {ifs : List Expr} {scope : Scope} {own : List (Str × Nat)} {spos : Pos} {elt' tgt' it' : E} {ifs' : Option E} (hc : X.calm = true) (hN : X.N.Nodup) (hy : X.N[i]? = some y) (hyl : X.env.scope.names.lookup y = some .local)
    (hsw : swapsWith (.ListComp elt [⟨tg, iter, ifs, 0⟩] scope pos) (some (.Name y py)) spos.line X.env = pure true) (ok : BlkOk X.N X.env.scope scope own) (hown : ∀ j, j ∈ own.map (·.2) → j ∈ tnames tgt') (hown2 : ∀ j, j ∈ tnames tgt' → j ∈ own.map (·.2))
    (hi : SndI X Δ Γ tg iter it') (hg : Blk X scope fun X => PG X tg (gT Δ.K tgt')) (ht : Blk X scope fun X => SndTs X Δ Γ ifs ifs') (he : Blk X scope fun X => SndE X Δ Γ elt elt') (hs : ∀ x, foldedSetIterable iter X.env x = pure x) :
    SndS X Δ Γ (.Assign [.Name y py] (.ListComp elt [⟨tg, iter, ifs, 0⟩] scope pos) spos) (.set i (.lc elt' tgt' it' ifs')) := by
  intro τ σ H F g D hQ
  have tt : Blk X scope fun Y => PTs Y ifs (bT X scope ifs) := fun s H C cl fp => ⟨fun pins s' σ' H' Q I h => h s H C cl fp pins s' I⟩
  have te : Blk X scope fun Y => PE Y elt (bE X scope elt) := fun s H C cl fp => ⟨fun pins s' σ' H' Q I h => h s H C cl fp pins s' I⟩
  exact wpS_of (ps_setLc hc hN hy hyl hsw (pi0 tg iter) ok hg tt te hs) (lc_ok hown hown2 hi ht he g (asg_post g hQ))
end
theorem bt_len : bootBuiltins "len" = some (.builtin "len") := by decide +kernel
theorem bt_abs : bootBuiltins "abs" = some (.builtin "abs") := by decide +kernel
theorem bt_all : bootBuiltins "all" = some (.builtin "all") := by decide +kernel
theorem bt_any : bootBuiltins "any" = some (.builtin "any") := by decide +kernel
theorem bt_sum : bootBuiltins "sum" = some (.builtin "sum") := by decide +kernel
theorem bt_min : bootBuiltins "min" = some (.builtin "min") := by decide +kernel
theorem bt_max : bootBuiltins "max" = some (.builtin "max") := by decide +kernel
theorem bt_sorted : bootBuiltins "sorted" = some (.builtin "sorted") := by decide +kernel
theorem bt_int : bootBuiltins "int" = some (.type "int") := by decide +kernel
theorem bt_tuple : bootBuiltins "tuple" = some (.type "tuple") := by decide +kernel
theorem bt_list : bootBuiltins "list" = some (.type "list") := by decide +kernel
theorem bt_dict : bootBuiltins "dict" = some (.type "dict") := by decide +kernel
theorem bt_set : bootBuiltins "set" = some (.type "set") := by decide +kernel
end CL
namespace CL
open PySem PySem.Spec PyProof.Rows L2
def fldOf (names : List Str) (i : Nat) : Str := match names[i]? with
  | some s => s
  | none => ⟨Array.replicate (i + 100) 0⟩
theorem fldOf_inj {names : List Str} (nd : names.Nodup) (hs : ∀ s ∈ names, s.cps.size < 100) : ∀ i j, fldOf names i = fldOf names j → i = j := by
  intro i j h
  unfold fldOf at h
  have sz : ∀ {i : Nat} {s : Str}, names[i]? = some s → s.cps.size < 100 := fun {i s} e => hs s (List.mem_of_getElem? e)
  cases e1 : names[i]? with
  | some s =>
    cases e2 : names[j]? with
    | some t =>
      rw [e1, e2] at h
      simp only at h
      subst h
      have h1 := (List.getElem?_eq_some_iff.mp e1)
      have h2 := (List.getElem?_eq_some_iff.mp e2)
      exact (List.getElem_inj (h₀ := h1.1) (h₁ := h2.1) nd).mp (by rw [h1.2, h2.2])
    | none =>
      rw [e1, e2] at h
      simp only at h
      have := sz e1
      rw [h] at this
      simp at this
      omega
  | none =>
    cases e2 : names[j]? with
    | some t =>
      rw [e1, e2] at h
      simp only at h
      have := sz e2
      rw [← h] at this
      simp at this
      omega
    | none =>
      rw [e1, e2] at h
      simp only [Str.mk.injEq] at h
      have := congrArg Array.size h
      simp at this
      omega
/-- a law's promise, as the walk asks for it -/
def spLaw (K : PySem.W.Frag) : Sp := fun vs H Q _ => ∃ (a : Addr) (ns : List Int), vs = [.ref a] ∧ SqL K H a (ns.map V.int) ∧ ns.length ≤ 63 ∧ ∀ H', Q (.bl true) H'
theorem reps_of_ints {Δ : Nm} {F : Hp} : ∀ ns : List Int, Reps Δ F (ns.map V.int) (ns.map D.int)
  | [] => .nil
  | n :: ns => .cons (.int n) (reps_of_ints ns)
theorem law_imp {Δ : Nm} {Fn : Fun} (har : Fn.ar = 1) (hio : Fn.io = false) (h : ∀ ns : List Int, ns.length ≤ 63 → Fn.run [.val (.kl (ns.map .int))] = .ok (.val (.bl true)) none) : ∀ vs H Q E, spLaw Δ.K vs H Q E → spF Δ Fn vs H Q E := by
  rintro vs H Q E ⟨a, ns, rfl, hS, hl, hq⟩
  have key : ∀ G : Hp, Sub G H → SqL Δ.K G a (ns.map V.int) → spF Δ Fn [.ref a] H Q E := fun G sub hG => by
    refine ⟨by rw [har]; rfl, G, [.val (.kl (ns.map .int))], sub, by rw [hio]; exact .plain (ds := [.kl (ns.map .int)]) (.cons (.kl hG (reps_of_ints ns)) .nil), ?_⟩
    rw [h ns hl]
    intro v H' G' _ r _
    have r : Rep Δ G' v (.bl true) := r
    cases r
    exact hq H'
  have one : ∀ o, H a = some o → Sub (upd (fun _ => none) a o) H := fun o ho b u e => by
    by_cases hb : b = a
    · subst hb
      rw [upd_same] at e
      cases e
      exact .inl ho
    · rw [upd_ne hb] at e
      cases e
  rcases hS with (h1 | ⟨o, h1⟩) | h1
  · exact key _ (one _ h1) (.inl (.inl upd_same))
  · exact key _ (one _ h1) (.inl (.inr ⟨o, upd_same⟩))
  · exact key (fun _ => none) (fun b u e => by cases e) (.inr h1)
theorem law_walk {l : PySem.W.OpenLaw} {q : Program} {loose : List Str} {XP : (Str → Option Value) → Heap → Prop} {YP : World → Heap → Prop} {d : DefRec} {K : Params → PySem.W.Frag} {k : Nat} {x : Str} (hk : Room k callerA) (hn : l.most = some 63) (hdf : d.params.defaults = [])
    (hY : ∀ (w : World) (h : Heap), YP w h → (K w.params).In h)
    (F : ∀ (w : World) (mg : Str → Option Value) (fa : Addr) (h : Heap), (K w.params).In h → h.Ns mainGlobals mg → mg d.name = some (.ref fa) →
      ∃ fd : FuncData, (∀ (s : Shared) (u : Value), BindsTo s fd ⟨[u], []⟩ [(x, u)]) ∧ ∀ base : Heap, (K w.params).In base → base.Ns mainGlobals mg → FnOk l.prog w (K w.params) mg base L2.CX0 k fa fd [x] (spLaw (K w.params))) :
    PySem.W.WalkO q loose XP YP l.row.toRowW d [] (fun f vs => PySem.call f vs) :=
  L2.walk_of (n := 63) (k := k) (x := x) (CX := fun _ => L2.CX0) (sp := fun w => spLaw (K w.params)) hn (by decide) hdf hk hY F (fun _ _ a ns hl _ hS => ⟨a, ns, rfl, hS, hl, fun _ => rfl⟩) fun _ _ _ _ _ z => z
end CL

set_option autoImplicit false
set_option linter.all false
set_option Elab.async false
set_option maxRecDepth 100000
set_option maxHeartbeats 3200000
/-! CLSet0: set(row of tuples of ints), few distinct ones. -/
namespace CL
open PySem PySem.Spec PyProof.Rows L2
abbrev setObj (w : World) : Obj := { cls := .type "set", dict := none, data := .set #[] 0 (.fresh 0 0 (!w.params.followText "set-order")) }
section
variable {P : Program} {w : World} {A : Around} {E : Value → Shared → Prop} {s : Shared}
/-- the shell of set(row): what the loop over the row brings -/
theorem call_set_any {k : Bool} {l : Addr} {items : Array Value} {Good : Heap → Prop} {Q : Value → Shared → Prop} (hl : StX k s.heap l items)
    (loop : ∀ (R : Result → Shared → Prop), (∀ (h' : Heap) (tk : Nat), Good h' → R (.ok (.ret .none)) { s with heap := h', toks := tk }) →
      codeAny (model P w) A.in1.in1 (.builtin "set.update.loop" ⟨[.ref s.heap.objs.size, .ref (s.heap.objs.size + 1)], []⟩) R { s with heap := (s.heap.push (setObj w)).push (objX k l) })
    (h : ∀ (h' : Heap) (tk : Nat), Good h' → Q (.ref s.heap.objs.size) { s with heap := h', toks := tk }) :
    wpAny (model P w) A (call (.type "set") [.ref l]) Q E s := by
  obtain ⟨c, tl, hmro⟩ := F.called_set.mro
  have hmade := F.called_set.made
  have hsub := F.called_set.sub
  refine wpAny_call (codeAny_of_tree ?_)
  show wpAny _ _ (callAny (.type "set") _) _ _ _
  refine wpAny_pure ⟨Code.quiet_builtin _ (by decide +kernel), codeAny_builtin F.entry_type_call ?_⟩
  rw [Around.under_plain (weight_type_call_type "set" [.ref l] []) rfl]
  have h1 := F.called_set.notType
  have h2 := F.called_set.canCreate
  have hct := F.typeCall_set_1 (.ref l)
  repeat (any_goals (first | assumption | wp_step))

  refine codeAny_mono (code_set_led1 (.ref l) (E := E) (Q₁ := fun obj s₁ => obj = .ref s.heap.objs.size ∧ s₁ = { s with heap := s.heap.push (setObj w) }) ⟨rfl, rfl⟩) fun r s₁ hr => ?_
  cases r with
  | error e => exact hr
  | ok fl =>
    cases fl with
    | ret obj =>
      obtain ⟨rfl, rfl⟩ := hr
      have hS : (s.heap.push (setObj w)).get? s.heap.objs.size = some (setObj w) := Heap.get?_push_size _ rfl
      have hT : Shared.TypeIs { s with heap := s.heap.push (setObj w) } (.ref s.heap.objs.size) "set" := ⟨_, hS, rfl⟩
      have hli := F.called_set.init.lookup
      have hbi := F.called_set.init.bind (.ref s.heap.objs.size)
      repeat (any_goals (first | assumption | wp_step))

      refine codeAny_mono (codeAny_call_builtin (R := wants (fun r s₂ => r = .none ∧ ∃ h' tk, s₂ = { s with heap := h', toks := tk } ∧ Good h') E) F.called_set.init.plain F.entry_set_init (check_set_init_1 hT ?_)) fun r₂ s₂ hr₂ => ?_
      · have e1 : (s.heap.push (setObj w)).objs.size = s.heap.objs.size + 1 := Heap.size_push ..
        have fin : ∀ (s3 : Shared) (Q' : Value → Shared → Prop) (E' : Value → Shared → Prop), s3 = { s with heap := (s.heap.push (setObj w)).push (objX k l) } → (∀ (h' : Heap) (tk : Nat), Good h' → Q' .none { s with heap := h', toks := tk }) →
            wpAny (model P w) A.in1.in1 (runValue (.builtin "set.update.loop" ⟨[.ref s.heap.objs.size, .ref (s.heap.push (setObj w)).objs.size], []⟩)) Q' E' s3 := fun s3 Q' E' e hq => by
          subst e
          rw [e1]
          exact wpAny_runValue (loop _ fun h' tk g => hq h' tk g)
        cases k with
        | false =>
          obtain ⟨ol, hol, hcl, nl, hdl⟩ := hl
          obtain ⟨ocls, odict, odata, oslots⟩ := ol
          simp only at hcl hdl
          subst hcl; subst hdl
          have hol' : (s.heap.push (setObj w)).get? l = some { cls := .type "list", dict := odict, data := .seq items nl, slots := oslots } := Heap.get?_push_of_some _ hol
          have hsls := F.sub_list_set
          have hslf := F.sub_list_frozenset
          have hne : (Value.type "list" == Value.type "dict") = false := by decide
          have hl1 : (s.heap.push (setObj w)).IsList l items := ⟨_, hol', rfl, nl, rfl⟩
          unfold Builtin.«set.__init__» noKeywords Builtin.Frozenset.updateFrom
          generalize hPI : pyIter = PI
          wp_walk
          subst hPI
          refine wpAny_pyIter_list hl1 ?_
          refine wpAny_bind (fin _ _ _ rfl fun h' tk g => ?_)
          refine wpAny_pure ?_
          show wpAny _ _ (ret Value.none) _ _ _
          exact wpAny_pure ⟨rfl, h', tk, rfl, g⟩
        | true =>
          obtain ⟨ol, hol, hcl, nl, hdl⟩ := hl
          obtain ⟨ocls, odict, odata, oslots⟩ := ol
          simp only at hcl hdl
          subst hcl; subst hdl
          have hol' : (s.heap.push (setObj w)).get? l = some { cls := .type "tuple", dict := odict, data := .seq items nl, slots := oslots } := Heap.get?_push_of_some _ hol
          have hsls := F.sub_tuple_set
          have hslf := F.sub_tuple_frozenset
          have hne : (Value.type "tuple" == Value.type "dict") = false := by decide
          have hl1 : (s.heap.push (setObj w)).IsTuple l items := ⟨_, hol', rfl, nl, rfl⟩
          unfold Builtin.«set.__init__» noKeywords Builtin.Frozenset.updateFrom
          generalize hPI : pyIter = PI
          wp_walk
          subst hPI
          refine wpAny_pyIter_tuple hl1 ?_
          refine wpAny_bind (fin _ _ _ rfl fun h' tk g => ?_)
          refine wpAny_pure ?_
          show wpAny _ _ (ret Value.none) _ _ _
          exact wpAny_pure ⟨rfl, h', tk, rfl, g⟩
      · cases r₂ with
        | error e => exact hr₂
        | ok fl₂ =>
          cases fl₂ with
          | ret r =>
            obtain ⟨rfl, h', tk, rfl, g⟩ := hr₂
            repeat (any_goals (first | assumption | wp_step))
            exact h _ _ g
          | _ => exact hr₂.elim
    | _ => exact hr.elim
end
end CL

set_option autoImplicit false
set_option linter.all false
set_option Elab.async false
set_option maxRecDepth 100000
set_option maxHeartbeats 3200000
/-! CLSet1: the loop, the rules. -/
namespace CL
open PySem PySem.Spec PyProof.Rows L2
section
variable {P : Program} {w : World} {A : Around} {E : Value → Shared → Prop} {s : Shared}
/-- few distinct ones -/
def Few (ks : List (Addr × List Int)) : Prop := ∀ L : List (Addr × List Int), (L.map (·.2)).Nodup → (∀ p ∈ L, p ∈ ks) → L.length + 1 < 64
/-- set.update's loop -/
theorem update_few {I : Addr} {fp wr : List Addr} {G : Array GenState → Array GenState → Prop} {n : Nat} {Pv : Nat → Value → Prop} {St : Nat → Shared → Prop} {R : Result → Shared → Prop}
    (W : WalksS P w A.in1 I fp wr G n Pv St) (S : Addr) (hSf : S ∉ fp) (ks : List (Addr × List Int)) (hn : n = ks.length) (hfew : Few ks) (hval : ∀ i v, Pv i v → ∃ p, ks[i]? = some p ∧ v = .ref p.1)
    (h0 : Heap) (hk : ∀ p ∈ ks, IsT P w h0 p.2 p.1) (hS0 : h0.get? S = none) (hw0 : ∀ b ∈ wr, h0.get? b = none) (hu : A.in1.units < cLine) :
    ∀ (k i : Nat) (s : Shared), n - i = k → i ≤ n → St i s → (∀ b o, h0.get? b = some o → s.heap.get? b = some o) → (∃ L es ep t, SetTR P w s.heap S L es ep t ∧ Got ks i L) →
      (∀ s' L es ep t, Moved (S :: wr) G s s' → SetTR P w s'.heap S L es ep t → Got ks n L → (∀ b o, h0.get? b = some o → s'.heap.get? b = some o) → R (.ok (.ret .none)) s') →
      codeAny (model P w) A (.builtin "set.update.loop" ⟨[.ref S, .ref I], []⟩) R s := by
  have hSw : S ∉ wr := fun h => hSf (W.sub _ h)
  have hsub : ∀ b ∈ wr, b ∈ S :: wr := fun b hb => List.mem_cons_of_mem _ hb
  have old : ∀ {s s' : Shared}, Moved wr G s s' → (∀ b o, h0.get? b = some o → s.heap.get? b = some o) → ∀ b o, h0.get? b = some o → s'.heap.get? b = some o := fun hm hkp b o e =>
    hm.heap b o (fun hb => by rw [hw0 b hb] at e; cases e) (hkp b o e)
  intro k
  induction k with
  | zero =>
    intro i s hk' hi hst hkp ⟨L, es, ep, t, hS, g⟩ hR
    have hin : i = n := by omega
    subst hin
    refine codeAny_builtin F.entry_set_update_loop ?_
    rw [Around.under_plainId F.plain_set_update_loop _]
    show wpAny _ A.in1 (pyNext (.ref I) >>= _) _ _ s
    refine wpAny_bind (W.done s _ _ hst fun s' hm => ?_)
    show wpAny _ A.in1 (ret Value.none) _ _ s'
    have hkp' := old hm hkp
    have sub : ∀ p ∈ L, p ∈ ks := fun p hp => List.mem_of_mem_take (g.sub p hp)
    exact wpAny_pure (hR s' L es ep t (hm.mono hsub) (hS.keep (fun o e => hm.heap S o hSw e) fun p hp => isT_keep (hk p (sub p hp)) hkp') g hkp')
  | succ k ih =>
    intro i s hk' hi hst hkp ⟨L, es, ep, t, hS, g⟩ hR
    have hlt : i < n := by omega
    refine codeAny_builtin F.entry_set_update_loop ?_
    rw [Around.under_plainId F.plain_set_update_loop _]
    show wpAny _ A.in1 (pyNext (.ref I) >>= _) _ _ s
    refine wpAny_bind (W.item i s _ _ hlt hst fun v s' hP hst' hm => ?_)
    obtain ⟨p, hp, rfl⟩ := hval i v hP
    have hkp' := old hm hkp
    have sub : ∀ p ∈ L, p ∈ ks := fun p hp => List.mem_of_mem_take (g.sub p hp)
    have hS' : SetTR P w s'.heap S L es ep t := hS.keep (fun o e => hm.heap S o hSw e) fun q hq => isT_keep (hk q (sub q hq)) hkp'
    have hx : IsT P w s'.heap p.2 p.1 := isT_keep (hk p (List.mem_of_getElem? hp)) hkp'
    show wpAny _ A.in1 (holding [Value.ref p.1] (setAdd S (.ref p.1)) >>= _) _ _ s'
    refine wpAny_bind (wpAny_holding ?_)
    unfold setAdd
    refine wpAny_holding ?_
    refine wpAny_bind (wpAny_pyHash_tuple hu hx ?_)
    refine add_at (s := { s' with toks := s'.toks + (p.2.length + 1) }) hS' hx hu (hfew L hS'.nd sub) fun b h' L' es' ep' t' hsb hS2 c1 c2 => ?_
    have g' : Got ks (i + 1) L' := by
      rcases Classical.em (p.2 ∈ L.map (·.2)) with c | c
      · rw [c1 c]; exact g.same hp c
      · exact g.more hp (c2 c)
    have hkp2 : ∀ b o, h0.get? b = some o → h'.get? b = some o := fun b o e => (hsb.2 b (fun z => by rw [z, hS0] at e; cases e)).trans (hkp' b o e)
    refine wpAny_pure ⟨plainId_quiet F.plain_set_update_loop _, ih (i + 1) _ (by omega) hlt (W.frame _ s' _ _ hst' (Nat.le_add_right _ _) fun b hb o e => ?_) hkp2 ⟨L', es', ep', t', hS2, g'⟩ fun s'' L2 es2 ep2 t2 hm'' hS'' g'' hkp'' => ?_⟩
    · rw [hsb.2 b (fun h : b = S => hSf (by rw [← h]; exact hb))]; exact e
    · refine hR s'' L2 es2 ep2 t2 (Moved.trans W.gtrans ((hm.mono hsub).then_heap (Nat.le_add_right _ _) fun b o hb e => ?_) hm'') hS'' g'' hkp''
      rw [hsb.2 b (fun h : b = S => hb (by rw [h]; exact List.mem_cons_self))]; exact e
theorem call_set_few {k : Bool} {l : Addr} {items : Array Value} (ks : List (Addr × List Int)) {Q : Value → Shared → Prop} (hh : A.handled = none) (hl : StX k s.heap l items) (hit : items.toList = ks.map fun p => Value.ref p.1)
    (hk : ∀ p ∈ ks, IsT P w s.heap p.2 p.1) (hfew : Few ks) (hu : A.units + 3 < cLine)
    (h : ∀ (h' : Heap) (tk : Nat) L es ep t, SetTR P w h' s.heap.objs.size L es ep t → Got ks ks.length L → (∀ b o, s.heap.get? b = some o → h'.get? b = some o) → Q (.ref s.heap.objs.size) { s with heap := h', toks := tk }) :
    wpAny (model P w) A (call (.type "set") [.ref l]) Q E s := by
  have hisz : items.size = ks.length := by
    have q := congrArg List.length hit
    rw [Array.length_toList, List.length_map] at q
    exact q
  have hlS : l < s.heap.objs.size := hl.lt
  have none_of : ∀ b, s.heap.objs.size ≤ b → s.heap.get? b = none := fun b hb => by
    cases q : s.heap.get? b with
    | none => rfl
    | some o => exact absurd (Nat.lt_of_lt_of_le (Heap.lt_size q) hb) (Nat.lt_irrefl _)
  have hval : ∀ (i : Nat) (v : Value), items[i]? = some v → ∃ p, ks[i]? = some p ∧ v = .ref p.1 := fun i v hv => by
    have q : items.toList[i]? = some v := by rw [Array.getElem?_toList]; exact hv
    rw [hit, List.getElem?_map] at q
    cases hq : ks[i]? with
    | none => rw [hq] at q; cases q
    | some p =>
      rw [hq] at q
      exact ⟨p, rfl, (Option.some.inj q).symm⟩
  have hS : (s.heap.push (setObj w)).get? s.heap.objs.size = some (setObj w) := Heap.get?_push_size _ rfl
  have e1 : (s.heap.push (setObj w)).objs.size = s.heap.objs.size + 1 := Heap.size_push ..
  have fr : (objX k l).isFreed = false := by cases k <;> rfl
  have hI : ((s.heap.push (setObj w)).push (objX k l)).get? (s.heap.objs.size + 1) = some (objX k l) := by
    have := Heap.get?_push_size (s.heap.push (setObj w)) (o := objX k l) fr
    rw [e1] at this; exact this
  have hSf : s.heap.objs.size ∉ [s.heap.objs.size + 1, l] := not2 (Nat.ne_of_lt (Nat.lt_succ_self _)) (Nat.ne_of_gt hlS)
  have hneI : l ≠ s.heap.objs.size + 1 := Nat.ne_of_lt (Nat.lt_succ_of_lt hlS)
  have hget : ((s.heap.push (setObj w)).push (objX k l)).get? s.heap.objs.size = some (setObj w) := Heap.get?_push_of_some _ hS
  have hh3 : A.in1.in1.in1.handled = none := by simp [hh]
  refine call_set_any (Good := fun h' => ∃ L es ep t, SetTR P w h' s.heap.objs.size L es ep t ∧ Got ks ks.length L ∧ ∀ b o, s.heap.get? b = some o → h'.get? b = some o) hl (fun R hR => ?_) fun h' tk ⟨L, es, ep, t, h1, h2, h3⟩ => h h' tk L es ep t h1 h2 h3
  have fin : ∀ (s' : Shared) L es ep t (wr : List Addr), Moved (s.heap.objs.size :: wr) (fun g g' => g' = g) { s with heap := (s.heap.push (setObj w)).push (objX k l) } s' → SetTR P w s'.heap s.heap.objs.size L es ep t → Got ks items.size L → (∀ b o, s.heap.get? b = some o → s'.heap.get? b = some o) → R (.ok (.ret .none)) s' := fun s' L es ep t wr hm hS' g' hkp => by
    obtain ⟨h', g2, d', tk', os'⟩ := s'
    have eg : g2 = s.gens := hm.gens
    have ed : d' = s.drawn := hm.drawn
    have eo : os' = s.os := hm.os
    subst eg; subst ed; subst eo
    rw [hisz] at g'
    exact hR h' tk' ⟨L, es, ep, t, hS', g', hkp⟩
  cases k with
  | false =>
    have hl1 : ((s.heap.push (setObj w)).push (objX false l)).IsList l items := Heap.IsList.at hl fun o e => Heap.get?_push_of_some _ (Heap.get?_push_of_some _ e)
    exact update_few ((Walks.list hh3 _ l hneI items).toS) s.heap.objs.size hSf ks hisz hfew hval s.heap hk (none_of _ (Nat.le_refl _)) (fun b hb => none_of b (by
        rw [List.mem_singleton.mp hb]
        exact Nat.le_succ _)) hu (items.size - 0) 0 _ (by omega) (Nat.zero_le _) ⟨⟨_, hI, rfl, rfl⟩, hl1⟩ (fun b o e => Heap.get?_push_of_some _ (Heap.get?_push_of_some _ e)) ⟨[], #[], 0, _, setTR_fresh hget, Got.zero ks⟩
        fun s' L es ep t hm => fin s' L es ep t _ hm
  | true =>
    have hl1 : ((s.heap.push (setObj w)).push (objX true l)).IsTuple l items := Heap.IsTuple.at hl fun o e => Heap.get?_push_of_some _ (Heap.get?_push_of_some _ e)
    exact update_few ((Walks.tuple hh3 _ l hneI items).toS) s.heap.objs.size hSf ks hisz hfew hval s.heap hk (none_of _ (Nat.le_refl _)) (fun b hb => none_of b (by
        rw [List.mem_singleton.mp hb]
        exact Nat.le_succ _)) hu (items.size - 0) 0 _ (by omega) (Nat.zero_le _) ⟨⟨_, hI, rfl, rfl⟩, hl1⟩ (fun b o e => Heap.get?_push_of_some _ (Heap.get?_push_of_some _ e)) ⟨[], #[], 0, _, setTR_fresh hget, Got.zero ks⟩
        fun s' L es ep t hm => fin s' L es ep t _ hm
end
/-- set(row) of tuples of ints -/
def rSetX (K : PySem.W.Frag) (P : Program) (w : World) : List V → Hp → VK → Prop := fun xs H Q => ∃ (k : Bool) (l : Addr) (ks : List (Addr × List Int)), xs = [V.ref l] ∧ SqX k K H l (ks.map fun p => V.ref p.1) ∧ (∀ p ∈ ks, SqT K H p.1 (p.2.map V.int)) ∧ Few ks ∧
  ∀ a L, H a = none → (∀ p ∈ L, p ∈ ks) → (∀ p ∈ ks, p.2 ∈ L.map (·.2)) → Q (.ref a) (upd H a (SetTO P w a L))
theorem cr_setX {X : Cx} (hc : X.calm = true) (hu : X.A.units + 70 < cLine) : CallR X (.type "set") (rSetX X.K X.prog X.w) := by
  intro pins s σ H xs us Q I r h
  obtain ⟨k, l, ks, rfl, hl, hk, hf, q⟩ := h
  rw [Vals.ref1 r]
  obtain ⟨its, rv, stx⟩ := Inv.sqx I hl
  have hn : H s.heap.objs.size = none := I.hok.fresh (Nat.le_refl _)
  refine call_set_few (P := X.prog) (w := X.w) ks (I.ok.hd hc) stx (by simpa using refs_of_vals rv) (fun p hp => I.isT (hk p hp)) hf (by omega) fun h' tk L es ep t R g k => ?_
  refine ⟨.ref s.heap.objs.size, upd H s.heap.objs.size (SetTO X.prog X.w s.heap.objs.size L), I.laid (t' := tk) k (Nat.le_refl _) (setTO_new R.t0), rfl, q _ L hn (fun p hp => ?_) fun p hp => ?_⟩
  · exact List.mem_of_mem_take (g.sub p hp)
  · exact g.all p (by rw [List.take_length]; exact hp)
end CL

set_option autoImplicit false
set_option linter.all false
set_option Elab.async false
set_option maxRecDepth 100000
set_option maxHeartbeats 1000000
/-! CLSet: sorted(set(row)). -/
namespace CL
open PySem PySem.Spec PyProof.Rows L2
abbrev encT (k : List Int) : D := .tup (k.map .int)
theorem eqbs_ints : ∀ a b : List Int, eqbs (a.map .int) (b.map .int) = decide (a = b)
  | [], [] => by simp [eqbs]
  | [], _ :: _ => by simp [eqbs]
  | _ :: _, [] => by simp [eqbs]
  | x :: a, y :: b => by
    rw [List.map_cons, List.map_cons, eqbs, eqbs_ints a b, eqb]
    by_cases h1 : x = y
    · subst h1; simp
    · simp [h1]
theorem eqb_enc (a b : List Int) : eqb (encT a) (encT b) = decide (a = b) := by rw [eqb]; exact eqbs_ints a b
def dedupL : List (List Int) → List (List Int) → List (List Int)
  | acc, [] => acc
  | acc, k :: ks => if k ∈ acc then dedupL acc ks else dedupL (acc ++ [k]) ks
theorem dedup_enc : ∀ (ks acc : List (List Int)), dedup (acc.map encT) (ks.map encT) = (dedupL acc ks).map encT
  | [], acc => by rw [List.map_nil, dedup, dedupL]
  | k :: ks, acc => by
    rw [List.map_cons, dedup, dedupL]
    have e : ((acc.map encT).any fun x => eqb x (encT k)) = decide (k ∈ acc) := by
      rw [List.any_map]
      induction acc with
      | nil => simp
      | cons a acc ih =>
        rw [List.any_cons, ih]
        show (eqb (encT a) (encT k) || _) = _
        rw [eqb_enc]
        by_cases h : a = k
        · subst h; simp
        · have h2 : ¬ k = a := fun z => h z.symm
          simp [h, h2]
    rw [e]
    by_cases h : k ∈ acc
    · rw [decide_eq_true h, if_pos rfl, if_pos h]
      exact dedup_enc ks acc
    · rw [decide_eq_false h, if_neg Bool.false_ne_true, if_neg h]
      have := dedup_enc ks (acc ++ [k])
      rw [List.map_append] at this
      exact this
theorem dedupL_mem : ∀ (ks acc : List (List Int)) (x : List Int), x ∈ dedupL acc ks ↔ x ∈ acc ∨ x ∈ ks
  | [], acc, x => by simp [dedupL]
  | k :: ks, acc, x => by
    rw [dedupL]
    by_cases h : k ∈ acc
    · rw [if_pos h, dedupL_mem ks acc x]
      constructor
      · rintro (a | a)
        · exact .inl a
        · exact .inr (List.mem_cons_of_mem _ a)
      · rintro (a | a)
        · exact .inl a
        · rcases List.mem_cons.mp a with rfl | a
          · exact .inl h
          · exact .inr a
    · rw [if_neg h, dedupL_mem ks _ x]
      simp only [List.mem_append, List.mem_cons, List.not_mem_nil, or_false]
      constructor
      · rintro ((a | a) | a)
        · exact .inl a
        · exact .inr (.inl a)
        · exact .inr (.inr a)
      · rintro (a | a | a)
        · exact .inl (.inl a)
        · exact .inl (.inr a)
        · exact .inr a
theorem dedupL_nodup : ∀ (ks acc : List (List Int)), acc.Nodup → (dedupL acc ks).Nodup
  | [], acc, h => by rw [dedupL]; exact h
  | k :: ks, acc, h => by
    rw [dedupL]
    by_cases hk : k ∈ acc
    · rw [if_pos hk]; exact dedupL_nodup ks acc h
    · rw [if_neg hk]
      refine dedupL_nodup ks _ (List.nodup_append.mpr ⟨h, by simp, fun a ha b hb => ?_⟩)
      have : b = k := by simpa using hb
      subst this
      exact fun z => hk (z ▸ ha)
abbrev BB : Int := 1000000
theorem ltb_code : ∀ a b : List Int, a.length = b.length → TS.Bd BB a → TS.Bd BB b → ltbs (a.map .int) (b.map .int) = decide (TS.code BB a < TS.code BB b)
  | [], [], _, _, _ => by simp [ltbs, TS.code]
  | x :: a, y :: b, hl, h1, h2 => by
    have hl' : a.length = b.length := Nat.succ.inj hl
    rw [List.map_cons, List.map_cons, ltbs, eqb]
    by_cases h : x = y
    · subst h
      rw [beq_self_eq_true, if_pos rfl, ltb_code a b hl' h1.tail h2.tail]
      exact decide_eq_decide.mpr (TS.code_same hl').symm
    · rw [beq_eq_false_iff_ne.mpr h, if_neg Bool.false_ne_true, ltb]
      rcases Int.lt_trichotomy x y with c | c | c
      · rw [decide_eq_true c, decide_eq_true (TS.code_lt hl' h1.tail h2.tail c)]
      · exact absurd c h
      · rw [decide_eq_false (by omega), decide_eq_false (by have := TS.code_lt hl'.symm h2.tail h1.tail c; omega)]
theorem code_inj : ∀ a b : List Int, a.length = b.length → TS.Bd BB a → TS.Bd BB b → TS.code BB a = TS.code BB b → a = b
  | [], [], _, _, _, _ => rfl
  | x :: a, y :: b, hl, h1, h2, he => by
    have hl' : a.length = b.length := Nat.succ.inj hl
    rcases Int.lt_trichotomy x y with c | c | c
    · have := TS.code_lt hl' h1.tail h2.tail c; omega
    · subst c
      have : TS.code BB a = TS.code BB b := by
        have e1 : TS.code BB (x :: a) = x * BB ^ a.length + TS.code BB a := rfl
        have e2 : TS.code BB (x :: b) = x * BB ^ b.length + TS.code BB b := rfl
        rw [e1, e2, hl'] at he
        omega
      rw [code_inj a b hl' h1.tail h2.tail this]
    · have := TS.code_lt hl'.symm h2.tail h1.tail c; omega
def insC (x : List Int) : List (List Int) → List (List Int)
  | [] => [x]
  | y :: ys => if TS.code BB y < TS.code BB x then y :: insC x ys else x :: y :: ys
def isortC : List (List Int) → List (List Int)
  | [] => []
  | x :: xs => insC x (isortC xs)
def Good (d : Nat) (k : List Int) : Prop := k.length = d ∧ TS.Bd BB k
theorem insC_mem (x : List Int) : ∀ (l : List (List Int)) (y : List Int), y ∈ insC x l ↔ y = x ∨ y ∈ l
  | [], y => by simp [insC]
  | z :: l, y => by
    rw [insC]
    split
    · rw [List.mem_cons, insC_mem x l y, List.mem_cons]
      constructor
      · rintro (a | a | a)
        · exact .inr (.inl a)
        · exact .inl a
        · exact .inr (.inr a)
      · rintro (a | a | a)
        · exact .inr (.inl a)
        · exact .inl a
        · exact .inr (.inr a)
    · rw [List.mem_cons]
theorem isortC_mem : ∀ (l : List (List Int)) (y : List Int), y ∈ isortC l ↔ y ∈ l
  | [], y => by simp [isortC]
  | x :: l, y => by rw [isortC, insC_mem, isortC_mem l y, List.mem_cons]
theorem insC_perm (x : List Int) : ∀ l : List (List Int), (insC x l).Perm (x :: l)
  | [] => .refl _
  | z :: l => by
    rw [insC]
    split
    · exact ((insC_perm x l).cons z).trans (List.Perm.swap x z l)
    · exact .refl _
theorem isortC_perm : ∀ l : List (List Int), (isortC l).Perm l
  | [] => .refl _
  | x :: l => (insC_perm x (isortC l)).trans ((isortC_perm l).cons x)
theorem insC_sorted (x : List Int) : ∀ l : List (List Int), l.Pairwise (fun a b => TS.code BB a ≤ TS.code BB b) → (insC x l).Pairwise fun a b => TS.code BB a ≤ TS.code BB b
  | [], _ => by rw [insC]; exact List.pairwise_singleton ..
  | z :: l, h => by
    rw [insC]
    rw [List.pairwise_cons] at h
    split
    · rename_i hlt
      refine List.pairwise_cons.mpr ⟨fun y hy => ?_, insC_sorted x l h.2⟩
      rcases (insC_mem x l y).mp hy with rfl | hy
      · omega
      · exact h.1 y hy
    · rename_i hge
      refine List.pairwise_cons.mpr ⟨fun y hy => ?_, List.pairwise_cons.mpr h⟩
      rcases List.mem_cons.mp hy with rfl | hy
      · omega
      · have := h.1 y hy; omega
theorem isortC_sorted : ∀ l : List (List Int), (isortC l).Pairwise fun a b => TS.code BB a ≤ TS.code BB b
  | [] => List.Pairwise.nil
  | x :: l => insC_sorted x _ (isortC_sorted l)
theorem insD_enc {d : Nat} (x : List Int) (hx : Good d x) : ∀ l : List (List Int), (∀ y ∈ l, Good d y) → insD (encT x) (l.map encT) = (insC x l).map encT
  | [], _ => rfl
  | y :: l, h => by
    have hy := h y List.mem_cons_self
    rw [List.map_cons, insD, insC]
    have e : ltb (encT y) (encT x) = decide (TS.code BB y < TS.code BB x) := by
      rw [ltb]
      exact ltb_code y x (by rw [hy.1, hx.1]) hy.2 hx.2
    rw [e]
    by_cases c : TS.code BB y < TS.code BB x
    · rw [decide_eq_true c, if_pos rfl, if_pos c, List.map_cons, insD_enc x hx l fun z m => h z (List.mem_cons_of_mem _ m)]
    · rw [decide_eq_false c, if_neg Bool.false_ne_true, if_neg c]; rfl
theorem isortD_enc {d : Nat} : ∀ l : List (List Int), (∀ y ∈ l, Good d y) → isortD (l.map encT) = (isortC l).map encT
  | [], _ => rfl
  | x :: l, h => by
    rw [List.map_cons, isortD, isortC, isortD_enc l fun z m => h z (List.mem_cons_of_mem _ m)]
    exact insD_enc x (h x List.mem_cons_self) _ fun y m => h y (List.mem_cons_of_mem _ ((isortC_mem l y).mp m))
theorem sub_len {α : Type} [DecidableEq α] : ∀ {l m : List α}, l.Nodup → (∀ x ∈ l, x ∈ m) → l.length ≤ m.length
  | [], m, _, _ => Nat.zero_le _
  | x :: l, m, nd, h => by
    rw [List.nodup_cons] at nd
    have hx := h x List.mem_cons_self
    have := sub_len (l := l) (m := m.erase x) nd.2 fun y hy => (List.mem_erase_of_ne (fun (e : y = x) => nd.1 (by rw [← e]; exact hy))).mpr (h y (List.mem_cons_of_mem _ hy))
    rw [List.length_erase_of_mem hx] at this
    have hp : 0 < m.length := List.length_pos_of_mem hx
    rw [List.length_cons]
    omega
theorem rep_tup {Δ : Nm} {F : Hp} {v : V} {ds : List D} (h : Rep Δ F v (.tup ds)) : ∃ a vs, v = .ref a ∧ SqT Δ.K F a vs ∧ Reps Δ F vs ds := by
  cases h with
  | tup h1 h2 => exact ⟨_, _, rfl, .inl (.inl h1), h2⟩
theorem ints_map : ∀ ns : List Int, ints? (ns.map D.int) = some ns
  | [] => rfl
  | n :: ns => by rw [List.map_cons, ints?, ints_map ns]; rfl
/-- items that are tuples of d ints, as the library has them -/
theorem keys_of {Δ : Nm} {F H : Hp} (sub : Sub F H) {d : Nat} : ∀ {vs : List V} {ds : List D}, Reps Δ F vs ds → ds.all (tupOf d) = true →
    ∃ ks : List (Addr × List Int), vs = ks.map (fun p => V.ref p.1) ∧ ds = (ks.map (·.2)).map encT ∧ ∀ p ∈ ks, SqT Δ.K H p.1 (p.2.map V.int) ∧ Good d p.2 ∧ Rep Δ F (.ref p.1) (encT p.2)
  | _, _, .nil, _ => ⟨[], rfl, rfl, fun p h => by cases h⟩
  | _, _, .cons (v := v) (d := x) r t, h => by
    rw [List.all_cons, Bool.and_eq_true] at h
    obtain ⟨ks, e1, e2, e3⟩ := keys_of sub t h.2
    cases r with
    | @tup a vs xs h1 h2 =>
      rw [tupOf, Bool.and_eq_true, beq_iff_eq] at h
      obtain ⟨⟨hlen, hall⟩, _⟩ := h
      have key : ∀ {vs : List V} {xs : List D}, Reps Δ F vs xs → (xs.all fun x => match x with
          | .int i => decide (0 ≤ i) && decide (i < 1000000)
          | _ => false) = true → ∃ ns : List Int, vs = ns.map V.int ∧ xs = ns.map D.int ∧ TS.Bd BB ns := by
        intro vs xs r
        induction xs generalizing vs with
        | nil => intro _; cases r; exact ⟨[], rfl, rfl, fun m h => by cases h⟩
        | cons x xs ih =>
          intro h
          cases r with
          | cons r1 r2 =>
            rw [List.all_cons, Bool.and_eq_true] at h
            obtain ⟨ns, q1, q2, q3⟩ := ih r2 h.2
            cases r1 <;> first | exact absurd h.1 Bool.false_ne_true | skip
            rename_i i
            have hb : 0 ≤ i ∧ i < 1000000 := by simpa using h.1
            refine ⟨i :: ns, by rw [q1]; rfl, by rw [q2]; rfl, fun m hm => ?_⟩
            rcases List.mem_cons.mp hm with rfl | hm
            · exact hb
            · exact q3 m hm
      obtain ⟨ns, q1, q2, q3⟩ := key h2 hall
      refine ⟨(a, ns) :: ks, by rw [e1]; rfl, by rw [e2, q2]; rfl, fun p hp => ?_⟩
      rcases List.mem_cons.mp hp with rfl | hp
      · refine ⟨.inl (.inl (q1 ▸ sub.tup h1)), ⟨by rw [← hlen, q2, List.length_map], q3⟩, ?_⟩
        have := Rep.tup h1 h2
        rw [q2] at this
        exact this
      · exact e3 p hp
    | _ => exact absurd h.1 (by simp [tupOf])
section
variable {X : Cx} {Δ : Nm} {Γ : Ctx} {pos pos2 p p2 : Pos} {e : Expr} {e' : E}
theorem s_sset (hK : X.K = Δ.K) (hc : X.calm = true) (hu : X.A.units + 70 < cLine) (hg : Gl X "sorted") (hm : X.mg "sorted" = none) (hg2 : Gl X "set") (hm2 : X.mg "set" = none)
    (hs : starEach [e] X.env = (false, eval e X.env) :: starEach [] X.env) (hs2 : starEach [.Call (.Name "set" p2) [e] [] pos2] X.env = (false, eval (.Call (.Name "set" p2) [e] [] pos2) X.env) :: starEach [] X.env) (he : SndE X Δ Γ e e') :
    SndE X Δ Γ (.Call (.Name "sorted" p) [.Call (.Name "set" p2) [e] [] pos2] [] pos) (.bi .sset [e']) := by
  intro τ σ H F g Q hQ
  have e0 : ev Γ (.bi .sset [e']) τ = (ev Γ e' τ).bind fun o σ1 => match vws [o] σ1 with
    | some ds => Res.of ((biD .sset ds).map .c) σ1
    | none => .no := by
    rw [ev, evs, Res.bind_bind]
    refine Res.bind_congr fun o σ1 => ?_
    rw [evs]
    rfl
  rw [e0] at hQ
  refine wpE_of (pe_callB (cr_sortedT hc) hg hm bt_sorted (pa_cons (pe_callTy (cr_setX hc hu) hg2 hm2 bt_set (pa_cons (pe0 e) pa_nil hs) (he := hs)) pa_nil hs2) (he := hs2)) ?_
  refine he.bind GE.shift g hQ fun o τ1 v H1 F1 p1 r1 hQ => ?_
  have hQ : PostG X Δ (GE Δ Q) τ1 σ H1 F1 (match vws [o] τ1 with
    | some ds => Res.of ((biD .sset ds).map .c) τ1
    | none => .no) := hQ
  rw [vws, vws] at hQ
  cases e1 : vw o τ1 with
  | none => rw [e1] at hQ; exact hQ.elim
  | some d =>
    rw [e1] at hQ
    have vv := r1.view p1.ag e1
    -- the row
    have row : ∀ ds, seq? d = some ds → ∃ k a vs, v = .ref a ∧ SqX k X.K H1 a vs ∧ Reps Δ F1 vs ds := fun ds hd => by
      cases d with
      | tup xs =>
        cases hd
        obtain ⟨a, vs, rfl, h1, h2, _⟩ := vv.tup p1.ag.sub
        exact ⟨true, a, vs, rfl, hK ▸ h1, h2⟩
      | lst xs =>
        cases hd
        obtain ⟨a, vs, rfl, h1, h2⟩ := vv.lst p1.ag.sub
        exact ⟨false, a, vs, rfl, .inl h1, h2⟩
      | _ => cases hd
    have main : ∀ ds, seq? d = some ds → PostG X Δ (GE Δ Q) τ1 σ H1 F1 (Res.of (((ssetD ds).map C.ol).map .c) τ1) → rSetX X.K X.prog X.w [v] H1 fun y H2 => rSortedT X.K X.prog X.w [y] H2 Q := fun ds hd hQ => by
      obtain ⟨k, a, vs, rfl, h1, h2⟩ := row ds hd
      cases e3 : ssetD ds with
      | none => rw [e3] at hQ; exact hQ.elim
      | some out =>
        rw [e3] at hQ
        unfold ssetD at e3
        obtain ⟨hok, e3⟩ := some_if e3
        simp only [Bool.and_eq_true, decide_eq_true_eq] at hok
        obtain ⟨⟨hd1, hall⟩, hfew⟩ := hok
        obtain ⟨ks, rfl, hds, hks⟩ := keys_of p1.ag.sub h2 hall
        have hded : dedup [] ds = (dedupL [] (ks.map (·.2))).map encT := by
          rw [hds]; exact dedup_enc (ks.map (·.2)) []
        have hlen : (dedup [] ds).length = (dedupL [] (ks.map (·.2))).length := by rw [hded, List.length_map]
        have nd := dedupL_nodup (ks.map (·.2)) [] List.nodup_nil
        have mem : ∀ x, x ∈ dedupL [] (ks.map (·.2)) ↔ x ∈ ks.map (·.2) := fun x => by rw [dedupL_mem]; simp
        have few : Few ks := fun L hn hL => by
          have : (L.map (·.2)).length ≤ (dedupL [] (ks.map (·.2))).length := by
            refine sub_len hn fun x hx => ?_
            obtain ⟨q, hq, rfl⟩ := List.mem_map.mp hx
            exact (mem _).mpr (List.mem_map.mpr ⟨q, hL q hq, rfl⟩)
          rw [List.length_map] at this
          omega
        refine ⟨k, a, ks, rfl, h1, fun q hq => hK ▸ (hks q hq).1, few, fun sa L hsa hL hL2 => ?_⟩
        have sub2 : Sub F1 (upd H1 sa (SetTO X.prog X.w sa L)) := p1.ag.sub.write (p1.ag.sub.free hsa)
        refine ⟨sa, L, tupLen ds, BB, rfl, upd_same, fun q hq => ?_, hd1, fun q hq => ⟨(hks q (hL q hq)).2.1.1, (hks q (hL q hq)).2.1.2⟩, fun L' lp pm nd' _ pw hlp => ?_⟩
        · obtain ⟨b, us, eb, z1, z2⟩ := rep_tup (hks q (hL q hq)).2.2
          have e := reps_ints z2 (ints_map q.2)
          cases eb
          rw [← e, hK]
          exact sub2.sqT z1
        · -- the same list
          have memL : ∀ q ∈ L', q ∈ ks := fun q hq => hL q (pm.mem_iff.mp hq)
          have eqv : L'.map (·.2) = isortC (dedupL [] (ks.map (·.2))) := by
            refine List.Perm.eq_of_pairwise (le := fun a b => TS.code BB a ≤ TS.code BB b) (fun x y hx hy h1 h2 => ?_) ?_ (isortC_sorted _) ?_
            · obtain ⟨q, hq, rfl⟩ := List.mem_map.mp hx
              have hy2 := (mem y).mp ((isortC_mem _ y).mp hy)
              obtain ⟨q2, hq2, rfl⟩ := List.mem_map.mp hy2
              have g1 := (hks q (memL q hq)).2.1
              have g2 := (hks q2 hq2).2.1
              exact code_inj _ _ (by rw [g1.1, g2.1]) g1.2 g2.2 (by omega)
            · rw [List.pairwise_map]; exact pw
            · refine ((List.perm_ext_iff_of_nodup nd' nd).mpr fun x => ?_).trans (isortC_perm _).symm
              rw [mem]
              constructor
              · intro hx
                obtain ⟨q, hq, rfl⟩ := List.mem_map.mp hx
                exact List.mem_map.mpr ⟨q, memL q hq, rfl⟩
              · intro hx
                obtain ⟨q, hq, rfl⟩ := List.mem_map.mp hx
                exact (pm.map (·.2)).mem_iff.mpr (hL2 q hq)
          have hout : out = (L'.map (·.2)).map encT := by
            rw [← e3, hded, eqv]
            exact isortD_enc (d := tupLen ds) _ fun y hy => by
              obtain ⟨q, hq, rfl⟩ := List.mem_map.mp ((mem y).mp hy)
              exact (hks q hq).2.1
          have reps : Reps Δ F1 (L'.map fun q => V.ref q.1) out := by
            rw [hout]
            have : ∀ L' : List (Addr × List Int), (∀ q ∈ L', q ∈ ks) → Reps Δ F1 (L'.map fun q => V.ref q.1) ((L'.map (·.2)).map encT) := by
              intro L'
              induction L' with
              | nil => intro _; exact .nil
              | cons q L' ih => intro h; exact .cons (hks q (h q List.mem_cons_self)).2.2 (ih fun z m => h z (List.mem_cons_of_mem _ m))
            exact this L' memL
          have pS : Post Δ τ1 τ1 σ H1 F1 (upd H1 sa (SetTO X.prog X.w sa L)) F1 := by
            refine ⟨p1.ag.laid hsa, Ext.refl F1, fun b u e _ => ?_, fun b u e n => (by rw [n] at e; cases e), fun i y e o => ⟨y, e, o⟩, fun b u e => ?_⟩
            · rw [upd_ne (ne_of_none e hsa)]; exact e
            · exact ⟨u, by rw [upd_ne (ne_of_none e hsa)]; exact e⟩
          exact made_end pS hQ _ _ _ (.lst hlp reps)
    refine (fun z => z : rSetX X.K X.prog X.w [v] H1 (fun y H2 => rSortedT X.K X.prog X.w [y] H2 Q) → _) ?_
    cases d with
    | tup xs => exact main xs rfl hQ
    | lst xs => exact main xs rfl hQ
    | _ => exact hQ.elim
end
end CL

set_option autoImplicit false
set_option linter.all false
set_option Elab.async false
set_option maxRecDepth 100000
set_option maxHeartbeats 1600000
/-! CLSo: sorted of lists and dicts: ints, or tuples of ints of one length. -/
namespace L2
open PySem PySem.Spec PyProof.Rows
section
variable {X : Cx}
/-- sorted(d), fewer than 64 keys, all tuples of n ints in [0, B) -/
theorem call_sortedDT (hcalm : X.calm = true) {n : Nat} {B : Int} (hn1 : 1 ≤ n) : CallR X (.builtin "sorted") (fun xs H Q => ∃ (a : Addr) (kvs : List (List Key × V)) (ns : List (List Int)), xs = [V.ref a] ∧ Rd H a (.dT kvs) ∧ kvs.map (·.1) = ns.map (fun m => m.map Sum.inl) ∧ kvs.length < 64 ∧ (∀ m ∈ ns, m.length = n ∧ TS.Bd B m) ∧
    ∀ (L : List (Addr × List Int)) (p : Addr), (L.map (·.2)).Perm ns → (∀ q ∈ L, H q.1 = some (.tup (q.2.map V.int))) → L.Pairwise (fun q r => TS.code B q.2 ≤ TS.code B r.2) → H p = none → Q (.ref p) (upd H p (.lst (L.map fun q => V.ref q.1)))) := by
  intro pins s σ H xs us Q I r q
  obtain ⟨a, kvs, ns, rfl, hd, hks, h64, hns, q⟩ := q
  obtain ⟨u, rfl, rx⟩ := vals1 r
  cases rx
  obtain ⟨z, lo, ts, rel, dd⟩ := dt_rd I.hok hd
  obtain ⟨es, ep, hraw, hsz, ent⟩ := Heap.DictOfH.raw dd
  have hlen : kvs.length = ts.length := Paired.length rel
  have hlen2 : kvs.length = ns.length := by
    have e := congrArg List.length hks
    rw [List.length_map, List.length_map] at e
    exact e
  have h16 : es.size ≤ sizeLine := by rw [hsz, ← hlen, sizeLine_eq]; omega
  -- the keys with their tuples
  have rows : ∃ L0 : List (Addr × List Int), L0.map (·.2) = ns ∧ (∀ q ∈ L0, H q.1 = some (.tup (q.2.map V.int))) ∧ L0.map (·.1) = ts.map (fun x => x.2.1) := by
    clear q h64 hns hlen hlen2 h16 hsz ent z
    clear dd hd
    induction rel generalizing ns with
    | nil =>
      cases ns with
      | nil => exact ⟨[], rfl, (fun q m => by cases m), rfl⟩
      | cons m ns => simp at hks
    | @cons p x ps xs h t ih =>
      cases ns with
      | nil => simp at hks
      | cons m ns =>
        rw [List.map_cons, List.map_cons] at hks
        injection hks with k1 k2
        obtain ⟨L0, e1, e2, e3⟩ := ih ns k2
        refine ⟨(x.2.1, m) :: L0, by rw [List.map_cons, e1], fun q hq => ?_, by rw [List.map_cons, List.map_cons, e3]⟩
        rcases List.mem_cons.mp hq with rfl | hq
        · have := h.2.1
          rw [k1, List.map_map] at this
          exact this
        · exact e2 q hq
  obtain ⟨L0, eL1, eL2, eL3⟩ := rows
  refine Calls.call_function_entry PyProof.Rows.kind_sorted PyProof.Rows.plain_sorted PyProof.Rows.entry_sorted (PyProof.Rows.args_sorted1 _) ?_
  unfold Builtin.«sorted»
  refine wpAny_bind (m := checkCount "sorted" 1 1 _) (wpAny_pure ?_)
  refine wpAny_bind (PySem.W.kdu_collect (A := X.A.in1) (PySem.KdlSrc.rawDict (es := es) (ep := ep) lo) (I.ok.hd hcalm) hraw h16 fun h' tk acc hk hacc => ?_)
  have hal : acc.toList = L0.map fun q => Value.ref q.1 := by
    apply List.ext_getElem?
    intro i
    have hL : L0.length = ts.length := by
      have e := congrArg List.length eL3
      rw [List.length_map, List.length_map] at e
      exact e
    by_cases hi : i < acc.size
    · have e1 : acc.toList[i]? = some acc[i] := by simp [hi]
      obtain ⟨hi2, e2⟩ := hacc.2 i acc[i] (by simp [hi])
      obtain ⟨y, h1, h2, _⟩ := ent i hi2
      rw [e1, e2, h2, List.getElem?_map]
      have e3 : (L0.map (·.1))[i]? = some y.2.1 := by rw [eL3, List.getElem?_map, h1]; rfl
      rw [List.getElem?_map] at e3
      cases e4 : L0[i]? with
      | none => rw [e4] at e3; cases e3
      | some q =>
        rw [e4] at e3
        have e5 : q.1 = y.2.1 := Option.some.inj e3
        show some (Value.ref y.2.1) = some (Value.ref q.1)
        rw [e5]
    · rw [List.getElem?_eq_none (by simpa using hi), List.getElem?_eq_none]
      rw [List.length_map, hL, ← hsz]
      have := hacc.1
      omega
  have hlen3 : acc.toList.length = kvs.length := by
    rw [hal, List.length_map, hlen2, ← eL1, List.length_map]
  have I1 : Inv X pins σ H { s with heap := h', toks := tk } := I.kept hk
  refine wpAny_bind (wpAny_newList ?_ (by rw [hlen3, sizeLine_eq]; omega))
  have hoL : (h'.push (seqObj "list" acc.toList.toArray 0)).get? h'.objs.size = some (seqObj "list" acc.toList.toArray 0) := Heap.get?_push_size _ rfl
  show wpAny _ _ _ _ _ { s with heap := h'.push (seqObj "list" acc.toList.toArray 0), toks := tk }
  have tupI : ∀ v ∈ acc.toList, ∃ q ∈ L0, v = Value.ref q.1 ∧ TS.TupInts (h'.push (seqObj "list" acc.toList.toArray 0)) v q.2 := fun v hv => by
    rw [hal] at hv
    obtain ⟨q, hq, rfl⟩ := List.mem_map.mp hv
    refine ⟨q, hq, rfl, ?_⟩
    have t0 := tupI_raw I1 (.inl (.inl (eL2 q hq)))
    exact t0.keeps fun b o e _ => Heap.get?_push_of_some _ e
  have okT : TS.TupsOk (h'.push (seqObj "list" acc.toList.toArray 0)) n B acc.toList := fun v hv => by
    obtain ⟨q, hq, _, t⟩ := tupI v hv
    have := hns q.2 (by rw [← eL1]; exact List.mem_map.mpr ⟨q, hq, rfl⟩)
    exact ⟨q.2, t, this.1, this.2⟩
  refine wpAny_bind (wpAny_holding (wpAny_call_entry PyProof.Rows.slot_list_sort ⟨_, hoL, rfl⟩ PyProof.Rows.entry_list_sort
    (TS.sort_tups (s := { s with heap := h'.push (seqObj "list" acc.toList.toArray 0), toks := tk }) hoL (by rw [hlen3]; exact h64) hn1 okT (fun v => TS.code B (TS.intsOf (h'.push (seqObj "list" acc.toList.toArray 0)) v)) (fun v _ ns t => by
      show TS.code B (TS.intsOf _ v) = TS.code B ns
      rw [t.ints]) fun out g1 g2 => ⟨_, rfl, ?_⟩) (PyProof.Rows.args_list_sort _)))
  obtain ⟨e', he'⟩ := PyProof.Rows.sortedHeap_at (vs := acc.toList) (out := out) hoL
  rw [hal] at g1
  obtain ⟨L, pL, eL⟩ := perm_lift (fun q : Addr × List Int => Value.ref q.1) g1 L0 rfl
  have hz : (L.map fun q => V.ref q.1).length ≤ sizeLine := by
    rw [List.length_map, pL.length_eq, ← List.length_map (f := (·.2)), eL1, ← hlen2, sizeLine_eq]
    omega
  have hv : Vals (L.map fun q => V.ref q.1) out.toList := by rw [← eL]; exact vals_of_refs L
  refine wpAny_pure ⟨_, rfl, .ref h'.objs.size, upd H h'.objs.size (.lst (L.map fun q => V.ref q.1)), I1.laid (t' := tk) (fun b u e => ?_) (Nat.le_refl _)
    (show ObjOk X.prog X.w _ _ _ (.lst (L.map fun q => V.ref q.1)) from ⟨hz, out.toList, e', hv, by rw [Array.toArray_toList]; exact he'⟩), rfl, q L _ ?_ (fun q hq => eL2 q (pL.mem_iff.mp hq)) ?_ (I1.hok.fresh (Nat.le_refl _))⟩
  · have hb : b < h'.objs.size := Heap.lt_size e
    rw [PyProof.Rows.sortedHeap_old (Nat.ne_of_lt hb) (by rw [size_push']; exact Nat.lt_succ_of_lt hb)]
    exact Heap.get?_push_of_some _ e
  · rw [← eL1]
    exact pL.map _
  · rw [← eL, List.pairwise_map] at g2
    refine List.Pairwise.imp_of_mem (fun {x y} hx hy hxy => ?_) g2
    have key : ∀ x ∈ L, TS.intsOf (h'.push (seqObj "list" acc.toList.toArray 0)) (Value.ref x.1) = x.2 := fun x hx => by
      have t0 := tupI_raw I1 (.inl (.inl (eL2 x (pL.mem_iff.mp hx))))
      exact (t0.keeps (h' := h'.push (seqObj "list" acc.toList.toArray 0)) fun b o e _ => Heap.get?_push_of_some _ e).ints
    have k1 := key x hx
    have k2 := key y hy
    simp only [k1, k2] at hxy
    exact hxy
end
end L2
namespace CL
open PySem PySem.Spec PyProof.Rows L2
theorem some_if' {α : Type} {c : Prop} [Decidable c] {o : Option α} {b : α} (h : (if c then o else none) = some b) : c ∧ o = some b := by
  by_cases hc : c
  · rw [if_pos hc] at h; exact ⟨hc, h⟩
  · rw [if_neg hc] at h; cases h
def insI (x : Int) : List Int → List Int
  | [] => [x]
  | y :: ys => if y < x then y :: insI x ys else x :: y :: ys
def isortI : List Int → List Int
  | [] => []
  | x :: xs => insI x (isortI xs)
theorem insI_perm (x : Int) : ∀ l : List Int, (insI x l).Perm (x :: l)
  | [] => List.Perm.refl _
  | y :: l => by
    rw [insI]
    split
    · exact ((insI_perm x l).cons y).trans (List.Perm.swap x y l)
    · exact List.Perm.refl _
theorem isortI_perm : ∀ l : List Int, (isortI l).Perm l
  | [] => List.Perm.refl _
  | x :: l => (insI_perm x _).trans ((isortI_perm l).cons x)
theorem insI_sorted (x : Int) : ∀ l : List Int, l.Pairwise (· ≤ ·) → (insI x l).Pairwise (· ≤ ·)
  | [], _ => List.pairwise_singleton ..
  | y :: l, h => by
    rw [insI]
    have h' := List.pairwise_cons.mp h
    split
    · refine List.pairwise_cons.mpr ⟨fun z hz => ?_, insI_sorted x l h'.2⟩
      rcases List.mem_cons.mp ((insI_perm x l).mem_iff.mp hz) with rfl | hz
      · omega
      · exact h'.1 z hz
    · refine List.pairwise_cons.mpr ⟨fun z hz => ?_, h⟩
      rcases List.mem_cons.mp hz with rfl | hz
      · omega
      · have := h'.1 z hz; omega
theorem isortI_sorted : ∀ l : List Int, (isortI l).Pairwise (· ≤ ·)
  | [] => List.Pairwise.nil
  | x :: l => insI_sorted x _ (isortI_sorted l)
theorem insD_int (x : Int) : ∀ l : List Int, insD (.int x) (l.map .int) = (insI x l).map .int
  | [] => rfl
  | y :: l => by
    rw [List.map_cons, insD, insI]
    have e : ltb (.int y) (.int x) = decide (y < x) := by rw [ltb]
    rw [e]
    by_cases c : y < x
    · rw [decide_eq_true c, if_pos rfl, if_pos c, List.map_cons, insD_int x l]
    · rw [decide_eq_false c, if_neg Bool.false_ne_true, if_neg c]; rfl
theorem isortD_int : ∀ l : List Int, isortD (l.map .int) = (isortI l).map .int
  | [] => rfl
  | x :: l => by
    rw [List.map_cons, isortD, isortI, isortD_int l, insD_int]
theorem sorted_is {l m : List Int} (p : m.Perm l) (h : m.Pairwise (· ≤ ·)) : m = isortI l :=
  List.Perm.eq_of_pairwise (le := fun a b : Int => a ≤ b) (fun x y _ _ h1 h2 => by omega) h (isortI_sorted l) (p.trans (isortI_perm l).symm)
theorem all_ints : ∀ ds : List D, ds.all isInt = true → ∃ ns : List Int, ds = ns.map .int
  | [], _ => ⟨[], rfl⟩
  | d :: ds, h => by
    rw [List.all_cons, Bool.and_eq_true] at h
    obtain ⟨ns, e⟩ := all_ints ds h.2
    cases d <;> first | (have := h.1; cases this; done) | skip
    rename_i i
    exact ⟨i :: ns, by rw [e]; rfl⟩
section
variable {Δ : Nm} {F H : Hp}
/-- sorted's reading -/
def rSo (Δ : Nm) : List V → Hp → VK → Prop := fun vs H Q => ∃ F d out, Sub F H ∧ Paired (View Δ F H) vs [d] ∧ biD .sorted [d] = some (.ol out) ∧ ∀ v H' F', Made Δ F H (.ol out) v H' F' → Q v H'
theorem keys_ints : ∀ {ks : List (Key × V)} {kvs : List (D × D)} {ns : List Int}, RepKs Δ F ks kvs → kvs.map (·.1) = ns.map D.int → ks.map (·.1) = ns.map Sum.inl
  | _, _, [], .nil, _ => rfl
  | _, _, _ :: _, .nil, h => by simp at h
  | _, _, [], .cons _ _, h => by simp at h
  | _, _, n :: ns, .cons (k := k) h r, e => by
    rw [List.map_cons, List.map_cons] at e
    injection e with e1 e2
    rw [List.map_cons, List.map_cons, keys_ints r e2]
    cases k with
    | inl i => cases e1; rfl
    | inr s => cases e1
theorem keyT_ints : ∀ {k : List Key} {m : List Int}, keyT k = encT m → k = m.map Sum.inl := by
  intro k
  induction k with
  | nil =>
    intro m e
    cases m with
    | nil => rfl
    | cons i m => cases e
  | cons x k ih =>
    intro m e
    cases m with
    | nil => cases e
    | cons i m =>
      have e' : keyD x :: k.map keyD = .int i :: m.map .int := D.tup.inj e
      injection e' with e1 e2
      rw [List.map_cons, ih (m := m) (congrArg D.tup e2)]
      cases x with
      | inl j => cases e1; rfl
      | inr s => cases e1
theorem keysT_ints : ∀ {ks : List (List Key × V)} {kvs : List (D × D)} {ns : List (List Int)}, RepTs Δ F ks kvs → kvs.map (·.1) = ns.map encT → ks.map (·.1) = ns.map (fun m => m.map Sum.inl)
  | _, _, [], .nil, _ => rfl
  | _, _, _ :: _, .nil, h => by simp at h
  | _, _, [], .cons _ _, h => by simp at h
  | _, _, n :: ns, .cons (k := k) h r, e => by
    rw [List.map_cons, List.map_cons] at e
    injection e with e1 e2
    rw [List.map_cons, List.map_cons, keysT_ints r e2, keyT_ints e1]
theorem all_tups {d : Nat} : ∀ ds : List D, ds.all (tupOf d) = true → ∃ ns : List (List Int), ds = ns.map encT ∧ ∀ n ∈ ns, Good d n
  | [], _ => ⟨[], rfl, fun n m => by cases m⟩
  | x :: ds, h => by
    rw [List.all_cons, Bool.and_eq_true] at h
    obtain ⟨ns, e, g⟩ := all_tups ds h.2
    cases x with
    | tup xs =>
      have h1 := h.1
      rw [tupOf, Bool.and_eq_true, beq_iff_eq] at h1
      obtain ⟨hlen, hall⟩ := h1
      have key : ∀ xs : List D, (xs.all fun x => match x with
          | .int i => decide (0 ≤ i) && decide (i < 1000000)
          | _ => false) = true → ∃ ns : List Int, xs = ns.map D.int ∧ TS.Bd BB ns := by
        intro xs
        induction xs with
        | nil => intro _; exact ⟨[], rfl, fun m h => by cases h⟩
        | cons x xs ih =>
          intro h
          rw [List.all_cons, Bool.and_eq_true] at h
          obtain ⟨ns, q2, q3⟩ := ih h.2
          cases x <;> first | exact absurd h.1 Bool.false_ne_true | skip
          rename_i i
          have hb : 0 ≤ i ∧ i < 1000000 := by simpa using h.1
          refine ⟨i :: ns, by rw [q2]; rfl, fun m hm => ?_⟩
          rcases List.mem_cons.mp hm with rfl | hm
          · exact hb
          · exact q3 m hm
      obtain ⟨m, e2, g2⟩ := key xs hall
      refine ⟨m :: ns, by rw [e, e2]; rfl, fun n hn => ?_⟩
      rcases List.mem_cons.mp hn with rfl | hn
      · exact ⟨by rw [← hlen, e2, List.length_map], g2⟩
      · exact g n hn
    | _ => exact absurd h.1 (by simp [tupOf])
theorem codes_is {d : Nat} {l m : List (List Int)} (p : m.Perm l) (hg : ∀ n ∈ l, Good d n) (h : m.Pairwise fun a b => TS.code BB a ≤ TS.code BB b) : m = isortC l :=
  List.Perm.eq_of_pairwise (le := fun a b : List Int => TS.code BB a ≤ TS.code BB b) (fun x y hx hy h1 h2 => by
    have gx := hg x (p.mem_iff.mp hx)
    have gy := hg y ((isortC_mem _ y).mp hy)
    exact code_inj x y (by rw [gx.1, gy.1]) gx.2 gy.2 (by omega)) h (isortC_sorted l) (p.trans (isortC_perm l).symm)
end
theorem tup_reps {Δ : Nm} {F1 : Hp} : ∀ (L : List (Addr × List Int)), (∀ q ∈ L, F1 q.1 = some (.tup (q.2.map V.int))) → Reps Δ F1 (L.map fun q => V.ref q.1) ((L.map (·.2)).map encT)
  | [], _ => .nil
  | q :: L, h => .cons (.tup (h q List.mem_cons_self) (reps_of_ints q.2)) (tup_reps L fun r m => h r (List.mem_cons_of_mem _ m))
theorem cr_so {X : Cx} {Δ : Nm} (hK : X.K = Δ.K) (hc : X.calm = true) : CallR X (.builtin "sorted") (rSo Δ) := by
  intro pins s σ H vs us Q I rs h
  obtain ⟨F, d, out, sub, hv, hb, q⟩ := h
  obtain ⟨v, rfl, w⟩ := pd1 hv
  cases d with
  | lst ds =>
    simp only [biD] at hb
    obtain ⟨a, xs, rfl, h1, h2⟩ := w.lst sub
    obtain ⟨o2, hs, e⟩ := map_some hb
    cases e
    unfold sortV at hs
    by_cases hi : ds.all isInt = true
    · rw [if_pos hi] at hs
      cases hs
      obtain ⟨ns, rfl⟩ := all_ints ds hi
      rw [isortD_int] at q
      have ex := reps_ints h2 (ints_map ns)
      subst ex
      refine cr_sortedI pins s σ H _ us Q I rs ⟨a, ns, rfl, .inl h1, fun ns' p pm pw hp => ?_⟩
      rw [sorted_is pm pw]
      exact q _ _ _ (.own hp ⟨_, upd_same, reps_of_ints _⟩)
    · rw [if_neg hi] at hs
      obtain ⟨hok, hs⟩ := some_if hs
      subst hs
      simp only [Bool.and_eq_true, decide_eq_true_eq] at hok
      obtain ⟨⟨hd1, hall⟩, h64⟩ := hok
      obtain ⟨ks, rfl, hds, hks⟩ := keys_of sub h2 hall
      refine cr_sortT (d := tupLen ds) (B := BB) hd1 pins s σ H _ us Q I rs ⟨a, _, rfl, .inl h1, by rw [h2.length]; exact h64, fun x hx => ?_, fun ys p pm pw hp => ?_⟩
      · obtain ⟨k, hk, rfl⟩ := List.mem_map.mp hx
        exact ⟨k.2, ⟨k.1, rfl, hK ▸ (hks k hk).1⟩, (hks k hk).2.1.1, (hks k hk).2.1.2⟩
      · obtain ⟨L, pL, eL⟩ := perm_lift (fun p : Addr × List Int => V.ref p.1) pm ks rfl
        subst eL
        rw [List.pairwise_map] at pw
        have pw2 : (L.map (·.2)).Pairwise fun a b => TS.code BB a ≤ TS.code BB b := by
          rw [List.pairwise_map]
          refine List.Pairwise.imp_of_mem (fun {x y} hx hy hxy => ?_) pw
          exact hxy x.2 y.2 ⟨x.1, rfl, hK ▸ (hks x (pL.mem_iff.mp hx)).1⟩ ⟨y.1, rfl, hK ▸ (hks y (pL.mem_iff.mp hy)).1⟩
        have gd : ∀ n ∈ ks.map (·.2), Good (tupLen ds) n := fun n hn => by
          obtain ⟨k, hk, rfl⟩ := List.mem_map.mp hn
          exact (hks k hk).2.1
        have e1 := codes_is (pL.map (·.2)) gd pw2
        have e2 : isortD ds = (L.map (·.2)).map encT := by
          rw [e1, hds]
          exact isortD_enc _ gd
        rw [e2] at q
        have rr : ∀ M : List (Addr × List Int), (∀ k ∈ M, k ∈ ks) → Reps Δ F (M.map fun k => V.ref k.1) ((M.map (·.2)).map encT) := by
          intro M
          induction M with
          | nil => intro _; exact .nil
          | cons k M ih => intro hM; exact .cons (hks k (hM k List.mem_cons_self)).2.2 (ih fun k' m => hM k' (List.mem_cons_of_mem _ m))
        exact q _ _ _ (.own hp ⟨_, upd_same, rr L fun k hk => pL.mem_iff.mp hk⟩)
  | dct t kvs =>
    simp only [biD] at hb
    obtain ⟨h64, hb⟩ := some_if' hb
    obtain ⟨o2, hs, e⟩ := map_some hb
    cases e
    cases t with
    | false =>
      obtain ⟨a, ks, rfl, h1, r⟩ := w.dk sub
      unfold sortV at hs
      by_cases hi : (kvs.map (·.1)).all isInt = true
      · rw [if_pos hi] at hs
        cases hs
        obtain ⟨ns, en⟩ := all_ints _ hi
        rw [en, isortD_int] at q
        have hlen : ns.length = kvs.length := by
          have := congrArg List.length en
          rw [List.length_map, List.length_map] at this
          exact this.symm
        refine call_sortedDI hc pins s σ H _ us Q I rs ⟨a, ks, ns, rfl, h1, keys_ints r en, by rw [hlen]; exact h64, fun ns' p pm pw hp => ?_⟩
        rw [sorted_is pm pw]
        exact q _ _ _ (.own hp ⟨_, upd_same, reps_of_ints _⟩)
      · exfalso
        rw [if_neg hi] at hs
        obtain ⟨hok, _⟩ := some_if hs
        simp only [Bool.and_eq_true, decide_eq_true_eq] at hok
        cases r with
        | nil => exact hi rfl
        | @cons k _ _ _ _ h r =>
          have := hok.1.2
          rw [List.map_cons, List.all_cons, Bool.and_eq_true] at this
          cases k with
          | inl i => have := this.1; simp [keyD, tupOf] at this
          | inr i => have := this.1; simp [keyD, tupOf] at this
    | true =>
      obtain ⟨a, ks, rfl, h1, r⟩ := w.dt sub
      have core : ∀ (n : Nat) (ns : List (List Int)), 1 ≤ n → kvs.map (·.1) = ns.map encT → (∀ m ∈ ns, Good n m) → out = (isortC ns).map encT → wpAny (model X.prog X.w) X.A (call (.builtin "sorted") us) (EP X pins σ Q) X.xe s := fun n ns hn en hg ho => by
        refine call_sortedDT hc (n := n) (B := BB) hn pins s σ H _ us Q I rs ⟨a, ks, ns, rfl, h1, keysT_ints r en, by rw [r.length]; exact h64, fun m hm => hg m hm, fun L p pm hL pw hp => ?_⟩
        have pw2 : (L.map (·.2)).Pairwise fun a b => TS.code BB a ≤ TS.code BB b := by rw [List.pairwise_map]; exact pw
        have e1 := codes_is pm hg pw2
        rw [ho, ← e1] at q
        obtain ⟨F', m, _⟩ := Made.also_all (x := .ol ((L.map (·.2)).map encT)) (v := .ref p) (H' := upd H p (.lst (L.map fun q => V.ref q.1))) (Δ := Δ) (Q := fun _ => True) (L.map fun q => (q.1, q.2.map V.int)) sub (fun q hq => by
          obtain ⟨z, hz, rfl⟩ := List.mem_map.mp hq
          exact hL z hz) fun F1 ex sb all => ⟨F1, .own hp ⟨_, upd_same, tup_reps L fun z hz => all _ (List.mem_map.mpr ⟨z, hz, rfl⟩)⟩, trivial⟩
        exact q _ _ _ m
      unfold sortV at hs
      by_cases hi : (kvs.map (·.1)).all isInt = true
      · rw [if_pos hi] at hs
        cases hs
        cases r with
        | nil => exact core 1 [] (Nat.le_refl _) rfl (fun m hm => by cases hm) rfl
        | cons h r => exact absurd hi (by simp [isInt])
      · rw [if_neg hi] at hs
        obtain ⟨hok, hs⟩ := some_if hs
        simp only [Bool.and_eq_true, decide_eq_true_eq] at hok
        obtain ⟨ns, en, hg⟩ := all_tups _ hok.1.2
        refine core _ ns hok.1.1 en hg ?_
        rw [← hs]
        conv => lhs; rw [en]
        exact isortD_enc ns hg
  | _ => simp [biD] at hb
section
variable {X : Cx} {Δ : Nm} {Γ : Ctx} {pos p : Pos} {e : Expr} {e' : E}
theorem s_sorted (hK : X.K = Δ.K) (hc : X.calm = true) (hg : Gl X "sorted") (hm : X.mg "sorted" = none) (hs : starEach [e] X.env = (false, eval e X.env) :: starEach [] X.env) (he : SndE X Δ Γ e e') :
    SndE X Δ Γ (.Call (.Name "sorted" p) [e] [] pos) (.bi .sorted [e']) := by
  intro τ σ H F g Q hQ
  have e0 : ev Γ (.bi .sorted [e']) τ = (ev Γ e' τ).bind fun o σ1 => match vws [o] σ1 with
    | some ds => Res.of ((biD .sorted ds).map .c) σ1
    | none => .no := by
    rw [ev, evs, Res.bind_bind]
    refine Res.bind_congr fun o σ1 => ?_
    rw [evs]
    rfl
  rw [e0] at hQ
  refine wpE_of (pe_callB (cr_so hK hc) hg hm bt_sorted (pa_cons (pe0 e) pa_nil hs) (he := hs)) ?_
  refine he.bind GE.shift g hQ fun o τ1 v H1 F1 p1 r1 hQ => ?_
  rw [vws, vws] at hQ
  cases e1 : vw o τ1 with
  | none => rw [e1] at hQ; exact hQ.elim
  | some d =>
    rw [e1] at hQ
    have hQ : PostG X Δ (GE Δ Q) τ1 σ H1 F1 (Res.of ((biD .sorted [d]).map .c) τ1) := hQ
    cases e2 : biD .sorted [d] with
    | none => rw [e2] at hQ; exact hQ.elim
    | some c =>
      rw [e2] at hQ
      have hc' : ∃ out, c = .ol out := by
        cases d <;> simp only [biD] at e2 <;> try (cases e2; done)
        · obtain ⟨o, _, h⟩ := map_some e2
          exact ⟨o, h.symm⟩
        · obtain ⟨_, e2⟩ := some_if' e2
          obtain ⟨o, _, h⟩ := map_some e2
          exact ⟨o, h.symm⟩
      obtain ⟨out, rfl⟩ := hc'
      exact ⟨F1, d, out, p1.ag.sub, .cons (r1.view p1.ag e1) .nil, e2, made_end (.refl p1.ag) hQ⟩
end
end CL

set_option autoImplicit false
set_option linter.all false
set_option Elab.async false
set_option maxRecDepth 100000
set_option maxHeartbeats 1600000
/-! CLSi: set(row of ints): sorted, counted. -/
namespace CL
open PySem PySem.Spec PyProof.Rows L2
section
variable {P : Program} {w : World} {A : Around} {E : Value → Shared → Prop} {s : Shared}
/-- the ints met so far, first ones of each -/
def met : List Int → List Int → List Int
  | acc, [] => acc
  | acc, n :: ns => if acc.any (· == n) then met acc ns else met (acc ++ [n]) ns
theorem dedup_met : ∀ (ns acc : List Int), dedup (acc.map D.int) (ns.map D.int) = (met acc ns).map D.int
  | [], acc => rfl
  | n :: ns, acc => by
    have e : (acc.map D.int).any (fun x => eqb x (.int n)) = acc.any (· == n) := by
      rw [List.any_map]
      rfl
    rw [List.map_cons, dedup, met, e]
    by_cases h : acc.any (· == n) = true
    · rw [if_pos h, if_pos h]; exact dedup_met ns acc
    · rw [if_neg h, if_neg h]
      have := dedup_met ns (acc ++ [n])
      rw [List.map_append] at this
      exact this
theorem any_mem {acc : List Int} {n : Int} : acc.any (· == n) = true ↔ n ∈ acc := by
  rw [List.any_eq_true]
  constructor
  · rintro ⟨x, hx, e⟩
    rw [beq_iff_eq] at e
    exact e ▸ hx
  · exact fun h => ⟨n, h, by simp⟩
theorem met_nodup : ∀ (ns acc : List Int), acc.Nodup → (met acc ns).Nodup ∧ ∀ x, x ∈ met acc ns ↔ x ∈ acc ∨ x ∈ ns
  | [], acc, h => ⟨h, fun x => by simp [met]⟩
  | n :: ns, acc, h => by
    rw [met]
    by_cases c : acc.any (· == n) = true
    · rw [if_pos c]
      obtain ⟨h1, h2⟩ := met_nodup ns acc h
      refine ⟨h1, fun x => ?_⟩
      rw [h2, List.mem_cons]
      have := any_mem.mp c
      constructor
      · rintro (h | h)
        · exact .inl h
        · exact .inr (.inr h)
      · rintro (h | rfl | h)
        · exact .inl h
        · exact .inl this
        · exact .inr h
    · rw [if_neg c]
      have hn : n ∉ acc := fun m => c (any_mem.mpr m)
      obtain ⟨h1, h2⟩ := met_nodup ns (acc ++ [n]) (by
        rw [List.nodup_append]
        exact ⟨h, by simp, fun a ha b hb => by rw [List.mem_singleton.mp hb]; exact fun e => hn (e ▸ ha)⟩)
      refine ⟨h1, fun x => ?_⟩
      rw [h2, List.mem_append, List.mem_singleton, List.mem_cons, or_assoc]
/-- the set at S holds just the ints of acc -/
def SetIs (w : World) (h : Heap) (a : Addr) (acc : List Int) : Prop := SetR w h a (fun k => acc.any (· == k)) acc.length
theorem update_ints {I : Addr} {fp wr : List Addr} {G : Array GenState → Array GenState → Prop} {n : Nat} {Pv : Nat → Value → Prop} {St : Nat → Shared → Prop} {R : Result → Shared → Prop}
    (W : WalksS P w A.in1 I fp wr G n Pv St) (S : Addr) (hSf : S ∉ fp) (ns : List Int) (hn : n = ns.length) (hval : ∀ i v, Pv i v → ∃ k t, ns[i]? = some k ∧ v = .int k t)
    (h0 : Heap) (hS0 : h0.get? S = none) (hw0 : ∀ b ∈ wr, h0.get? b = none) (hfew : ns.length + 1 < scanBound) :
    ∀ (k i : Nat) (s : Shared), n - i = k → i ≤ n → St i s → (∀ b o, h0.get? b = some o → s.heap.get? b = some o) → (∃ acc, SetIs w s.heap S acc ∧ acc.length ≤ i ∧ met acc (ns.drop i) = met [] ns) →
      (∀ s', Moved (S :: wr) G s s' → SetIs w s'.heap S (met [] ns) → (∀ b o, h0.get? b = some o → s'.heap.get? b = some o) → R (.ok (.ret .none)) s') →
      codeAny (model P w) A (.builtin "set.update.loop" ⟨[.ref S, .ref I], []⟩) R s := by
  have hSw : S ∉ wr := fun h => hSf (W.sub _ h)
  have hsub : ∀ b ∈ wr, b ∈ S :: wr := fun b hb => List.mem_cons_of_mem _ hb
  have old : ∀ {s s' : Shared}, Moved wr G s s' → (∀ b o, h0.get? b = some o → s.heap.get? b = some o) → ∀ b o, h0.get? b = some o → s'.heap.get? b = some o := fun hm hkp b o e =>
    hm.heap b o (fun hb => by rw [hw0 b hb] at e; cases e) (hkp b o e)
  intro k
  induction k with
  | zero =>
    intro i s hk' hi hst hkp ⟨acc, hS, _, he⟩ hR
    have hin : i = n := by omega
    subst hin
    rw [hn, List.drop_eq_nil_of_le (Nat.le_refl _)] at he
    have he : acc = met [] ns := he
    refine codeAny_builtin F.entry_set_update_loop ?_
    rw [Around.under_plainId F.plain_set_update_loop _]
    show wpAny _ A.in1 (pyNext (.ref I) >>= _) _ _ s
    refine wpAny_bind (W.done s _ _ hst fun s' hm => ?_)
    show wpAny _ A.in1 (ret Value.none) _ _ s'
    rw [← he] at hR
    exact wpAny_pure (hR s' (hm.mono hsub) (hS.at fun o e => hm.heap S o hSw e) (old hm hkp))
  | succ k ih =>
    intro i s hk' hi hst hkp ⟨acc, hS, hac, he⟩ hR
    have hlt : i < n := by omega
    refine codeAny_builtin F.entry_set_update_loop ?_
    rw [Around.under_plainId F.plain_set_update_loop _]
    show wpAny _ A.in1 (pyNext (.ref I) >>= _) _ _ s
    refine wpAny_bind (W.item i s _ _ hlt hst fun v s' hP hst' hm => ?_)
    obtain ⟨x, t, hx, rfl⟩ := hval i v hP
    have hkp' := old hm hkp
    have hS' : SetIs w s'.heap S acc := hS.at fun o e => hm.heap S o hSw e
    show wpAny _ A.in1 (holding [Value.int x t] (setAdd S (.int x t)) >>= _) _ _ s'
    refine wpAny_bind (wpAny_holding ?_)
    unfold setAdd
    refine wpAny_holding ?_
    refine wpAny_bind ((intKind P w).pyHash (intKind_is P w x t) ?_)
    refine setR_add_hashed (s := { s' with toks := s'.toks + 1 }) hS' (by omega) fun h' hsb R2 => ?_
    have hil : i < ns.length := by omega
    have hxi : ns[i] = x := by
      rw [List.getElem?_eq_getElem hil] at hx
      exact Option.some.inj hx
    have next : ∃ acc', SetIs w h' S acc' ∧ acc'.length ≤ i + 1 ∧ met acc' (ns.drop (i + 1)) = met [] ns := by
      rw [List.drop_eq_getElem_cons hil, hxi, met] at he
      by_cases c : acc.any (· == x) = true
      · rw [if_pos c] at he
        rw [if_pos c] at R2
        refine ⟨acc, R2.congr fun j => ?_, by omega, he⟩
        by_cases e : j = x
        · subst e; rw [c]; rfl
        · rw [decide_eq_false e, Bool.or_false]
      · rw [if_neg c] at he
        rw [if_neg c] at R2
        refine ⟨acc ++ [x], ?_, by rw [List.length_append, List.length_singleton]; omega, he⟩
        unfold SetIs
        rw [List.length_append, List.length_singleton]
        refine R2.congr fun j => ?_
        rw [List.any_append]
        congr 1
        show (([x] : List Int).any (· == j)) = decide (j = x)
        by_cases e : j = x
        · subst e; simp
        · rw [decide_eq_false e]
          simp [Ne.symm e]
    have hkp2 : ∀ b o, h0.get? b = some o → h'.get? b = some o := fun b o e => (hsb.2 b (fun z => by rw [z, hS0] at e; cases e)).trans (hkp' b o e)
    refine wpAny_pure ⟨plainId_quiet F.plain_set_update_loop _, ih (i + 1) _ (by omega) hlt (W.frame _ s' _ _ hst' (Nat.le_add_right _ _) fun b hb o e => ?_) hkp2 next fun s'' hm'' hS'' hkp'' => ?_⟩
    · rw [hsb.2 b (fun h : b = S => hSf (by rw [← h]; exact hb))]; exact e
    · refine hR s'' (Moved.trans W.gtrans ((hm.mono hsub).then_heap (Nat.le_add_right _ _) fun b o hb e => ?_) hm'') hS'' hkp''
      rw [hsb.2 b (fun h : b = S => hb (by rw [h]; exact List.mem_cons_self))]; exact e
theorem call_set_ints {k : Bool} {l : Addr} {items : Array Value} (ns : List Int) {Q : Value → Shared → Prop} (hh : A.handled = none) (hl : StX k s.heap l items) (hit : IntsAre items.toList ns) (hfew : ns.length + 1 < scanBound)
    (h : ∀ (h' : Heap) (tk : Nat), SetIs w h' s.heap.objs.size (met [] ns) → (∀ b o, s.heap.get? b = some o → h'.get? b = some o) → Q (.ref s.heap.objs.size) { s with heap := h', toks := tk }) :
    wpAny (model P w) A (call (.type "set") [.ref l]) Q E s := by
  have hisz : items.size = ns.length := by
    have q := IntsAre.length hit
    rw [Array.length_toList] at q
    exact q
  have hlS : l < s.heap.objs.size := hl.lt
  have none_of : ∀ b, s.heap.objs.size ≤ b → s.heap.get? b = none := fun b hb => by
    cases q : s.heap.get? b with
    | none => rfl
    | some o => exact absurd (Nat.lt_of_lt_of_le (Heap.lt_size q) hb) (Nat.lt_irrefl _)
  have ints_at : ∀ {vs : List Value} {ns : List Int}, IntsAre vs ns → ∀ (i : Nat) (v : Value), vs[i]? = some v → ∃ k t, ns[i]? = some k ∧ v = .int k t := by
    intro vs ns q
    induction q with
    | nil => intro i v e; simp at e
    | cons n k t ih =>
      intro i v e
      cases i with
      | zero => simp at e; exact ⟨n, k, rfl, e.symm⟩
      | succ i => simp at e; obtain ⟨a, b, h1, h2⟩ := ih i v e; exact ⟨a, b, by simpa using h1, h2⟩
  have hval : ∀ (i : Nat) (v : Value), items[i]? = some v → ∃ k t, ns[i]? = some k ∧ v = .int k t := fun i v hv => ints_at hit i v (by rw [Array.getElem?_toList]; exact hv)
  have hS : (s.heap.push (setObj w)).get? s.heap.objs.size = some (setObj w) := Heap.get?_push_size _ rfl
  have e1 : (s.heap.push (setObj w)).objs.size = s.heap.objs.size + 1 := Heap.size_push ..
  have fr : (objX k l).isFreed = false := by cases k <;> rfl
  have hI : ((s.heap.push (setObj w)).push (objX k l)).get? (s.heap.objs.size + 1) = some (objX k l) := by
    have := Heap.get?_push_size (s.heap.push (setObj w)) (o := objX k l) fr
    rw [e1] at this; exact this
  have hSf : s.heap.objs.size ∉ [s.heap.objs.size + 1, l] := not2 (Nat.ne_of_lt (Nat.lt_succ_self _)) (Nat.ne_of_gt hlS)
  have hneI : l ≠ s.heap.objs.size + 1 := Nat.ne_of_lt (Nat.lt_succ_of_lt hlS)
  have hfresh : SetIs w ((s.heap.push (setObj w)).push (objX k l)) s.heap.objs.size [] := (setR_fresh (h := s.heap) w).at fun o e => Heap.get?_push_of_some _ e
  have hh3 : A.in1.in1.in1.handled = none := by simp [hh]
  refine call_set_any (Good := fun h' => SetIs w h' s.heap.objs.size (met [] ns) ∧ ∀ b o, s.heap.get? b = some o → h'.get? b = some o) hl (fun R hR => ?_) fun h' tk ⟨h1, h2⟩ => h h' tk h1 h2
  have fin : ∀ (s' : Shared) (wr : List Addr), Moved (s.heap.objs.size :: wr) (fun g g' => g' = g) { s with heap := (s.heap.push (setObj w)).push (objX k l) } s' → SetIs w s'.heap s.heap.objs.size (met [] ns) → (∀ b o, s.heap.get? b = some o → s'.heap.get? b = some o) → R (.ok (.ret .none)) s' := fun s' wr hm hS' hkp => by
    obtain ⟨h', g2, d', tk', os'⟩ := s'
    have eg : g2 = s.gens := hm.gens
    have ed : d' = s.drawn := hm.drawn
    have eo : os' = s.os := hm.os
    subst eg; subst ed; subst eo
    exact hR h' tk' ⟨hS', hkp⟩
  cases k with
  | false =>
    have hl1 : ((s.heap.push (setObj w)).push (objX false l)).IsList l items := Heap.IsList.at hl fun o e => Heap.get?_push_of_some _ (Heap.get?_push_of_some _ e)
    exact update_ints ((Walks.list hh3 _ l hneI items).toS) s.heap.objs.size hSf ns hisz hval s.heap (none_of _ (Nat.le_refl _)) (fun b hb => none_of b (by
        rw [List.mem_singleton.mp hb]
        exact Nat.le_succ _)) hfew (items.size - 0) 0 _ (by omega) (Nat.zero_le _) ⟨⟨_, hI, rfl, rfl⟩, hl1⟩ (fun b o e => Heap.get?_push_of_some _ (Heap.get?_push_of_some _ e)) ⟨[], hfresh, Nat.le_refl _, rfl⟩
        fun s' hm => fin s' _ hm
  | true =>
    have hl1 : ((s.heap.push (setObj w)).push (objX true l)).IsTuple l items := Heap.IsTuple.at hl fun o e => Heap.get?_push_of_some _ (Heap.get?_push_of_some _ e)
    exact update_ints ((Walks.tuple hh3 _ l hneI items).toS) s.heap.objs.size hSf ns hisz hval s.heap (none_of _ (Nat.le_refl _)) (fun b hb => none_of b (by
        rw [List.mem_singleton.mp hb]
        exact Nat.le_succ _)) hfew (items.size - 0) 0 _ (by omega) (Nat.zero_le _) ⟨⟨_, hI, rfl, rfl⟩, hl1⟩ (fun b o e => Heap.get?_push_of_some _ (Heap.get?_push_of_some _ e)) ⟨[], hfresh, Nat.le_refl _, rfl⟩
        fun s' hm => fin s' _ hm
end
theorem ints_vals : ∀ {ns : List Int} {us : List Value}, Vals (ns.map V.int) us → IntsAre us ns
  | [], _, .nil => .nil
  | n :: ns, _, .cons r t => by
    obtain ⟨k, rfl⟩ := r
    exact .cons n k (ints_vals t)
/-- set(row) of ints -/
def rSetI (K : PySem.W.Frag) (w : World) : List V → Hp → VK → Prop := fun xs H Q => ∃ (k : Bool) (l : Addr) (ns : List Int), xs = [V.ref l] ∧ SqX k K H l (ns.map V.int) ∧ ns.length + 1 < scanBound ∧
  ∀ a, H a = none → Q (.ref a) (upd H a (SetO w a (fun k => (met [] ns).any (· == k)) (met [] ns).length))
theorem cr_setI {X : Cx} (hc : X.calm = true) : CallR X (.type "set") (rSetI X.K X.w) := by
  intro pins s σ H xs us Q I r h
  obtain ⟨k, l, ns, rfl, hl, hf, q⟩ := h
  rw [Vals.ref1 r]
  obtain ⟨its, rv, stx⟩ := Inv.sqx I hl
  have hn : H s.heap.objs.size = none := I.hok.fresh (Nat.le_refl _)
  refine call_set_ints (P := X.prog) (w := X.w) ns (I.ok.hd hc) stx (by simpa using ints_vals rv) hf fun h' tk R k => ?_
  exact ⟨.ref s.heap.objs.size, upd H s.heap.objs.size (SetO X.w s.heap.objs.size (fun k => (met [] ns).any (· == k)) (met [] ns).length), I.laid (t' := tk) k (Nat.le_refl _) (setO_new R), rfl, q _ hn⟩
theorem cr_lenSetO {X : Cx} : CallR X (.builtin "len") (fun xs H Q => ∃ (a : Addr) (S : Int → Bool) (n : Nat), xs = [V.ref a] ∧ H a = some (SetO X.w a S n) ∧ n < 10000 ∧ Q (.int (n : Nat)) H) := by
  intro pins s σ H xs us Q I r h
  obtain ⟨a, S, n, rfl, ha, hn, q⟩ := h
  rw [Vals.ref1 r]
  obtain ⟨o, es, ep, t, ho, hex, hd, _, _, _, _, hf, hes, _, _⟩ := setO_get I ha
  exact call_len_set ho hex hd hf (by rw [hes]; omega) ⟨.int (n : Nat), H, I.tok _, ⟨_, by rw [hes]⟩, q⟩
section
variable {X : Cx} {Δ : Nm} {Γ : Ctx} {pos pos2 p p2 : Pos} {e : Expr} {e' : E}
theorem row_ints {F H : Hp} (hK : X.K = Δ.K) {v : V} {d : D} {ds : List D} (sub : Sub F H) (vv : View Δ F H v d) (hd : seq? d = some ds) (hi : ds.all isInt = true) : ∃ (k : Bool) (a : Addr) (ns : List Int), v = .ref a ∧ SqX k X.K H a (ns.map V.int) ∧ ds = ns.map D.int := by
  obtain ⟨ns, rfl⟩ := all_ints ds hi
  cases d with
  | tup xs =>
    cases hd
    obtain ⟨a, vs, rfl, h1, h2, _⟩ := vv.tup sub
    have := reps_ints h2 (ints_map ns)
    subst this
    exact ⟨true, a, ns, rfl, hK ▸ h1, rfl⟩
  | lst xs =>
    cases hd
    obtain ⟨a, vs, rfl, h1, h2⟩ := vv.lst sub
    have := reps_ints h2 (ints_map ns)
    subst this
    exact ⟨false, a, ns, rfl, .inl h1, rfl⟩
  | _ => cases hd
theorem bi_one (f : Bi) (τ : CL.St) : ev Γ (.bi f [e']) τ = (ev Γ e' τ).bind fun o σ1 => match vws [o] σ1 with
    | some ds => Res.of ((biD f ds).map .c) σ1
    | none => .no := by
  rw [ev, evs, Res.bind_bind]
  refine Res.bind_congr fun o σ1 => ?_
  rw [evs]
  rfl
theorem s_iset (hK : X.K = Δ.K) (hc : X.calm = true) (hg : Gl X "sorted") (hm : X.mg "sorted" = none) (hg2 : Gl X "set") (hm2 : X.mg "set" = none)
    (hs : starEach [e] X.env = (false, eval e X.env) :: starEach [] X.env) (hs2 : starEach [.Call (.Name "set" p2) [e] [] pos2] X.env = (false, eval (.Call (.Name "set" p2) [e] [] pos2) X.env) :: starEach [] X.env) (he : SndE X Δ Γ e e') :
    SndE X Δ Γ (.Call (.Name "sorted" p) [.Call (.Name "set" p2) [e] [] pos2] [] pos) (.bi .iset [e']) := by
  intro τ σ H F g Q hQ
  rw [bi_one] at hQ
  refine wpE_of (pe_callB (cr_sortedSet hc) hg hm bt_sorted (pa_cons (pe_callTy (cr_setI hc) hg2 hm2 bt_set (pa_cons (pe0 e) pa_nil hs) (he := hs)) pa_nil hs2) (he := hs2)) ?_
  refine he.bind GE.shift g hQ fun o τ1 v H1 F1 p1 r1 hQ => ?_
  rw [vws, vws] at hQ
  cases e1 : vw o τ1 with
  | none => rw [e1] at hQ; exact hQ.elim
  | some d =>
    rw [e1] at hQ
    have hQ : PostG X Δ (GE Δ Q) τ1 σ H1 F1 (Res.of ((biD .iset [d]).map .c) τ1) := hQ
    have vv := r1.view p1.ag e1
    have main : ∀ ds, seq? d = some ds → PostG X Δ (GE Δ Q) τ1 σ H1 F1 (Res.of (((isetD ds).map C.ol).map .c) τ1) → rSetI X.K X.w [v] H1 fun y H2 => rSortedSet X.w [y] H2 Q := fun ds hd hQ => by
      cases e3 : isetD ds with
      | none => rw [e3] at hQ; exact hQ.elim
      | some out =>
        rw [e3] at hQ
        unfold isetD at e3
        obtain ⟨hok, e3⟩ := some_if e3
        simp only [Bool.and_eq_true, decide_eq_true_eq] at hok
        obtain ⟨⟨hi, h64⟩, hl⟩ := hok
        obtain ⟨k, a, ns, rfl, h1, rfl⟩ := row_ints hK p1.ag.sub vv hd hi
        have hd2 : dedup [] (ns.map D.int) = (met [] ns).map D.int := dedup_met ns []
        rw [List.length_map] at hl
        rw [hd2, List.length_map] at h64
        obtain ⟨nd, mem⟩ := met_nodup ns [] List.nodup_nil
        refine ⟨k, a, ns, rfl, h1, by unfold scanBound; omega, fun sa hsa => ?_⟩
        have sub2 : Sub F1 (upd H1 sa (SetO X.w sa (fun k => (met [] ns).any (· == k)) (met [] ns).length)) := p1.ag.sub.write (p1.ag.sub.free hsa)
        refine ⟨sa, _, _, rfl, upd_same, h64, fun ms lp pw hmem hlen hlp => ?_⟩
        have hms : ms = isortI (met [] ns) := by
          refine sorted_is ?_ (pw.imp fun h => Int.le_of_lt h)
          refine (List.perm_ext_iff_of_nodup (pw.imp fun h => Int.ne_of_lt h) nd).mpr fun x => ?_
          rw [hmem]
          exact any_mem
        rw [← e3, hd2, isortD_int, ← hms] at hQ
        have pS : Post Δ τ1 τ1 σ H1 F1 (upd H1 sa (SetO X.w sa (fun k => (met [] ns).any (· == k)) (met [] ns).length)) F1 := by
          refine ⟨p1.ag.laid hsa, Ext.refl F1, fun b u e _ => ?_, fun b u e n => (by rw [n] at e; cases e), fun i y e o => ⟨y, e, o⟩, fun b u e => ?_⟩
          · rw [upd_ne (ne_of_none e hsa)]; exact e
          · exact ⟨u, by rw [upd_ne (ne_of_none e hsa)]; exact e⟩
        exact made_end pS hQ _ _ _ (.lst hlp (reps_of_ints ms))
    cases d with
    | tup ds => exact main ds rfl hQ
    | lst ds => exact main ds rfl hQ
    | _ => exact hQ.elim
theorem s_lset (hK : X.K = Δ.K) (hc : X.calm = true) (hg : Gl X "len") (hm : X.mg "len" = none) (hg2 : Gl X "set") (hm2 : X.mg "set" = none)
    (hs : starEach [e] X.env = (false, eval e X.env) :: starEach [] X.env) (hs2 : starEach [.Call (.Name "set" p2) [e] [] pos2] X.env = (false, eval (.Call (.Name "set" p2) [e] [] pos2) X.env) :: starEach [] X.env) (he : SndE X Δ Γ e e') :
    SndE X Δ Γ (.Call (.Name "len" p) [.Call (.Name "set" p2) [e] [] pos2] [] pos) (.bi .lset [e']) := by
  intro τ σ H F g Q hQ
  rw [bi_one] at hQ
  refine wpE_of (pe_callB cr_lenSetO hg hm bt_len (pa_cons (pe_callTy (cr_setI hc) hg2 hm2 bt_set (pa_cons (pe0 e) pa_nil hs) (he := hs)) pa_nil hs2) (he := hs2)) ?_
  refine he.bind GE.shift g hQ fun o τ1 v H1 F1 p1 r1 hQ => ?_
  rw [vws, vws] at hQ
  cases e1 : vw o τ1 with
  | none => rw [e1] at hQ; exact hQ.elim
  | some d =>
    rw [e1] at hQ
    have hQ : PostG X Δ (GE Δ Q) τ1 σ H1 F1 (Res.of ((biD .lset [d]).map .c) τ1) := hQ
    have vv := r1.view p1.ag e1
    have main : ∀ ds, seq? d = some ds → PostG X Δ (GE Δ Q) τ1 σ H1 F1 (Res.of (((lsetD ds).map fun n => C.val (.int n)).map .c) τ1) → rSetI X.K X.w [v] H1 fun y H2 => ∃ (a : Addr) (S : Int → Bool) (n : Nat), [y] = [V.ref a] ∧ H2 a = some (SetO X.w a S n) ∧ n < 10000 ∧ Q (.int (n : Nat)) H2 := fun ds hd hQ => by
      cases e3 : lsetD ds with
      | none => rw [e3] at hQ; exact hQ.elim
      | some out =>
        rw [e3] at hQ
        unfold lsetD at e3
        obtain ⟨hok, e3⟩ := some_if e3
        simp only [Bool.and_eq_true, decide_eq_true_eq] at hok
        obtain ⟨hi, hl⟩ := hok
        obtain ⟨k, a, ns, rfl, h1, rfl⟩ := row_ints hK p1.ag.sub vv hd hi
        have hd2 : dedup [] (ns.map D.int) = (met [] ns).map D.int := dedup_met ns []
        rw [List.length_map] at hl
        obtain ⟨nd, mem⟩ := met_nodup ns [] List.nodup_nil
        have hle : (met [] ns).length ≤ ns.length := sub_len nd fun x hx => by
          rcases (mem x).mp hx with h | h
          · cases h
          · exact h
        refine ⟨k, a, ns, rfl, h1, by unfold scanBound; omega, fun sa hsa => ?_⟩
        have pS : Post Δ τ1 τ1 σ H1 F1 (upd H1 sa (SetO X.w sa (fun k => (met [] ns).any (· == k)) (met [] ns).length)) F1 := by
          refine ⟨p1.ag.laid hsa, Ext.refl F1, fun b u e _ => ?_, fun b u e n => (by rw [n] at e; cases e), fun i y e o => ⟨y, e, o⟩, fun b u e => ?_⟩
          · rw [upd_ne (ne_of_none e hsa)]; exact e
          · exact ⟨u, by rw [upd_ne (ne_of_none e hsa)]; exact e⟩
        refine ⟨sa, _, _, rfl, upd_same, by omega, ?_⟩
        rw [← e3, hd2, List.length_map] at hQ
        exact made_end pS hQ _ _ _ .int
    cases d with
    | tup ds => exact main ds rfl hQ
    | lst ds => exact main ds rfl hQ
    | _ => exact hQ.elim
end
end CL

set_option autoImplicit false
set_option linter.all false
set_option Elab.async false
set_option maxRecDepth 100000
set_option maxHeartbeats 1000000
/-! CLDi: {k: v}, one pair. -/
namespace CL
open PySem PySem.Spec PyProof.Rows L2
def tDisp1T (tk tv : TE) : TE := fun σ H Q => ∀ p, H p = none → tPairs [(tk, tv)] σ (upd H p (.dT [])) fun ps H2 => H2 p = some (.dT []) ∧ ∃ (k : List Key) (b : Addr) (v : V), ps = [(.ref b, v)] ∧ H2 b = some (.tup (k.map kV)) ∧ Q (.ref p) (upd H2 p (.dT [(k, v)]))
theorem rt_in {P : Program} {w : World} {A : Around} (hu : A.units + 70 < cLine) : (tupleKind (mixKind P w)).room A := by
  have h : A.units < cLine := by omega
  exact h
theorem pe_disp1T {X : Cx} {pos : Pos} {k v : Expr} {tk tv : TE} (hu : X.A.units + 70 < cLine) (hk : PE X k tk) (hv : PE X v tv) : PE X (.Dict [some k] [v] pos) (tDisp1T tk tv) := by
  refine ⟨fun pins s σ H Q I q => ?_⟩
  have hn := I.hok.fresh (Nat.le_refl s.heap.objs.size)
  have I1 := I.laid (a := s.heap.objs.size) (o := .dT []) (h' := s.heap.push { cls := .type "dict", data := .dict #[] }) (t' := s.toks) (fun _ _ q => Heap.get?_push_of_some _ q) (Nat.le_refl _) (dt_empty s.heap I.big)
  have h : PPs X pos [some k] [v] [(tk, tv)] := pps_cons hk hv pps_nil
  rw [arm_eval_Dict, zip_pairTrees [some k] [v] X.env pos rfl rfl, dictDisplay_pairs (pairTrees [some k] [v] X.env pos) (fun z => by have := congrArg List.length z; rw [pairTrees_length _ _ _ _ rfl rfl] at this; cases this) (by rw [pairTrees_length _ _ _ _ rfl rfl]; exact Nat.le_of_ble_eq_true rfl)]
  refine wpAny_bind (wpAny_standAt (wpAny_bind (wpAny_subDictH (knd := tupleKind (mixKind X.prog X.w)) (rt_in hu) (by rw [pairTrees_length _ _ _ _ rfl rfl]; exact Nat.le_of_ble_eq_true rfl) (thn (h.run pins _ σ _ _ I1 (q _ hn)) fun ws s2 ⟨ps, H2, I2, rel, e, kk, b, vv, ep, hb, q2⟩ => ?_))))
  subst ep
  cases rel with
  | @cons y0 z0 _ _ r1 r2 =>
    cases r2
    obtain ⟨ra, rb⟩ := r1
    obtain ⟨y1, y2⟩ := z0
    obtain rfl : y1 = Value.ref b := ra
    obtain ⟨z, hd, xs, rel0, dd⟩ := dt_of I2.hok e
    cases rel0
    refine ⟨[(kk, b, y2)], ⟨rfl, rfl, key_of I2.hok hb, trivial⟩, dd, fun h' tk dd' hs => wpAny_pure ⟨.ref s.heap.objs.size, upd H2 s.heap.objs.size (.dT [(kk, vv)]), ?_, rfl, q2⟩⟩
    obtain ⟨o, es, ep, hq, h2, h3, h4, _, h5⟩ := dd'
    refine d_write I2 (by rw [e]; exact True.intro) hs ⟨o, hq⟩ ⟨Nat.le_of_ble_eq_true rfl, hd, [(kk, b, y2)], .cons ⟨rfl, ?_, rb⟩ .nil, o, es, ep, hq, h2, h3, h4, h5⟩
    rw [upd_ne (ne_of hb e (fun z => nomatch z))]
    exact hb
section
variable {Δ : Nm} {τ τ2 : CL.St} {σ : L2.St} {H F H2 F2 : Hp} {p : Addr} {o o' : HO}
/-- what was laid at the begin is written at the end -/
theorem Post.drop (hp : H p = none) (q : Post Δ τ τ2 σ (upd H p o) F H2 F2) (n2 : F2 p = none) (nw : ¬ Wr τ σ p) : Post Δ τ τ2 σ H F (upd H2 p o') F2 := by
  refine ⟨⟨q.ag.sub.write n2, q.ag.len, fun i x e => ?_, q.ag.apart⟩, q.ext, fun a u h n => ?_, fun a u h n => ?_, q.mon, fun a u h => ?_⟩
  · obtain ⟨v, hv, r⟩ := q.ag.at_ i x e
    refine ⟨v, hv, ?_⟩
    by_cases ho : x.isOwn
    · obtain ⟨a, rfl, hFa, oa⟩ := r.own ho
      have na : a ≠ p := fun z => by subst z; exact nw (q.wr ⟨i, x, e, ho, hv⟩)
      exact .of_own hFa (oa.mono (Ext.refl F2) fun u h => by rw [upd_ne na]; exact h)
    · cases x <;> first | exact absurd trivial ho | exact r
  · have na := ne_of_none h hp
    rw [upd_ne na]
    exact q.keep a u (by rw [upd_ne na]; exact h) n
  · have na : a ≠ p := fun z => by rw [z, n2] at h; cases h
    refine (q.froz a u h n).imp id fun w o' h' => w o' (by rw [upd_ne na]; exact h')
  · have na := ne_of_none h hp
    obtain ⟨z, hz⟩ := q.dom a u (by rw [upd_ne na]; exact h)
    exact ⟨z, by rw [upd_ne na]; exact hz⟩
end
section
variable {X : Cx} {Δ : Nm} {Γ : Ctx} {pos : Pos} {k v : Expr} {k' v' : E}
/-- a dict of one's own that is being filled: put last -/
theorem s_dic1 (t : Bool) (hu : X.A.units + 70 < cLine) (hk : SndE X Δ Γ k k') (hv : SndE X Δ Γ v v') : SndE X Δ Γ (.Dict [some k] [v] pos) (.dic1 t k' v') := by
  intro τ σ H F g Q hQ
  rw [ev] at hQ
  have nwr : ∀ p, H p = none → ¬ Wr τ σ p := fun p hp w => by
    obtain ⟨_, u, e⟩ := g.wr w
    rw [hp] at e; cases e
  have core : ∀ (p : Addr) (o : HO), H p = none → (∀ o', o = o' → ∀ xs, o ≠ .tup xs) → ∀ (K : List (V × V) → Hp → Prop), (∀ x y H2 F1 F2 τ2 kd d, Post Δ τ τ2 σ (upd H p o) F H2 F2 → H2 p = some o → F2 p = none → Sub F1 H2 → View Δ F1 H2 x kd → keyOk t kd = true → Rep Δ F2 y d →
      PostG X Δ (GE Δ Q) τ σ H F (.ok (.c (.od t [(kd, d)])) τ2) → K [(x, y)] H2) → tPairs [(wpE X k, wpE X v)] σ (upd H p o) K := fun p o hp ho K hK => by
    have hF : F p = none := g.sub.free hp
    have g1 := g.laid (o := o) hp
    have nw : ¬ Wr τ σ p := fun w => by
      obtain ⟨_, u, e⟩ := g.wr w
      rw [hp] at e; cases e
    have keepP : ∀ {τ2 : CL.St} {H2 F2 : Hp}, Post Δ τ τ2 σ (upd H p o) F H2 F2 → H2 p = some o ∧ F2 p = none := fun {τ2 H2 F2} q => by
      refine ⟨q.keep p o upd_same nw, ?_⟩
      cases e : F2 p with
      | none => rfl
      | some u =>
        exfalso
        rcases q.froz p u e hF with w | w
        · exact nw w
        · obtain ⟨xs, z⟩ := w o upd_same
          exact ho o rfl xs z
    refine hk.bind' g1 (f := fun x σ1 => (ev Γ v' σ1).bind fun y σ2 => match vw x σ2, CL.frz y σ2 with
      | some kd, some (d, σ3) => if keyOk t kd then Res.ok (.c (.od t [(kd, d)])) σ3 else .no
      | _, _ => .no) (G := fun τ0 σ0 H0 F0 a τ' => GE Δ Q τ σ H F a τ') (by
        revert hQ
        cases (ev Γ k' τ).bind fun x σ1 => (ev Γ v' σ1).bind fun y σ2 => match vw x σ2, CL.frz y σ2 with
          | some kd, some (d, σ3) => if keyOk t kd then Res.ok (Opd.c (.od t [(kd, d)])) σ3 else .no
          | _, _ => .no with
        | ok a τ' => exact fun h => h
        | exc x τ' => exact fun h => h
        | no => exact fun h => h) fun x τ1 vx H1 F1 p1 r1 hQ1 => ?_
    refine hv.bind' p1.ag (G := fun τ0 σ0 H0 F0 a τ' => GE Δ Q τ σ H F a τ') (f := fun y σ2 => match vw x σ2, CL.frz y σ2 with
      | some kd, some (d, σ3) => if keyOk t kd then Res.ok (Opd.c (.od t [(kd, d)])) σ3 else .no
      | _, _ => .no) (by
        revert hQ1
        cases (ev Γ v' τ1).bind fun y σ2 => match vw x σ2, CL.frz y σ2 with
          | some kd, some (d, σ3) => if keyOk t kd then Res.ok (Opd.c (.od t [(kd, d)])) σ3 else .no
          | _, _ => .no with
        | ok a τ' => exact fun h => h
        | exc x τ' => exact fun h => h
        | no => exact fun h => h) fun y τ2 vy H2 F2 p2 r2 hQ2 => ?_
    have r1 := r1.step g1 p1 p2
    cases e1 : vw x τ2 with
    | none => rw [e1] at hQ2; exact hQ2.elim
    | some kd =>
      rw [e1] at hQ2
      cases e2 : CL.frz y τ2 with
      | none => rw [e2] at hQ2; exact hQ2.elim
      | some q =>
        obtain ⟨d, τ3⟩ := q
        rw [e2] at hQ2
        simp only at hQ2
        by_cases hkk : keyOk t kd = true
        · rw [if_pos hkk] at hQ2
          have vkd := r1.view p2.ag e1
          have p12 := p1.trans p2
          have fin : ∃ F3, Ext F2 F3 ∧ Post Δ τ τ3 σ (upd H p o) F H2 F3 ∧ Rep Δ F3 vy d := by
            rcases Post.frz1 g1 p12 (r2.older p1) e2 with ⟨_, _, rd, p3⟩ | ⟨a, u, _, _, hFa, _, rd, p3⟩
            · exact ⟨F2, Ext.refl _, p3, rd⟩
            · exact ⟨_, Ext.new hFa, p3, rd⟩
          obtain ⟨F3, _, p3, rd⟩ := fin
          have k3 := keepP p3
          exact hK vx vy H2 F2 F3 τ3 kd d p3 k3.1 k3.2 p12.ag.sub vkd hkk rd hQ2
        · rw [if_neg hkk] at hQ2
          exact hQ2.elim
  cases t with
  | false =>
    refine wpE_of (pe_disp (trs := [(wpE X k, wpE X v)]) (pps_cons (pe0 k) (pe0 v) pps_nil) rfl rfl (fun z => by cases z) (Nat.le_of_ble_eq_true rfl)) fun p hp => ?_
    refine core p _ hp (fun o' e xs z => by cases z) _ fun x y H2 F1 F2 τ2 kd d p2 h1 h2 hs vk hk rd hQ2 => ⟨h1, ?_⟩
    obtain ⟨κ, rfl, rfl⟩ := key_view vk hk
    refine ⟨[(κ, y)], rfl, Nat.le_of_ble_eq_true rfl, ?_⟩
    exact hQ2 _ _ _ (p2.drop hp h2 (nwr p hp)) (.of_own hp h2 ⟨[(κ, y)], upd_same, .cons rd .nil⟩)
  | true =>
    refine wpE_of (pe_disp1T hu (pe0 k) (pe0 v)) fun p hp => ?_
    refine core p _ hp (fun o' e xs z => by cases z) _ fun x y H2 F1 F2 τ2 kd d p2 h1 h2 hs vk hk rd hQ2 => ⟨h1, ?_⟩
    obtain ⟨b, κ, rfl, hb, rfl⟩ := tkey_view hs vk hk
    refine ⟨κ, b, y, rfl, hb, ?_⟩
    exact hQ2 _ _ _ (p2.drop hp h2 (nwr p hp)) (.of_own hp h2 ⟨[(κ, y)], upd_same, .cons rd .nil⟩)
end
end CL

set_option autoImplicit false
set_option linter.all false
set_option Elab.async false
set_option maxRecDepth 100000
set_option maxHeartbeats 4000000
namespace CL
open PySem PySem.Spec PyProof.Rows L2
/-! ### the text by places -/
def topS (i : Nat) : Stmt := PySem.Challenge.pw_sumshall_k99_whole_letters_and_sums_of_l.main.body.getD i (.Pass ⟨0, 0, 0, 0⟩)
abbrev t__law_hand : Stmt := topS 43
abbrev t__law_draw : Stmt := topS 44
abbrev t__law_some : Stmt := topS 45
abbrev t_is_row : Stmt := topS 11
abbrev t_is_integer : Stmt := topS 9
abbrev t_is_within : Stmt := topS 10
abbrev t_init_Group : Stmt := inClass (topS 31) 0
abbrev t_is_element : Stmt := topS 32
abbrev t_is_lot : Stmt := topS 34
abbrev t_check_lot : Stmt := topS 35
abbrev t_add : Stmt := topS 33
abbrev t_sums : Stmt := topS 37
abbrev t__law_rests : Stmt := topS 47
abbrev t__law_value : Stmt := topS 46
abbrev t_check_two : Stmt := topS 39
abbrev t_part_sizes : Stmt := topS 41
abbrev t_least_sums : Stmt := topS 40
abbrev t_check_number : Stmt := topS 12
abbrev t_prime_powers : Stmt := topS 13
abbrev t_is_prime : Stmt := topS 14
abbrev t_check_prime : Stmt := topS 20
abbrev t_is_sum : Stmt := topS 21
abbrev t_check_sum : Stmt := topS 22
abbrev t_is_rest_lot : Stmt := topS 24
abbrev t_rest_power : Stmt := topS 15
abbrev t_value : Stmt := topS 23
abbrev t_restricted : Stmt := topS 25
abbrev t_unlike_sums : Stmt := topS 26
abbrev t_least_unlike : Stmt := topS 27
abbrev t_law : Stmt := topS 48
/-! ### what the text has -/
def fldS : Nat → Str
  | 0 => "rounds"
  | 1 => "size"
  | n => ⟨Array.replicate (n + 100) 0⟩
def nmOf (K : PySem.W.Frag) (C : Addr) : Nm := ⟨K, fun _ => C, fun _ => 0, fldS⟩
structure Txt (K : PySem.W.Frag) (mg : Str → Option Value) (C : Addr) : Prop where
  inj : ∀ i j, (nmOf K C).fld i = (nmOf K C).fld j → i = j
  f_rounds : ∀ c, Cls K ((nmOf K C).cls c) ∧ NoAttr K ((nmOf K C).cls c) ((nmOf K C).fld 0)
  f_size : ∀ c, Cls K ((nmOf K C).cls c) ∧ NoAttr K ((nmOf K C).cls c) ((nmOf K C).fld 1)
  n_abs : mg "abs" = none
  n_all : mg "all" = none
  n_bool : mg "bool" = none
  n_dict : mg "dict" = none
  n_int : mg "int" = none
  n_isinstance : mg "isinstance" = none
  n_len : mg "len" = none
  n_list : mg "list" = none
  n_min : mg "min" = none
  n_range : mg "range" = none
  n_set : mg "set" = none
  n_sorted : mg "sorted" = none
  n_tuple : mg "tuple" = none
  n_zip : mg "zip" = none
  c_MOST_ITEMS : ∃ t, mg "MOST_ITEMS" = some (.int 60 t)
  c_MOST_LETTERS : ∃ t, mg "MOST_LETTERS" = some (.int 4 t)
  c_MOST_PRIME : ∃ t, mg "MOST_PRIME" = some (.int 50 t)
  c_MOST_ROUNDS : ∃ t, mg "MOST_ROUNDS" = some (.int 6 t)
  c_MOST_SIZE : ∃ t, mg "MOST_SIZE" = some (.int 64 t)
/-! ### each def -/
section
variable {P : Program} {w : World} {K : PySem.W.Frag} {mg : Str → Option Value} {base : Heap} {C : Addr}
theorem sc__law_hand : FnScope ["script", "cells", "cell"] ["script"] (defScope t__law_hand) := ⟨rfl, rfl, rfl, by decide +kernel, rfl, by decide +kernel, by decide +kernel⟩
theorem ok__law_hand (T : Txt K mg C) {f : Addr} {fd : FuncData} (F : L2.Fun K "_law_hand" "_law_hand" t__law_hand f fd) (hm : mg "_law_hand" = some (.ref f)) : C8.Cal P w K mg base 1 "_law_hand" (spF (nmOf K C) F__law_hand) [] := by
  refine cal_done (Γ := G__law_hand) (body' := b__law_hand) (io := false) (k := 0) F hm (F.binds fun _ _ _ _ _ _ us hl => match us, hl with | [_], _ => rfl) sc__law_hand fun cdv A outer s H E hr => ?_
  have nd := sc__law_hand.nd
  exact (ss_cons (st_setLc rfl nd rfl rfl rfl (blkOk_by (own := [("cell", 2)]) (by kernel_rfl)) (by decide) (by decide) (i_it rfl (s_slice rfl (n_ 0) o_none (o_some s_int))) (fun _ _ _ _ _ => (pg_n nd)) (fun _ _ _ _ _ => ts_nil) (fun _ _ _ _ _ => (s_bi .abs (fun t h => pe_callB (cr_bi rfl rfl .abs rfl) rfl T.n_abs bt_abs h) (a_c (s_bi .int (fun t h => pe_callTy (cr_bi rfl rfl .int rfl) rfl T.n_int bt_int h) (a_c (n_ 2) a_nil)) a_nil))) (fun _ => rfl))
      (ss_cons (st_ret (s_lst (a_c (n_ 1) (a_c s_int (a_c s_int (a_c (s_bin rfl .add s_int (s_bin rfl .mul s_int (s_bi .len (fun t h => pe_callB (cr_bi rfl rfl .len rfl) rfl T.n_len bt_len h) (a_c (n_ 1) a_nil)))) (a_c s_int a_nil))))) (by decide)))
      ss_nil))
theorem sc__law_draw : FnScope ["hand", "many", "cell", "digit", "number"] ["hand", "many"] (defScope t__law_draw) := ⟨rfl, rfl, rfl, by decide +kernel, rfl, by decide +kernel, by decide +kernel⟩
theorem ok__law_draw (T : Txt K mg C) {f : Addr} {fd : FuncData} (F : L2.Fun K "_law_draw" "_law_draw" t__law_draw f fd) (hm : mg "_law_draw" = some (.ref f)) : C8.Cal P w K mg base 1 "_law_draw" (spF (nmOf K C) F__law_draw) [] := by
  refine cal_done (Γ := G__law_draw) (body' := b__law_draw) (io := true) (k := 0) F hm (F.binds fun _ _ _ _ _ _ us hl => match us, hl with | [_, _], _ => rfl) sc__law_draw fun cdv A outer s H E hr => ?_
  have nd := sc__law_draw.nd
  exact (ss_cons (st_ife (SndW.t (w_and (t_cmp rfl (hu70 hr) .eq (nomark _) (s_sub rfl (hu70 hr) (n_ 0) s_int (fun _ _ => rfl)) s_int) (w_and1 (t_cmp rfl (hu70 hr) .lt (nomark _) (s_sub rfl (hu70 hr) (n_ 0) s_int (fun _ _ => rfl)) (s_bi .len (fun t h => pe_callB (cr_bi rfl rfl .len rfl) rfl T.n_len bt_len h) (a_c (s_sub rfl (hu70 hr) (n_ 0) s_int (fun _ _ => rfl)) a_nil)))))) (ss_cons (st_set nd rfl (by first | exact Or.inl rfl | exact Or.inr rfl) rfl (by first | exact Or.inl rfl | exact Or.inr rfl) (s_sub rfl (hu70 hr) (s_sub rfl (hu70 hr) (n_ 0) s_int (fun _ _ => rfl)) (s_sub rfl (hu70 hr) (n_ 0) s_int (fun _ _ => rfl)) (fun _ _ => rfl)))
      (ss_cons (st_asg rfl rfl rfl (s_bin rfl .add (s_sub rfl (hu70 hr) (n_ 0) s_int (fun _ _ => rfl)) s_int) (g_sub (hu70 hr) rfl (by first | exact Or.inl rfl | exact Or.inr (Or.inl rfl) | exact Or.inr (Or.inr rfl)) (by decide) (by decide) s_int (fun _ => rfl)))
      (ss_cons (st_asg rfl rfl rfl (s_bin rfl .mod (s_bi .int (fun t h => pe_callTy (cr_bi rfl rfl .int rfl) rfl T.n_int bt_int h) (a_c (s_bin rfl .add (s_bin rfl .add (s_bin rfl .mul (s_sub rfl (hu70 hr) (n_ 0) s_int (fun _ _ => rfl)) s_int) (s_bin rfl .mul (n_ 2) s_int)) s_int) a_nil)) s_int) (g_sub (hu70 hr) rfl (by first | exact Or.inl rfl | exact Or.inr (Or.inl rfl) | exact Or.inr (Or.inr rfl)) (by decide) (by decide) s_int (fun _ => rfl)))
      (ss_cons (st_asg rfl rfl rfl (s_ife (t_cmp rfl (hu70 hr) .ge (nomark _) (n_ 2) (s_bin rfl .pow s_int s_int)) (n_ 2) s_int) (g_sub (hu70 hr) rfl (by first | exact Or.inl rfl | exact Or.inr (Or.inl rfl) | exact Or.inr (Or.inr rfl)) (by decide) (by decide) s_int (fun _ => rfl)))
      ss_nil)))) ss_nil)
      (ss_cons (st_ife (t_cmp rfl (hu70 hr) .gt (nomark _) (s_sub rfl (hu70 hr) (n_ 0) s_int (fun _ _ => rfl)) s_int) (ss_cons (st_set nd rfl (by first | exact Or.inl rfl | exact Or.inr rfl) rfl (by first | exact Or.inl rfl | exact Or.inr rfl) (s_bin rfl .mod (s_bi .int (fun t h => pe_callTy (cr_bi rfl rfl .int rfl) rfl T.n_int bt_int h) (a_c (s_sub rfl (hu70 hr) (n_ 0) s_int (fun _ _ => rfl)) a_nil)) (n_ 1)))
      (ss_cons (st_asg rfl rfl rfl (s_bin rfl .fdiv (s_sub rfl (hu70 hr) (n_ 0) s_int (fun _ _ => rfl)) (n_ 1)) (g_sub (hu70 hr) rfl (by first | exact Or.inl rfl | exact Or.inr (Or.inl rfl) | exact Or.inr (Or.inr rfl)) (by decide) (by decide) s_int (fun _ => rfl)))
      (ss_cons (st_ret (n_ 3))
      ss_nil))) ss_nil)
      (ss_cons (st_asg rfl rfl rfl (s_bin rfl .add (s_sub rfl (hu70 hr) (n_ 0) s_int (fun _ _ => rfl)) s_int) (g_sub (hu70 hr) rfl (by first | exact Or.inl rfl | exact Or.inr (Or.inl rfl) | exact Or.inr (Or.inr rfl)) (by decide) (by decide) s_int (fun _ => rfl)))
      (ss_cons (st_set nd rfl (by first | exact Or.inl rfl | exact Or.inr rfl) rfl (by first | exact Or.inl rfl | exact Or.inr rfl) (s_bin rfl .mod (s_bi .int (fun t h => pe_callTy (cr_bi rfl rfl .int rfl) rfl T.n_int bt_int h) (a_c (s_bin rfl .mul (s_bi .int (fun t h => pe_callTy (cr_bi rfl rfl .int rfl) rfl T.n_int bt_int h) (a_c (s_bin rfl .add (s_sub rfl (hu70 hr) (n_ 0) s_int (fun _ _ => rfl)) (s_bin rfl .mul s_int (s_sub rfl (hu70 hr) (n_ 0) s_int (fun _ _ => rfl)))) a_nil)) s_int) a_nil)) s_int))
      (ss_cons (st_set nd rfl (by first | exact Or.inl rfl | exact Or.inr rfl) rfl (by first | exact Or.inl rfl | exact Or.inr rfl) (s_bin rfl .mod (s_bi .int (fun t h => pe_callTy (cr_bi rfl rfl .int rfl) rfl T.n_int bt_int h) (a_c (s_bin rfl .mul (n_ 4) (s_bin rfl .add (s_bin rfl .fdiv (n_ 4) s_int) s_int)) a_nil)) s_int))
      (ss_cons (st_set nd rfl (by first | exact Or.inl rfl | exact Or.inr rfl) rfl (by first | exact Or.inl rfl | exact Or.inr rfl) (s_bin rfl .mod (s_bi .int (fun t h => pe_callTy (cr_bi rfl rfl .int rfl) rfl T.n_int bt_int h) (a_c (s_bin rfl .mul (n_ 4) (s_bin rfl .add (s_bin rfl .fdiv (n_ 4) s_int) s_int)) a_nil)) s_int))
      (ss_cons (st_ret (s_bin rfl .mod (s_bi .int (fun t h => pe_callTy (cr_bi rfl rfl .int rfl) rfl T.n_int bt_int h) (a_c (s_bin rfl .fdiv (n_ 4) s_int) a_nil)) (n_ 1)))
      ss_nil)))))))
theorem sc__law_some : FnScope ["hand", "things"] ["hand", "things"] (defScope t__law_some) := ⟨rfl, rfl, rfl, by decide +kernel, rfl, by decide +kernel, by decide +kernel⟩
theorem ok__law_some (T : Txt K mg C) (c__law_draw : C8.Cal P w K mg base 1 "_law_draw" (spF (nmOf K C) F__law_draw) []) {f : Addr} {fd : FuncData} (F : L2.Fun K "_law_some" "_law_some" t__law_some f fd) (hm : mg "_law_some" = some (.ref f)) : C8.Cal P w K mg base 2 "_law_some" (spF (nmOf K C) F__law_some) [] := by
  refine cal_done (Γ := G__law_some) (body' := b__law_some) (io := true) (k := 1) F hm (F.binds fun _ _ _ _ _ _ us hl => match us, hl with | [_, _], _ => rfl) sc__law_some fun cdv A outer s H E hr => ?_
  have nd := sc__law_some.nd
  exact (ss_cons (st_ret (s_sub rfl (hu70 hr) (n_ 1) (s_call (f := 17) (Fn := F__law_draw) rfl c__law_draw hr (by decide) rfl rfl rfl rfl (a_c (n_ 0) (a_c (s_bi .len (fun t h => pe_callB (cr_bi rfl rfl .len rfl) rfl T.n_len bt_len h) (a_c (n_ 1) a_nil)) a_nil))) (fun _ _ => rfl)))
      ss_nil)
theorem sc_is_row : FnScope ["thing"] ["thing"] (defScope t_is_row) := ⟨rfl, rfl, rfl, by decide +kernel, rfl, by decide +kernel, by decide +kernel⟩
theorem ok_is_row (T : Txt K mg C) {f : Addr} {fd : FuncData} (F : L2.Fun K "is_row" "is_row" t_is_row f fd) (hm : mg "is_row" = some (.ref f)) : C8.Cal P w K mg base 1 "is_row" (spF (nmOf K C) F_is_row) [] := by
  refine cal_done (Γ := G_is_row) (body' := b_is_row) (io := false) (k := 0) F hm (F.binds fun _ _ _ _ _ _ us hl => match us, hl with | [_], _ => rfl) sc_is_row fun cdv A outer s H E hr => ?_
  have nd := sc_is_row.nd
  exact (ss_cons (st_ret (s_isi2 rfl .list .tuple rfl T.n_isinstance rfl T.n_list rfl T.n_tuple rfl (n_ 0)))
      ss_nil)
theorem sc_is_integer : FnScope ["thing"] ["thing"] (defScope t_is_integer) := ⟨rfl, rfl, rfl, by decide +kernel, rfl, by decide +kernel, by decide +kernel⟩
theorem ok_is_integer (T : Txt K mg C) {f : Addr} {fd : FuncData} (F : L2.Fun K "is_integer" "is_integer" t_is_integer f fd) (hm : mg "is_integer" = some (.ref f)) : C8.Cal P w K mg base 1 "is_integer" (spF (nmOf K C) F_is_integer) [] := by
  refine cal_done (Γ := G_is_integer) (body' := b_is_integer) (io := false) (k := 0) F hm (F.binds fun _ _ _ _ _ _ us hl => match us, hl with | [_], _ => rfl) sc_is_integer fun cdv A outer s H E hr => ?_
  have nd := sc_is_integer.nd
  exact (ss_cons (st_ret (s_and (s_isi1 rfl .int rfl T.n_isinstance rfl T.n_int rfl (n_ 0)) (s_one (s_not (s_isi1 rfl .bool rfl T.n_isinstance rfl T.n_bool rfl (n_ 0))))))
      ss_nil)
theorem sc_is_within : FnScope ["thing", "low", "high"] ["thing", "low", "high"] (defScope t_is_within) := ⟨rfl, rfl, rfl, by decide +kernel, rfl, by decide +kernel, by decide +kernel⟩
theorem ok_is_within (T : Txt K mg C) (c_is_integer : C8.Cal P w K mg base 1 "is_integer" (spF (nmOf K C) F_is_integer) []) {f : Addr} {fd : FuncData} (F : L2.Fun K "is_within" "is_within" t_is_within f fd) (hm : mg "is_within" = some (.ref f)) : C8.Cal P w K mg base 2 "is_within" (spF (nmOf K C) F_is_within) [] := by
  refine cal_done (Γ := G_is_within) (body' := b_is_within) (io := false) (k := 1) F hm (F.binds fun _ _ _ _ _ _ us hl => match us, hl with | [_, _, _], _ => rfl) sc_is_within fun cdv A outer s H E hr => ?_
  have nd := sc_is_within.nd
  exact (ss_cons (st_ret (s_and (s_call (f := 0) (Fn := F_is_integer) rfl c_is_integer hr (by decide) rfl rfl rfl rfl (a_c (n_ 0) a_nil)) (s_one (s_chain rfl (hu70 hr) .le .le rfl (n_ 1) (n_ 0) (n_ 2)))))
      ss_nil)
theorem sc_init_Group : FnScope ["self", "rounds", "one", "size"] ["self", "rounds"] (defScope t_init_Group) := ⟨rfl, rfl, rfl, by decide +kernel, rfl, by decide +kernel, by decide +kernel⟩
theorem ok_init_Group (T : Txt K mg C) (c_is_row : C8.Cal P w K mg base 1 "is_row" (spF (nmOf K C) F_is_row) []) (c_is_within : C8.Cal P w K mg base 2 "is_within" (spF (nmOf K C) F_is_within) []) {f : Addr} {fd : FuncData} (M : Mk K C f) (F : L2.Fun K "__init__" "Group.__init__" t_init_Group f fd) (hm : mg "Group" = some (.ref C)) : C8.Mak P w K mg base 3 "Group" C (spF (nmOf K C) F_init_Group) [] := by
  refine mak_done (Γ := G_init_Group) (body' := b_init_Group) (io := true) (k := 2) M F hm (F.binds fun _ _ _ _ _ _ us hl => match us, hl with | [_, _], _ => rfl) sc_init_Group fun cdv A outer s H E hr => ?_
  have nd := sc_init_Group.nd
  exact (ss_cons (st_ife (SndW.t (w_or (t_not (t_val (s_call (f := 2) (Fn := F_is_row) rfl c_is_row hr (by decide) rfl rfl rfl rfl (a_c (n_ 1) a_nil)) (fun _ => rfl))) (w_or1 (t_not (t_chain rfl (hu70 hr) .le .le rfl s_int (s_bi .len (fun t h => pe_callB (cr_bi rfl rfl .len rfl) rfl T.n_len bt_len h) (a_c (n_ 1) a_nil)) (k_ T.c_MOST_ROUNDS)))))) (ss_cons st_never
      ss_nil) ss_nil)
      (ss_cons (st_ife (t_not (t_val (s_bi .all (fun t h => pe_callB (cr_bi rfl rfl .all rfl) rfl T.n_all bt_all h) (a_c (s_lc rfl nd (blkOk_by (own := [("one", 2)]) (by kernel_rfl)) (by decide) (by decide) (i_it rfl (n_ 1)) (fun _ _ _ _ _ => (pg_n nd)) (fun _ _ _ _ _ => ts_nil) (fun _ _ _ _ _ => (s_call (f := 3) (Fn := F_is_within) rfl c_is_within hr (by decide) rfl rfl rfl rfl (a_c (n_ 2) (a_c s_int (a_c (k_ T.c_MOST_SIZE) a_nil))))) (fun _ => rfl)) a_nil)) (fun _ => rfl))) (ss_cons st_never
      ss_nil) ss_nil)
      (ss_cons (st_set nd rfl (by first | exact Or.inl rfl | exact Or.inr rfl) rfl (by first | exact Or.inl rfl | exact Or.inr rfl) s_int)
      (ss_cons (st_for PassesOwn.never rfl (i_it rfl (n_ 1)) (pg_n nd) (ss_cons (st_set nd rfl (by first | exact Or.inl rfl | exact Or.inr rfl) rfl (by first | exact Or.inl rfl | exact Or.inr rfl) (s_bin rfl .mul (n_ 3) (n_ 2)))
      ss_nil) (fun _ => rfl))
      (ss_cons (st_ife (t_cmp rfl (hu70 hr) .gt (nomark _) (n_ 3) (k_ T.c_MOST_SIZE)) (ss_cons st_never
      ss_nil) ss_nil)
      (ss_cons (st_asg rfl rfl rfl (s_tup (a_c (s_bi .tuple (fun t h => pe_callTy (cr_bi rfl rfl .tuple rfl) rfl T.n_tuple bt_tuple h) (a_c (n_ 1) a_nil)) (a_c (n_ 3) a_nil)) (by decide)) (g_tup rfl (gs_cons (g_attr (f := 0) rfl T.inj T.f_rounds rfl (by first | exact Or.inl rfl | exact Or.inr (Or.inl rfl) | exact Or.inr (Or.inr rfl)) (by decide) (by decide)) (gs_cons (g_attr (f := 1) rfl T.inj T.f_size rfl (by first | exact Or.inl rfl | exact Or.inr (Or.inl rfl) | exact Or.inr (Or.inr rfl)) (by decide) (by decide)) gs_nil rfl) rfl) rfl rfl rfl))
      ss_nil))))))
theorem sc_is_element : FnScope ["group", "thing", "one", "number"] ["group", "thing"] (defScope t_is_element) := ⟨rfl, rfl, rfl, by decide +kernel, rfl, by decide +kernel, by decide +kernel⟩
theorem ok_is_element (T : Txt K mg C) (c_is_within : C8.Cal P w K mg base 2 "is_within" (spF (nmOf K C) F_is_within) []) {f : Addr} {fd : FuncData} (F : L2.Fun K "is_element" "is_element" t_is_element f fd) (hm : mg "is_element" = some (.ref f)) : C8.Cal P w K mg base 3 "is_element" (spF (nmOf K C) F_is_element) [] := by
  refine cal_done (Γ := G_is_element) (body' := b_is_element) (io := false) (k := 2) F hm (F.binds fun _ _ _ _ _ _ us hl => match us, hl with | [_, _], _ => rfl) sc_is_element fun cdv A outer s H E hr => ?_
  have nd := sc_is_element.nd
  exact (ss_cons (st_ife (SndW.t (w_or (t_not (t_val (s_isi1 rfl .tuple rfl T.n_isinstance rfl T.n_tuple rfl (n_ 1)) (fun _ => rfl))) (w_or1 (t_cmp rfl (hu70 hr) .ne (nomark _) (s_bi .len (fun t h => pe_callB (cr_bi rfl rfl .len rfl) rfl T.n_len bt_len h) (a_c (n_ 1) a_nil)) (s_bi .len (fun t h => pe_callB (cr_bi rfl rfl .len rfl) rfl T.n_len bt_len h) (a_c (s_attr (f := 0) rfl T.inj (T.f_rounds) rfl (n_ 0)) a_nil)))))) (ss_cons (st_ret s_bl)
      ss_nil) ss_nil)
      (ss_cons (st_ret (s_bi .all (fun t h => pe_callB (cr_bi rfl rfl .all rfl) rfl T.n_all bt_all h) (a_c (s_lc rfl nd (blkOk_by (own := [("one", 2), ("number", 3)]) (by kernel_rfl)) (by decide) (by decide) (i_zip2 rfl rfl T.n_zip rfl rfl (a_c (n_ 1) (a_c (s_attr (f := 0) rfl T.inj (T.f_rounds) rfl (n_ 0)) a_nil))) (fun _ _ _ _ _ => (pg_t rfl rfl (pgs_c (pg_n nd) (pgs_c (pg_n nd) pgs_n)))) (fun _ _ _ _ _ => ts_nil) (fun _ _ _ _ _ => (s_call (f := 3) (Fn := F_is_within) rfl c_is_within hr (by decide) rfl rfl rfl rfl (a_c (n_ 2) (a_c s_int (a_c (s_bin rfl .sub (n_ 3) s_int) a_nil))))) (fun _ => rfl)) a_nil)))
      ss_nil))
theorem sc_is_lot : FnScope ["group", "thing", "one", "other"] ["group", "thing"] (defScope t_is_lot) := ⟨rfl, rfl, rfl, by decide +kernel, rfl, by decide +kernel, by decide +kernel⟩
theorem ok_is_lot (T : Txt K mg C) (c_is_element : C8.Cal P w K mg base 3 "is_element" (spF (nmOf K C) F_is_element) []) {f : Addr} {fd : FuncData} (F : L2.Fun K "is_lot" "is_lot" t_is_lot f fd) (hm : mg "is_lot" = some (.ref f)) : C8.Cal P w K mg base 4 "is_lot" (spF (nmOf K C) F_is_lot) [] := by
  refine cal_done (Γ := G_is_lot) (body' := b_is_lot) (io := false) (k := 3) F hm (F.binds fun _ _ _ _ _ _ us hl => match us, hl with | [_, _], _ => rfl) sc_is_lot fun cdv A outer s H E hr => ?_
  have nd := sc_is_lot.nd
  exact (ss_cons (st_ife (SndW.t (w_or (t_not (t_val (s_isi1 rfl .tuple rfl T.n_isinstance rfl T.n_tuple rfl (n_ 1)) (fun _ => rfl))) (w_or1 (t_not (t_val (s_bi .all (fun t h => pe_callB (cr_bi rfl rfl .all rfl) rfl T.n_all bt_all h) (a_c (s_lc rfl nd (blkOk_by (own := [("one", 2)]) (by kernel_rfl)) (by decide) (by decide) (i_it rfl (n_ 1)) (fun _ _ _ _ _ => (pg_n nd)) (fun _ _ _ _ _ => ts_nil) (fun _ _ _ _ _ => (s_call (f := 10) (Fn := F_is_element) rfl c_is_element hr (by decide) rfl rfl rfl rfl (a_c (n_ 0) (a_c (n_ 2) a_nil)))) (fun _ => rfl)) a_nil)) (fun _ => rfl)))))) (ss_cons (st_ret s_bl)
      ss_nil) ss_nil)
      (ss_cons (st_ret (s_bi .all (fun t h => pe_callB (cr_bi rfl rfl .all rfl) rfl T.n_all bt_all h) (a_c (s_lc rfl nd (blkOk_by (own := [("one", 2), ("other", 3)]) (by kernel_rfl)) (by decide) (by decide) (i_zip2 rfl rfl T.n_zip rfl rfl (a_c (n_ 1) (a_c (s_slice rfl (n_ 1) (o_some s_int) o_none) a_nil))) (fun _ _ _ _ _ => (pg_t rfl rfl (pgs_c (pg_n nd) (pgs_c (pg_n nd) pgs_n)))) (fun _ _ _ _ _ => ts_nil) (fun _ _ _ _ _ => (s_cmp rfl (hu70 hr) .lt (nomark _) (n_ 2) (n_ 3))) (fun _ => rfl)) a_nil)))
      ss_nil))
theorem sc_check_lot : FnScope ["group", "lot"] ["group", "lot"] (defScope t_check_lot) := ⟨rfl, rfl, rfl, by decide +kernel, rfl, by decide +kernel, by decide +kernel⟩
theorem ok_check_lot (T : Txt K mg C) (c_is_lot : C8.Cal P w K mg base 4 "is_lot" (spF (nmOf K C) F_is_lot) []) {f : Addr} {fd : FuncData} (F : L2.Fun K "check_lot" "check_lot" t_check_lot f fd) (hm : mg "check_lot" = some (.ref f)) : C8.Cal P w K mg base 5 "check_lot" (spF (nmOf K C) F_check_lot) [] := by
  refine cal_done (Γ := G_check_lot) (body' := b_check_lot) (io := false) (k := 4) F hm (F.binds fun _ _ _ _ _ _ us hl => match us, hl with | [_, _], _ => rfl) sc_check_lot fun cdv A outer s H E hr => ?_
  have nd := sc_check_lot.nd
  exact (ss_cons (st_ife (t_not (t_val (s_call (f := 28) (Fn := F_is_lot) rfl c_is_lot hr (by decide) rfl rfl rfl rfl (a_c (n_ 0) (a_c (n_ 1) a_nil))) (fun _ => rfl))) (ss_cons st_never
      ss_nil) ss_nil)
      ss_nil)
theorem sc_add : FnScope ["group", "one", "other", "mine", "its", "number"] ["group", "one", "other"] (defScope t_add) := ⟨rfl, rfl, rfl, by decide +kernel, rfl, by decide +kernel, by decide +kernel⟩
theorem ok_add (T : Txt K mg C) {f : Addr} {fd : FuncData} (F : L2.Fun K "add" "add" t_add f fd) (hm : mg "add" = some (.ref f)) : C8.Cal P w K mg base 1 "add" (spF (nmOf K C) F_add) [] := by
  refine cal_done (Γ := G_add) (body' := b_add) (io := false) (k := 0) F hm (F.binds fun _ _ _ _ _ _ us hl => match us, hl with | [_, _, _], _ => rfl) sc_add fun cdv A outer s H E hr => ?_
  have nd := sc_add.nd
  exact (ss_cons (st_ret (s_bi .tuple (fun t h => pe_callTy (cr_bi rfl rfl .tuple rfl) rfl T.n_tuple bt_tuple h) (a_c (s_lc rfl nd (blkOk_by (own := [("mine", 3), ("its", 4), ("number", 5)]) (by kernel_rfl)) (by decide) (by decide) (i_zip3 rfl rfl T.n_zip rfl rfl (a_c (n_ 1) (a_c (n_ 2) (a_c (s_attr (f := 0) rfl T.inj (T.f_rounds) rfl (n_ 0)) a_nil)))) (fun _ _ _ _ _ => (pg_t rfl rfl (pgs_c (pg_n nd) (pgs_c (pg_n nd) (pgs_c (pg_n nd) pgs_n))))) (fun _ _ _ _ _ => ts_nil) (fun _ _ _ _ _ => (s_bin rfl .mod (s_bi .int (fun t h => pe_callTy (cr_bi rfl rfl .int rfl) rfl T.n_int bt_int h) (a_c (s_bin rfl .add (n_ 3) (n_ 4)) a_nil)) (n_ 5))) (fun _ => rfl)) a_nil)))
      ss_nil)
theorem sc_sums : FnScope ["group", "one", "other", "found", "mine", "its"] ["group", "one", "other"] (defScope t_sums) := ⟨rfl, rfl, rfl, by decide +kernel, rfl, by decide +kernel, by decide +kernel⟩
theorem ok_sums (T : Txt K mg C) (c_check_lot : C8.Cal P w K mg base 5 "check_lot" (spF (nmOf K C) F_check_lot) []) (c_add : C8.Cal P w K mg base 1 "add" (spF (nmOf K C) F_add) []) {f : Addr} {fd : FuncData} (F : L2.Fun K "sums" "sums" t_sums f fd) (hm : mg "sums" = some (.ref f)) : C8.Cal P w K mg base 6 "sums" (spF (nmOf K C) F_sums) [] := by
  refine cal_done (Γ := G_sums) (body' := b_sums) (io := false) (k := 5) F hm (F.binds fun _ _ _ _ _ _ us hl => match us, hl with | [_, _, _], _ => rfl) sc_sums fun cdv A outer s H E hr => ?_
  have nd := sc_sums.nd
  exact (ss_cons (st_expr rfl (s_call (f := 43) (Fn := F_check_lot) rfl c_check_lot hr (by decide) rfl rfl rfl rfl (a_c (n_ 0) (a_c (n_ 1) a_nil))))
      (ss_cons (st_expr rfl (s_call (f := 43) (Fn := F_check_lot) rfl c_check_lot hr (by decide) rfl rfl rfl rfl (a_c (n_ 0) (a_c (n_ 2) a_nil))))
      (ss_cons (st_set nd rfl (by first | exact Or.inl rfl | exact Or.inr rfl) rfl (by first | exact Or.inl rfl | exact Or.inr rfl) s_dicT)
      (ss_cons (st_for PassesOwn.never rfl (i_it rfl (n_ 1)) (pg_n nd) (ss_cons (st_for PassesOwn.never rfl (i_it rfl (n_ 2)) (pg_n nd) (ss_cons (st_asg rfl rfl rfl s_bl (g_sub (hu70 hr) rfl (by first | exact Or.inl rfl | exact Or.inr (Or.inl rfl) | exact Or.inr (Or.inr rfl)) (by decide) (by decide) (s_call (f := 42) (Fn := F_add) rfl c_add hr (by decide) rfl rfl rfl rfl (a_c (n_ 0) (a_c (n_ 4) (a_c (n_ 5) a_nil)))) (fun _ => rfl)))
      ss_nil) (fun _ => rfl))
      ss_nil) (fun _ => rfl))
      (ss_cons (st_ret (s_bi .tuple (fun t h => pe_callTy (cr_bi rfl rfl .tuple rfl) rfl T.n_tuple bt_tuple h) (a_c (s_sorted rfl rfl rfl T.n_sorted rfl (n_ 3)) a_nil)))
      ss_nil)))))
theorem sc__law_rests : FnScope ["hand", "prime", "found", "one"] ["hand", "prime"] (defScope t__law_rests) := ⟨rfl, rfl, rfl, by decide +kernel, rfl, by decide +kernel, by decide +kernel⟩
theorem ok__law_rests (T : Txt K mg C) (c__law_draw : C8.Cal P w K mg base 1 "_law_draw" (spF (nmOf K C) F__law_draw) []) {f : Addr} {fd : FuncData} (F : L2.Fun K "_law_rests" "_law_rests" t__law_rests f fd) (hm : mg "_law_rests" = some (.ref f)) : C8.Cal P w K mg base 2 "_law_rests" (spF (nmOf K C) F__law_rests) [] := by
  refine cal_done (Γ := G__law_rests) (body' := b__law_rests) (io := true) (k := 1) F hm (F.binds fun _ _ _ _ _ _ us hl => match us, hl with | [_, _], _ => rfl) sc__law_rests fun cdv A outer s H E hr => ?_
  have nd := sc__law_rests.nd
  exact (ss_cons (st_setLc rfl nd rfl rfl rfl (blkOk_by (own := [("one", 3)]) (by kernel_rfl)) (by decide) (by decide) (i_rng1 rfl T.n_range rfl (a_c (n_ 1) a_nil)) (fun _ _ _ _ _ => (pg_n nd)) (fun _ _ _ _ _ => ts_one (t_cmp rfl (hu70 hr) .eq (nomark _) (s_call (f := 17) (Fn := F__law_draw) rfl c__law_draw hr (by decide) rfl rfl rfl rfl (a_c (n_ 0) (a_c s_int a_nil))) s_int)) (fun _ _ _ _ _ => (n_ 3)) (fun _ => rfl))
      (ss_cons (st_ret (s_ife (t_cmp rfl (hu70 hr) .gt (nomark _) (s_bi .len (fun t h => pe_callB (cr_bi rfl rfl .len rfl) rfl T.n_len bt_len h) (a_c (n_ 2) a_nil)) s_int) (s_bi .tuple (fun t h => pe_callTy (cr_bi rfl rfl .tuple rfl) rfl T.n_tuple bt_tuple h) (a_c (n_ 2) a_nil)) (s_tup (a_c (s_call (f := 17) (Fn := F__law_draw) rfl c__law_draw hr (by decide) rfl rfl rfl rfl (a_c (n_ 0) (a_c (n_ 1) a_nil))) a_nil) (by decide))))
      ss_nil))
theorem sc__law_value : FnScope ["prime", "items", "point", "total_now", "powers", "number", "base", "power_now", "again"] ["prime", "items", "point"] (defScope t__law_value) := ⟨rfl, rfl, rfl, by decide +kernel, rfl, by decide +kernel, by decide +kernel⟩
theorem ok__law_value (T : Txt K mg C) {f : Addr} {fd : FuncData} (F : L2.Fun K "_law_value" "_law_value" t__law_value f fd) (hm : mg "_law_value" = some (.ref f)) : C8.Cal P w K mg base 1 "_law_value" (spF (nmOf K C) F__law_value) [] := by
  refine cal_done (Γ := G__law_value) (body' := b__law_value) (io := false) (k := 0) F hm (F.binds fun _ _ _ _ _ _ us hl => match us, hl with | [_, _, _], _ => rfl) sc__law_value fun cdv A outer s H E hr => ?_
  have nd := sc__law_value.nd
  exact (ss_cons (st_set nd rfl (by first | exact Or.inl rfl | exact Or.inr rfl) rfl (by first | exact Or.inl rfl | exact Or.inr rfl) s_int)
      (ss_cons (st_for PassesOwn.never rfl (i_it rfl (s_sorted rfl rfl rfl T.n_sorted rfl (n_ 1))) (pg_n nd) (ss_cons (st_set nd rfl (by first | exact Or.inl rfl | exact Or.inr rfl) rfl (by first | exact Or.inl rfl | exact Or.inr rfl) (s_sub rfl (hu70 hr) (n_ 1) (n_ 4) (fun _ _ => rfl)))
      (ss_cons (st_for PassesOwn.never rfl (i_zip2 rfl rfl T.n_zip rfl rfl (a_c (n_ 2) (a_c (n_ 4) a_nil))) (pg_t rfl rfl (pgs_c (pg_n nd) (pgs_c (pg_n nd) pgs_n))) (ss_cons (st_for PassesOwn.never rfl (i_rng1 rfl T.n_range rfl (a_c (n_ 7) a_nil)) (pg_n nd) (ss_cons (st_set nd rfl (by first | exact Or.inl rfl | exact Or.inr rfl) rfl (by first | exact Or.inl rfl | exact Or.inr rfl) (s_bin rfl .mod (s_bi .int (fun t h => pe_callTy (cr_bi rfl rfl .int rfl) rfl T.n_int bt_int h) (a_c (s_bin rfl .mul (n_ 5) (n_ 6)) a_nil)) (n_ 0)))
      ss_nil) (fun _ => rfl))
      ss_nil) (fun _ => rfl))
      (ss_cons (st_set nd rfl (by first | exact Or.inl rfl | exact Or.inr rfl) rfl (by first | exact Or.inl rfl | exact Or.inr rfl) (s_bin rfl .add (n_ 3) (n_ 5)))
      ss_nil))) (fun _ => rfl))
      (ss_cons (st_ret (s_bin rfl .mod (s_bi .int (fun t h => pe_callTy (cr_bi rfl rfl .int rfl) rfl T.n_int bt_int h) (a_c (n_ 3) a_nil)) (n_ 0)))
      ss_nil)))
theorem sc_check_two : FnScope ["group", "one", "other"] ["group", "one", "other"] (defScope t_check_two) := ⟨rfl, rfl, rfl, by decide +kernel, rfl, by decide +kernel, by decide +kernel⟩
theorem ok_check_two (T : Txt K mg C) (c_check_lot : C8.Cal P w K mg base 5 "check_lot" (spF (nmOf K C) F_check_lot) []) {f : Addr} {fd : FuncData} (F : L2.Fun K "check_two" "check_two" t_check_two f fd) (hm : mg "check_two" = some (.ref f)) : C8.Cal P w K mg base 6 "check_two" (spF (nmOf K C) F_check_two) [] := by
  refine cal_done (Γ := G_check_two) (body' := b_check_two) (io := false) (k := 5) F hm (F.binds fun _ _ _ _ _ _ us hl => match us, hl with | [_, _, _], _ => rfl) sc_check_two fun cdv A outer s H E hr => ?_
  have nd := sc_check_two.nd
  exact (ss_cons (st_expr rfl (s_call (f := 43) (Fn := F_check_lot) rfl c_check_lot hr (by decide) rfl rfl rfl rfl (a_c (n_ 0) (a_c (n_ 1) a_nil))))
      (ss_cons (st_expr rfl (s_call (f := 43) (Fn := F_check_lot) rfl c_check_lot hr (by decide) rfl rfl rfl rfl (a_c (n_ 0) (a_c (n_ 2) a_nil))))
      (ss_cons (st_ife (SndW.t (w_or (t_cmp rfl (hu70 hr) .eq (nomark _) (n_ 1) (s_tup a_nil (by decide))) (w_or1 (t_cmp rfl (hu70 hr) .eq (nomark _) (n_ 2) (s_tup a_nil (by decide)))))) (ss_cons st_never
      ss_nil) ss_nil)
      ss_nil)))
theorem sc_part_sizes : FnScope ["group", "size"] ["group"] (defScope t_part_sizes) := ⟨rfl, rfl, rfl, by decide +kernel, rfl, by decide +kernel, by decide +kernel⟩
theorem ok_part_sizes (T : Txt K mg C) {f : Addr} {fd : FuncData} (F : L2.Fun K "part_sizes" "part_sizes" t_part_sizes f fd) (hm : mg "part_sizes" = some (.ref f)) : C8.Cal P w K mg base 1 "part_sizes" (spF (nmOf K C) F_part_sizes) [] := by
  refine cal_done (Γ := G_part_sizes) (body' := b_part_sizes) (io := false) (k := 0) F hm (F.binds fun _ _ _ _ _ _ us hl => match us, hl with | [_], _ => rfl) sc_part_sizes fun cdv A outer s H E hr => ?_
  have nd := sc_part_sizes.nd
  exact (ss_cons (st_ret (s_lc rfl nd (blkOk_by (own := [("size", 1)]) (by kernel_rfl)) (by decide) (by decide) (i_rng2 rfl T.n_range rfl rfl (a_c s_int (a_c (s_bin rfl .add (s_attr (f := 1) rfl T.inj (T.f_size) rfl (n_ 0)) s_int) a_nil))) (fun _ _ _ _ _ => (pg_n nd)) (fun _ _ _ _ _ => ts_one (t_cmp rfl (hu70 hr) .eq (nomark _) (s_bin rfl .mod (s_bi .int (fun t h => pe_callTy (cr_bi rfl rfl .int rfl) rfl T.n_int bt_int h) (a_c (s_attr (f := 1) rfl T.inj (T.f_size) rfl (n_ 0)) a_nil)) (n_ 1)) s_int)) (fun _ _ _ _ _ => (n_ 1)) (fun _ => rfl)))
      ss_nil)
theorem sc_least_sums : FnScope ["group", "one", "other", "best", "size", "here"] ["group", "one", "other"] (defScope t_least_sums) := ⟨rfl, rfl, rfl, by decide +kernel, rfl, by decide +kernel, by decide +kernel⟩
theorem ok_least_sums (T : Txt K mg C) (c_check_two : C8.Cal P w K mg base 6 "check_two" (spF (nmOf K C) F_check_two) []) (c_part_sizes : C8.Cal P w K mg base 1 "part_sizes" (spF (nmOf K C) F_part_sizes) []) {f : Addr} {fd : FuncData} (F : L2.Fun K "least_sums" "least_sums" t_least_sums f fd) (hm : mg "least_sums" = some (.ref f)) : C8.Cal P w K mg base 7 "least_sums" (spF (nmOf K C) F_least_sums) [] := by
  refine cal_done (Γ := G_least_sums) (body' := b_least_sums) (io := false) (k := 6) F hm (F.binds fun _ _ _ _ _ _ us hl => match us, hl with | [_, _, _], _ => rfl) sc_least_sums fun cdv A outer s H E hr => ?_
  have nd := sc_least_sums.nd
  exact (ss_cons (st_expr rfl (s_call (f := 46) (Fn := F_check_two) rfl c_check_two hr (by decide) rfl rfl rfl rfl (a_c (n_ 0) (a_c (n_ 1) (a_c (n_ 2) a_nil)))))
      (ss_cons (st_set nd rfl (by first | exact Or.inl rfl | exact Or.inr rfl) rfl (by first | exact Or.inl rfl | exact Or.inr rfl) s_non)
      (ss_cons (st_for PassesOwn.never rfl (i_it rfl (s_call (f := 49) (Fn := F_part_sizes) rfl c_part_sizes hr (by decide) rfl rfl rfl rfl (a_c (n_ 0) a_nil))) (pg_n nd) (ss_cons (st_set nd rfl (by first | exact Or.inl rfl | exact Or.inr rfl) rfl (by first | exact Or.inl rfl | exact Or.inr rfl) (s_bin rfl .mul (n_ 4) (s_bin rfl .sub (s_bin rfl .add (s_neg (s_bin rfl .fdiv (s_neg (s_bi .len (fun t h => pe_callB (cr_bi rfl rfl .len rfl) rfl T.n_len bt_len h) (a_c (n_ 1) a_nil))) (n_ 4))) (s_neg (s_bin rfl .fdiv (s_neg (s_bi .len (fun t h => pe_callB (cr_bi rfl rfl .len rfl) rfl T.n_len bt_len h) (a_c (n_ 2) a_nil))) (n_ 4)))) s_int)))
      (ss_cons (st_set nd rfl (by first | exact Or.inl rfl | exact Or.inr rfl) rfl (by first | exact Or.inl rfl | exact Or.inr rfl) (s_ife (SndW.t (w_or (t_isN false (n_ 3)) (w_or1 (t_cmp rfl (hu70 hr) .lt (nomark _) (n_ 5) (n_ 3))))) (n_ 5) (n_ 3)))
      ss_nil)) (fun _ => rfl))
      (ss_cons (st_ret (n_ 3))
      ss_nil))))
theorem sc_check_number : FnScope ["thing", "low", "high"] ["thing", "low", "high"] (defScope t_check_number) := ⟨rfl, rfl, rfl, by decide +kernel, rfl, by decide +kernel, by decide +kernel⟩
theorem ok_check_number (T : Txt K mg C) (c_is_within : C8.Cal P w K mg base 2 "is_within" (spF (nmOf K C) F_is_within) []) {f : Addr} {fd : FuncData} (F : L2.Fun K "check_number" "check_number" t_check_number f fd) (hm : mg "check_number" = some (.ref f)) : C8.Cal P w K mg base 3 "check_number" (spF (nmOf K C) F_check_number) [] := by
  refine cal_done (Γ := G_check_number) (body' := b_check_number) (io := false) (k := 2) F hm (F.binds fun _ _ _ _ _ _ us hl => match us, hl with | [_, _, _], _ => rfl) sc_check_number fun cdv A outer s H E hr => ?_
  have nd := sc_check_number.nd
  exact (ss_cons (st_ife (t_not (t_val (s_call (f := 3) (Fn := F_is_within) rfl c_is_within hr (by decide) rfl rfl rfl rfl (a_c (n_ 0) (a_c (n_ 1) (a_c (n_ 2) a_nil)))) (fun _ => rfl))) (ss_cons st_never
      ss_nil) ss_nil)
      ss_nil)
theorem sc_prime_powers : FnScope ["number", "found", "left", "one", "power"] ["number"] (defScope t_prime_powers) := ⟨rfl, rfl, rfl, by decide +kernel, rfl, by decide +kernel, by decide +kernel⟩
theorem ok_prime_powers (T : Txt K mg C) (c_check_number : C8.Cal P w K mg base 3 "check_number" (spF (nmOf K C) F_check_number) []) {f : Addr} {fd : FuncData} (F : L2.Fun K "prime_powers" "prime_powers" t_prime_powers f fd) (hm : mg "prime_powers" = some (.ref f)) : C8.Cal P w K mg base 4 "prime_powers" (spF (nmOf K C) F_prime_powers) [] := by
  refine cal_done (Γ := G_prime_powers) (body' := b_prime_powers) (io := false) (k := 3) F hm (F.binds fun _ _ _ _ _ _ us hl => match us, hl with | [_], _ => rfl) sc_prime_powers fun cdv A outer s H E hr => ?_
  have nd := sc_prime_powers.nd
  exact (ss_cons (st_expr rfl (s_call (f := 24) (Fn := F_check_number) rfl c_check_number hr (by decide) rfl rfl rfl rfl (a_c (n_ 0) (a_c s_int (a_c (s_bin rfl .pow s_int s_int) a_nil)))))
      (ss_cons (st_par3 rfl nd rfl rfl rfl (by decide) (by decide) (by decide) rfl rfl rfl rfl rfl (a_c (s_lst a_nil (by decide)) (a_c (n_ 0) (a_c s_int a_nil))))
      (ss_cons (st_while PassesOwn.never (t_cmp rfl (hu70 hr) .gt (nomark _) (n_ 2) s_int) (ss_cons (st_ife (t_cmp rfl (hu70 hr) .gt (nomark _) (s_bin rfl .mul (n_ 3) (n_ 3)) (n_ 2)) (ss_cons (st_set nd rfl (by first | exact Or.inl rfl | exact Or.inr rfl) rfl (by first | exact Or.inl rfl | exact Or.inr rfl) (n_ 2))
      ss_nil) ss_nil)
      (ss_cons (st_set nd rfl (by first | exact Or.inl rfl | exact Or.inr rfl) rfl (by first | exact Or.inl rfl | exact Or.inr rfl) s_int)
      (ss_cons (st_while PassesOwn.never (t_cmp rfl (hu70 hr) .eq (nomark _) (s_bin rfl .mod (s_bi .int (fun t h => pe_callTy (cr_bi rfl rfl .int rfl) rfl T.n_int bt_int h) (a_c (n_ 2) a_nil)) (n_ 3)) s_int) (ss_cons (st_par2 rfl nd rfl rfl (by decide) rfl rfl rfl rfl (a_c (s_bin rfl .fdiv (n_ 2) (n_ 3)) (a_c (s_bin rfl .add (n_ 4) s_int) a_nil)))
      ss_nil))
      (ss_cons (st_expr rfl (s_extend rfl rfl rfl rfl (n_ 1) (s_ife (t_cmp rfl (hu70 hr) .gt (nomark _) (n_ 4) s_int) (s_lst (a_c (s_tup (a_c (n_ 3) (a_c (n_ 4) a_nil)) (by decide)) a_nil) (by decide)) (s_lst a_nil (by decide)))))
      (ss_cons (st_aug (op := .add) nd rfl (by first | exact Or.inl rfl | exact Or.inr rfl) (by first | exact Or.inl rfl | exact Or.inr rfl) s_int)
      ss_nil))))))
      (ss_cons (st_ret (s_bi .tuple (fun t h => pe_callTy (cr_bi rfl rfl .tuple rfl) rfl T.n_tuple bt_tuple h) (a_c (n_ 1) a_nil)))
      ss_nil))))
theorem sc_is_prime : FnScope ["number"] ["number"] (defScope t_is_prime) := ⟨rfl, rfl, rfl, by decide +kernel, rfl, by decide +kernel, by decide +kernel⟩
theorem ok_is_prime (T : Txt K mg C) (c_is_within : C8.Cal P w K mg base 2 "is_within" (spF (nmOf K C) F_is_within) []) (c_prime_powers : C8.Cal P w K mg base 4 "prime_powers" (spF (nmOf K C) F_prime_powers) []) {f : Addr} {fd : FuncData} (F : L2.Fun K "is_prime" "is_prime" t_is_prime f fd) (hm : mg "is_prime" = some (.ref f)) : C8.Cal P w K mg base 5 "is_prime" (spF (nmOf K C) F_is_prime) [] := by
  refine cal_done (Γ := G_is_prime) (body' := b_is_prime) (io := false) (k := 4) F hm (F.binds fun _ _ _ _ _ _ us hl => match us, hl with | [_], _ => rfl) sc_is_prime fun cdv A outer s H E hr => ?_
  have nd := sc_is_prime.nd
  exact (ss_cons (st_ife (t_not (t_val (s_call (f := 3) (Fn := F_is_within) rfl c_is_within hr (by decide) rfl rfl rfl rfl (a_c (n_ 0) (a_c s_int (a_c (s_bin rfl .pow s_int s_int) a_nil)))) (fun _ => rfl))) (ss_cons (st_ret s_bl)
      ss_nil) ss_nil)
      (ss_cons (st_ret (s_cmp rfl (hu70 hr) .eq (nomark _) (s_call (f := 25) (Fn := F_prime_powers) rfl c_prime_powers hr (by decide) rfl rfl rfl rfl (a_c (n_ 0) a_nil)) (s_tup (a_c (s_tup (a_c (n_ 0) (a_c s_int a_nil)) (by decide)) a_nil) (by decide))))
      ss_nil))
theorem sc_check_prime : FnScope ["prime"] ["prime"] (defScope t_check_prime) := ⟨rfl, rfl, rfl, by decide +kernel, rfl, by decide +kernel, by decide +kernel⟩
theorem ok_check_prime (T : Txt K mg C) (c_is_prime : C8.Cal P w K mg base 5 "is_prime" (spF (nmOf K C) F_is_prime) []) {f : Addr} {fd : FuncData} (F : L2.Fun K "check_prime" "check_prime" t_check_prime f fd) (hm : mg "check_prime" = some (.ref f)) : C8.Cal P w K mg base 6 "check_prime" (spF (nmOf K C) F_check_prime) [] := by
  refine cal_done (Γ := G_check_prime) (body' := b_check_prime) (io := false) (k := 5) F hm (F.binds fun _ _ _ _ _ _ us hl => match us, hl with | [_], _ => rfl) sc_check_prime fun cdv A outer s H E hr => ?_
  have nd := sc_check_prime.nd
  exact (ss_cons (st_ife (SndW.t (w_or (t_not (t_val (s_call (f := 30) (Fn := F_is_prime) rfl c_is_prime hr (by decide) rfl rfl rfl rfl (a_c (n_ 0) a_nil)) (fun _ => rfl))) (w_or1 (t_cmp rfl (hu70 hr) .ge (nomark _) (n_ 0) (k_ T.c_MOST_PRIME))))) (ss_cons st_never
      ss_nil) ss_nil)
      ss_nil)
theorem sc_is_sum : FnScope ["letters", "thing", "powers", "one"] ["letters", "thing"] (defScope t_is_sum) := ⟨rfl, rfl, rfl, by decide +kernel, rfl, by decide +kernel, by decide +kernel⟩
theorem ok_is_sum (T : Txt K mg C) (c_is_within : C8.Cal P w K mg base 2 "is_within" (spF (nmOf K C) F_is_within) []) (c_is_integer : C8.Cal P w K mg base 1 "is_integer" (spF (nmOf K C) F_is_integer) []) {f : Addr} {fd : FuncData} (F : L2.Fun K "is_sum" "is_sum" t_is_sum f fd) (hm : mg "is_sum" = some (.ref f)) : C8.Cal P w K mg base 3 "is_sum" (spF (nmOf K C) F_is_sum) [] := by
  refine cal_done (Γ := G_is_sum) (body' := b_is_sum) (io := false) (k := 2) F hm (F.binds fun _ _ _ _ _ _ us hl => match us, hl with | [_, _], _ => rfl) sc_is_sum fun cdv A outer s H E hr => ?_
  have nd := sc_is_sum.nd
  exact (ss_cons (st_ife (SndW.t (w_or (t_not (t_val (s_isi1 rfl .dict rfl T.n_isinstance rfl T.n_dict rfl (n_ 1)) (fun _ => rfl))) (w_or (t_cmp rfl (hu70 hr) .gt (nomark _) (s_bi .len (fun t h => pe_callB (cr_bi rfl rfl .len rfl) rfl T.n_len bt_len h) (a_c (n_ 1) a_nil)) (k_ T.c_MOST_ITEMS)) (w_or1 (t_not (t_val (s_call (f := 3) (Fn := F_is_within) rfl c_is_within hr (by decide) rfl rfl rfl rfl (a_c (n_ 0) (a_c s_int (a_c (k_ T.c_MOST_LETTERS) a_nil)))) (fun _ => rfl))))))) (ss_cons (st_ret s_bl)
      ss_nil) ss_nil)
      (ss_cons (st_forD PassesOwn.never rfl (pg_n nd) (ss_cons (st_ife (SndW.t (w_or (t_not (t_val (s_isi1 rfl .tuple rfl T.n_isinstance rfl T.n_tuple rfl (n_ 2)) (fun _ => rfl))) (w_or (t_cmp rfl (hu70 hr) .ne (nomark _) (s_bi .len (fun t h => pe_callB (cr_bi rfl rfl .len rfl) rfl T.n_len bt_len h) (a_c (n_ 2) a_nil)) (n_ 0)) (w_or1 (t_not (t_val (s_call (f := 0) (Fn := F_is_integer) rfl c_is_integer hr (by decide) rfl rfl rfl rfl (a_c (s_sub rfl (hu70 hr) (n_ 1) (n_ 2) (fun _ _ => rfl)) a_nil)) (fun _ => rfl))))))) (ss_cons (st_ret s_bl)
      ss_nil) ss_nil)
      (ss_cons (st_ife (t_not (t_val (s_bi .all (fun t h => pe_callB (cr_bi rfl rfl .all rfl) rfl T.n_all bt_all h) (a_c (s_lc rfl nd (blkOk_by (own := [("one", 3)]) (by kernel_rfl)) (by decide) (by decide) (i_it rfl (n_ 2)) (fun _ _ _ _ _ => (pg_n nd)) (fun _ _ _ _ _ => ts_nil) (fun _ _ _ _ _ => (s_call (f := 3) (Fn := F_is_within) rfl c_is_within hr (by decide) rfl rfl rfl rfl (a_c (n_ 3) (a_c s_int (a_c s_int a_nil))))) (fun _ => rfl)) a_nil)) (fun _ => rfl))) (ss_cons (st_ret s_bl)
      ss_nil) ss_nil)
      ss_nil)))
      (ss_cons (st_ret s_bl)
      ss_nil)))
theorem sc_check_sum : FnScope ["letters", "items"] ["letters", "items"] (defScope t_check_sum) := ⟨rfl, rfl, rfl, by decide +kernel, rfl, by decide +kernel, by decide +kernel⟩
theorem ok_check_sum (T : Txt K mg C) (c_is_sum : C8.Cal P w K mg base 3 "is_sum" (spF (nmOf K C) F_is_sum) []) {f : Addr} {fd : FuncData} (F : L2.Fun K "check_sum" "check_sum" t_check_sum f fd) (hm : mg "check_sum" = some (.ref f)) : C8.Cal P w K mg base 4 "check_sum" (spF (nmOf K C) F_check_sum) [] := by
  refine cal_done (Γ := G_check_sum) (body' := b_check_sum) (io := false) (k := 3) F hm (F.binds fun _ _ _ _ _ _ us hl => match us, hl with | [_, _], _ => rfl) sc_check_sum fun cdv A outer s H E hr => ?_
  have nd := sc_check_sum.nd
  exact (ss_cons (st_ife (t_not (t_val (s_call (f := 187) (Fn := F_is_sum) rfl c_is_sum hr (by decide) rfl rfl rfl rfl (a_c (n_ 0) (a_c (n_ 1) a_nil))) (fun _ => rfl))) (ss_cons st_never
      ss_nil) ss_nil)
      ss_nil)
theorem sc_is_rest_lot : FnScope ["prime", "thing", "one", "other"] ["prime", "thing"] (defScope t_is_rest_lot) := ⟨rfl, rfl, rfl, by decide +kernel, rfl, by decide +kernel, by decide +kernel⟩
theorem ok_is_rest_lot (T : Txt K mg C) (c_is_within : C8.Cal P w K mg base 2 "is_within" (spF (nmOf K C) F_is_within) []) {f : Addr} {fd : FuncData} (F : L2.Fun K "is_rest_lot" "is_rest_lot" t_is_rest_lot f fd) (hm : mg "is_rest_lot" = some (.ref f)) : C8.Cal P w K mg base 3 "is_rest_lot" (spF (nmOf K C) F_is_rest_lot) [] := by
  refine cal_done (Γ := G_is_rest_lot) (body' := b_is_rest_lot) (io := false) (k := 2) F hm (F.binds fun _ _ _ _ _ _ us hl => match us, hl with | [_, _], _ => rfl) sc_is_rest_lot fun cdv A outer s H E hr => ?_
  have nd := sc_is_rest_lot.nd
  exact (ss_cons (st_ife (SndW.t (w_or (t_not (t_val (s_isi1 rfl .tuple rfl T.n_isinstance rfl T.n_tuple rfl (n_ 1)) (fun _ => rfl))) (w_or (t_cmp rfl (hu70 hr) .eq (nomark _) (n_ 1) (s_tup a_nil (by decide))) (w_or1 (t_not (t_val (s_bi .all (fun t h => pe_callB (cr_bi rfl rfl .all rfl) rfl T.n_all bt_all h) (a_c (s_lc rfl nd (blkOk_by (own := [("one", 2)]) (by kernel_rfl)) (by decide) (by decide) (i_it rfl (n_ 1)) (fun _ _ _ _ _ => (pg_n nd)) (fun _ _ _ _ _ => ts_nil) (fun _ _ _ _ _ => (s_call (f := 3) (Fn := F_is_within) rfl c_is_within hr (by decide) rfl rfl rfl rfl (a_c (n_ 2) (a_c s_int (a_c (s_bin rfl .sub (n_ 0) s_int) a_nil))))) (fun _ => rfl)) a_nil)) (fun _ => rfl))))))) (ss_cons (st_ret s_bl)
      ss_nil) ss_nil)
      (ss_cons (st_ret (s_bi .all (fun t h => pe_callB (cr_bi rfl rfl .all rfl) rfl T.n_all bt_all h) (a_c (s_lc rfl nd (blkOk_by (own := [("one", 2), ("other", 3)]) (by kernel_rfl)) (by decide) (by decide) (i_zip2 rfl rfl T.n_zip rfl rfl (a_c (n_ 1) (a_c (s_slice rfl (n_ 1) (o_some s_int) o_none) a_nil))) (fun _ _ _ _ _ => (pg_t rfl rfl (pgs_c (pg_n nd) (pgs_c (pg_n nd) pgs_n)))) (fun _ _ _ _ _ => ts_nil) (fun _ _ _ _ _ => (s_cmp rfl (hu70 hr) .lt (nomark _) (n_ 2) (n_ 3))) (fun _ => rfl)) a_nil)))
      ss_nil))
theorem sc_rest_power : FnScope ["base", "power", "number", "found", "here", "left"] ["base", "power", "number"] (defScope t_rest_power) := ⟨rfl, rfl, rfl, by decide +kernel, rfl, by decide +kernel, by decide +kernel⟩
theorem ok_rest_power (T : Txt K mg C) {f : Addr} {fd : FuncData} (F : L2.Fun K "rest_power" "rest_power" t_rest_power f fd) (hm : mg "rest_power" = some (.ref f)) : C8.Cal P w K mg base 1 "rest_power" (spF (nmOf K C) F_rest_power) [] := by
  refine cal_done (Γ := G_rest_power) (body' := b_rest_power) (io := false) (k := 0) F hm (F.binds fun _ _ _ _ _ _ us hl => match us, hl with | [_, _, _], _ => rfl) sc_rest_power fun cdv A outer s H E hr => ?_
  have nd := sc_rest_power.nd
  exact (ss_cons (st_par3 rfl nd rfl rfl rfl (by decide) (by decide) (by decide) rfl rfl rfl rfl rfl (a_c (s_bin rfl .mod (s_bi .int (fun t h => pe_callTy (cr_bi rfl rfl .int rfl) rfl T.n_int bt_int h) (a_c s_int a_nil)) (n_ 2)) (a_c (s_bin rfl .mod (s_bi .int (fun t h => pe_callTy (cr_bi rfl rfl .int rfl) rfl T.n_int bt_int h) (a_c (n_ 0) a_nil)) (n_ 2)) (a_c (n_ 1) a_nil))))
      (ss_cons (st_while PassesOwn.never (t_cmp rfl (hu70 hr) .gt (nomark _) (n_ 5) s_int) (ss_cons (st_ife (t_cmp rfl (hu70 hr) .eq (nomark _) (s_bin rfl .mod (s_bi .int (fun t h => pe_callTy (cr_bi rfl rfl .int rfl) rfl T.n_int bt_int h) (a_c (n_ 5) a_nil)) s_int) s_int) (ss_cons (st_set nd rfl (by first | exact Or.inl rfl | exact Or.inr rfl) rfl (by first | exact Or.inl rfl | exact Or.inr rfl) (s_bin rfl .mod (s_bi .int (fun t h => pe_callTy (cr_bi rfl rfl .int rfl) rfl T.n_int bt_int h) (a_c (s_bin rfl .mul (n_ 3) (n_ 4)) a_nil)) (n_ 2)))
      ss_nil) ss_nil)
      (ss_cons (st_set nd rfl (by first | exact Or.inl rfl | exact Or.inr rfl) rfl (by first | exact Or.inl rfl | exact Or.inr rfl) (s_bin rfl .mod (s_bi .int (fun t h => pe_callTy (cr_bi rfl rfl .int rfl) rfl T.n_int bt_int h) (a_c (s_bin rfl .mul (n_ 4) (n_ 4)) a_nil)) (n_ 2)))
      (ss_cons (st_set nd rfl (by first | exact Or.inl rfl | exact Or.inr rfl) rfl (by first | exact Or.inl rfl | exact Or.inr rfl) (s_bin rfl .fdiv (n_ 5) s_int))
      ss_nil))))
      (ss_cons (st_ret (n_ 3))
      ss_nil)))
theorem sc_value : FnScope ["prime", "items", "point", "one", "found", "powers", "here", "power"] ["prime", "items", "point"] (defScope t_value) := ⟨rfl, rfl, rfl, by decide +kernel, rfl, by decide +kernel, by decide +kernel⟩
theorem ok_value (T : Txt K mg C) (c_check_prime : C8.Cal P w K mg base 6 "check_prime" (spF (nmOf K C) F_check_prime) []) (c_is_integer : C8.Cal P w K mg base 1 "is_integer" (spF (nmOf K C) F_is_integer) []) (c_check_sum : C8.Cal P w K mg base 4 "check_sum" (spF (nmOf K C) F_check_sum) []) (c_rest_power : C8.Cal P w K mg base 1 "rest_power" (spF (nmOf K C) F_rest_power) []) {f : Addr} {fd : FuncData} (F : L2.Fun K "value" "value" t_value f fd) (hm : mg "value" = some (.ref f)) : C8.Cal P w K mg base 7 "value" (spF (nmOf K C) F_value) [] := by
  refine cal_done (Γ := G_value) (body' := b_value) (io := false) (k := 6) F hm (F.binds fun _ _ _ _ _ _ us hl => match us, hl with | [_, _, _], _ => rfl) sc_value fun cdv A outer s H E hr => ?_
  have nd := sc_value.nd
  exact (ss_cons (st_expr rfl (s_call (f := 31) (Fn := F_check_prime) rfl c_check_prime hr (by decide) rfl rfl rfl rfl (a_c (n_ 0) a_nil)))
      (ss_cons (st_ife (SndW.t (w_or (t_not (t_val (s_isi1 rfl .tuple rfl T.n_isinstance rfl T.n_tuple rfl (n_ 2)) (fun _ => rfl))) (w_or1 (t_not (t_chain rfl (hu70 hr) .le .le rfl s_int (s_bi .len (fun t h => pe_callB (cr_bi rfl rfl .len rfl) rfl T.n_len bt_len h) (a_c (n_ 2) a_nil)) (k_ T.c_MOST_LETTERS)))))) (ss_cons st_never
      ss_nil) ss_nil)
      (ss_cons (st_ife (t_not (t_val (s_bi .all (fun t h => pe_callB (cr_bi rfl rfl .all rfl) rfl T.n_all bt_all h) (a_c (s_lc rfl nd (blkOk_by (own := [("one", 3)]) (by kernel_rfl)) (by decide) (by decide) (i_it rfl (n_ 2)) (fun _ _ _ _ _ => (pg_n nd)) (fun _ _ _ _ _ => ts_nil) (fun _ _ _ _ _ => (s_call (f := 0) (Fn := F_is_integer) rfl c_is_integer hr (by decide) rfl rfl rfl rfl (a_c (n_ 3) a_nil))) (fun _ => rfl)) a_nil)) (fun _ => rfl))) (ss_cons st_never
      ss_nil) ss_nil)
      (ss_cons (st_expr rfl (s_call (f := 188) (Fn := F_check_sum) rfl c_check_sum hr (by decide) rfl rfl rfl rfl (a_c (s_bi .len (fun t h => pe_callB (cr_bi rfl rfl .len rfl) rfl T.n_len bt_len h) (a_c (n_ 2) a_nil)) (a_c (n_ 1) a_nil))))
      (ss_cons (st_set nd rfl (by first | exact Or.inl rfl | exact Or.inr rfl) rfl (by first | exact Or.inl rfl | exact Or.inr rfl) s_int)
      (ss_cons (st_forD PassesOwn.never rfl (pg_n nd) (ss_cons (st_set nd rfl (by first | exact Or.inl rfl | exact Or.inr rfl) rfl (by first | exact Or.inl rfl | exact Or.inr rfl) (s_sub rfl (hu70 hr) (n_ 1) (n_ 5) (fun _ _ => rfl)))
      (ss_cons (st_for PassesOwn.never rfl (i_zip2 rfl rfl T.n_zip rfl rfl (a_c (n_ 5) (a_c (n_ 2) a_nil))) (pg_t rfl rfl (pgs_c (pg_n nd) (pgs_c (pg_n nd) pgs_n))) (ss_cons (st_set nd rfl (by first | exact Or.inl rfl | exact Or.inr rfl) rfl (by first | exact Or.inl rfl | exact Or.inr rfl) (s_bin rfl .mod (s_bi .int (fun t h => pe_callTy (cr_bi rfl rfl .int rfl) rfl T.n_int bt_int h) (a_c (s_bin rfl .mul (n_ 6) (s_call (f := 26) (Fn := F_rest_power) rfl c_rest_power hr (by decide) rfl rfl rfl rfl (a_c (n_ 3) (a_c (n_ 7) (a_c (n_ 0) a_nil))))) a_nil)) (n_ 0)))
      ss_nil) (fun _ => rfl))
      (ss_cons (st_aug (op := .add) nd rfl (by first | exact Or.inl rfl | exact Or.inr rfl) (by first | exact Or.inl rfl | exact Or.inr rfl) (n_ 6))
      ss_nil))))
      (ss_cons (st_ret (s_bin rfl .mod (s_bi .int (fun t h => pe_callTy (cr_bi rfl rfl .int rfl) rfl T.n_int bt_int h) (a_c (n_ 4) a_nil)) (n_ 0)))
      ss_nil)))))))
theorem sc_restricted : FnScope ["prime", "one", "other", "items", "found", "mine", "its"] ["prime", "one", "other", "items"] (defScope t_restricted) := ⟨rfl, rfl, rfl, by decide +kernel, rfl, by decide +kernel, by decide +kernel⟩
theorem ok_restricted (T : Txt K mg C) (c_check_prime : C8.Cal P w K mg base 6 "check_prime" (spF (nmOf K C) F_check_prime) []) (c_is_rest_lot : C8.Cal P w K mg base 3 "is_rest_lot" (spF (nmOf K C) F_is_rest_lot) []) (c_check_sum : C8.Cal P w K mg base 4 "check_sum" (spF (nmOf K C) F_check_sum) []) (c_value : C8.Cal P w K mg base 7 "value" (spF (nmOf K C) F_value) []) {f : Addr} {fd : FuncData} (F : L2.Fun K "restricted" "restricted" t_restricted f fd) (hm : mg "restricted" = some (.ref f)) : C8.Cal P w K mg base 8 "restricted" (spF (nmOf K C) F_restricted) [] := by
  refine cal_done (Γ := G_restricted) (body' := b_restricted) (io := false) (k := 7) F hm (F.binds fun _ _ _ _ _ _ us hl => match us, hl with | [_, _, _, _], _ => rfl) sc_restricted fun cdv A outer s H E hr => ?_
  have nd := sc_restricted.nd
  exact (ss_cons (st_expr rfl (s_call (f := 31) (Fn := F_check_prime) rfl c_check_prime hr (by decide) rfl rfl rfl rfl (a_c (n_ 0) a_nil)))
      (ss_cons (st_ife (SndW.t (w_or (t_not (t_val (s_call (f := 189) (Fn := F_is_rest_lot) rfl c_is_rest_lot hr (by decide) rfl rfl rfl rfl (a_c (n_ 0) (a_c (n_ 1) a_nil))) (fun _ => rfl))) (w_or1 (t_not (t_val (s_call (f := 189) (Fn := F_is_rest_lot) rfl c_is_rest_lot hr (by decide) rfl rfl rfl rfl (a_c (n_ 0) (a_c (n_ 2) a_nil))) (fun _ => rfl)))))) (ss_cons st_never
      ss_nil) ss_nil)
      (ss_cons (st_expr rfl (s_call (f := 188) (Fn := F_check_sum) rfl c_check_sum hr (by decide) rfl rfl rfl rfl (a_c s_int (a_c (n_ 3) a_nil))))
      (ss_cons (st_set nd rfl (by first | exact Or.inl rfl | exact Or.inr rfl) rfl (by first | exact Or.inl rfl | exact Or.inr rfl) s_dicK)
      (ss_cons (st_for PassesOwn.never rfl (i_it rfl (n_ 1)) (pg_n nd) (ss_cons (st_for PassesOwn.never rfl (i_it rfl (n_ 2)) (pg_n nd) (ss_cons (st_ife (t_cmp rfl (hu70 hr) .ne (nomark _) (s_call (f := 190) (Fn := F_value) rfl c_value hr (by decide) rfl rfl rfl rfl (a_c (n_ 0) (a_c (n_ 3) (a_c (s_tup (a_c (n_ 5) (a_c (n_ 6) a_nil)) (by decide)) a_nil)))) s_int) (ss_cons (st_asg rfl rfl rfl s_bl (g_sub (hu70 hr) rfl (by first | exact Or.inl rfl | exact Or.inr (Or.inl rfl) | exact Or.inr (Or.inr rfl)) (by decide) (by decide) (s_bin rfl .mod (s_bi .int (fun t h => pe_callTy (cr_bi rfl rfl .int rfl) rfl T.n_int bt_int h) (a_c (s_bin rfl .add (n_ 5) (n_ 6)) a_nil)) (n_ 0)) (fun _ => rfl)))
      ss_nil) ss_nil)
      ss_nil) (fun _ => rfl))
      ss_nil) (fun _ => rfl))
      (ss_cons (st_ret (s_bi .tuple (fun t h => pe_callTy (cr_bi rfl rfl .tuple rfl) rfl T.n_tuple bt_tuple h) (a_c (s_sorted rfl rfl rfl T.n_sorted rfl (n_ 4)) a_nil)))
      ss_nil))))))
theorem sc_unlike_sums : FnScope ["prime", "lot", "many", "now", "one", "taken", "here"] ["prime", "lot", "many"] (defScope t_unlike_sums) := ⟨rfl, rfl, rfl, by decide +kernel, rfl, by decide +kernel, by decide +kernel⟩
theorem ok_unlike_sums (T : Txt K mg C) (c_check_prime : C8.Cal P w K mg base 6 "check_prime" (spF (nmOf K C) F_check_prime) []) (c_is_rest_lot : C8.Cal P w K mg base 3 "is_rest_lot" (spF (nmOf K C) F_is_rest_lot) []) (c_check_number : C8.Cal P w K mg base 3 "check_number" (spF (nmOf K C) F_check_number) []) {f : Addr} {fd : FuncData} (F : L2.Fun K "unlike_sums" "unlike_sums" t_unlike_sums f fd) (hm : mg "unlike_sums" = some (.ref f)) : C8.Cal P w K mg base 7 "unlike_sums" (spF (nmOf K C) F_unlike_sums) [] := by
  refine cal_done (Γ := G_unlike_sums) (body' := b_unlike_sums) (io := false) (k := 6) F hm (F.binds fun _ _ _ _ _ _ us hl => match us, hl with | [_, _, _], _ => rfl) sc_unlike_sums fun cdv A outer s H E hr => ?_
  have nd := sc_unlike_sums.nd
  exact (ss_cons (st_expr rfl (s_call (f := 31) (Fn := F_check_prime) rfl c_check_prime hr (by decide) rfl rfl rfl rfl (a_c (n_ 0) a_nil)))
      (ss_cons (st_ife (t_not (t_val (s_call (f := 189) (Fn := F_is_rest_lot) rfl c_is_rest_lot hr (by decide) rfl rfl rfl rfl (a_c (n_ 0) (a_c (n_ 1) a_nil))) (fun _ => rfl))) (ss_cons st_never
      ss_nil) ss_nil)
      (ss_cons (st_expr rfl (s_call (f := 24) (Fn := F_check_number) rfl c_check_number hr (by decide) rfl rfl rfl rfl (a_c (n_ 2) (a_c s_int (a_c (n_ 0) a_nil)))))
      (ss_cons (st_set nd rfl (by first | exact Or.inl rfl | exact Or.inr rfl) rfl (by first | exact Or.inl rfl | exact Or.inr rfl) (s_dic1 true (hu70 hr) (s_tup (a_c s_int (a_c s_int a_nil)) (by decide)) s_bl))
      (ss_cons (st_for PassesOwn.never rfl (i_it rfl (n_ 1)) (pg_n nd) (ss_cons (st_for PassesOwn.never rfl (i_it rfl (s_bi .list (fun t h => pe_callTy (cr_bi rfl rfl .list rfl) rfl T.n_list bt_list h) (a_c (n_ 3) a_nil))) (pg_t rfl rfl (pgs_c (pg_n nd) (pgs_c (pg_n nd) pgs_n))) (ss_cons (st_ife (t_cmp rfl (hu70 hr) .lt (nomark _) (n_ 5) (n_ 2)) (ss_cons (st_asg rfl rfl rfl s_bl (g_sub (hu70 hr) rfl (by first | exact Or.inl rfl | exact Or.inr (Or.inl rfl) | exact Or.inr (Or.inr rfl)) (by decide) (by decide) (s_tup (a_c (s_bin rfl .add (n_ 5) s_int) (a_c (s_bin rfl .mod (s_bi .int (fun t h => pe_callTy (cr_bi rfl rfl .int rfl) rfl T.n_int bt_int h) (a_c (s_bin rfl .add (n_ 6) (n_ 4)) a_nil)) (n_ 0)) a_nil)) (by decide)) (fun _ => rfl)))
      ss_nil) ss_nil)
      ss_nil) (fun _ => rfl))
      ss_nil) (fun _ => rfl))
      (ss_cons (st_ret (s_bi .tuple (fun t h => pe_callTy (cr_bi rfl rfl .tuple rfl) rfl T.n_tuple bt_tuple h) (a_c (s_sorted rfl rfl rfl T.n_sorted rfl (s_lcD rfl nd (blkOk_by (own := [("taken", 5), ("here", 6)]) (by kernel_rfl)) (by decide) (by decide)  (fun _ _ _ _ _ => (pg_t rfl rfl (pgs_c (pg_n nd) (pgs_c (pg_n nd) pgs_n)))) (fun _ _ _ _ _ => ts_one (t_cmp rfl (hu70 hr) .eq (nomark _) (n_ 5) (n_ 2))) (fun _ _ _ _ _ => (n_ 6)))) a_nil)))
      ss_nil))))))
theorem sc_least_unlike : FnScope ["prime", "size", "many"] ["prime", "size", "many"] (defScope t_least_unlike) := ⟨rfl, rfl, rfl, by decide +kernel, rfl, by decide +kernel, by decide +kernel⟩
theorem ok_least_unlike (T : Txt K mg C) (c_check_prime : C8.Cal P w K mg base 6 "check_prime" (spF (nmOf K C) F_check_prime) []) (c_check_number : C8.Cal P w K mg base 3 "check_number" (spF (nmOf K C) F_check_number) []) {f : Addr} {fd : FuncData} (F : L2.Fun K "least_unlike" "least_unlike" t_least_unlike f fd) (hm : mg "least_unlike" = some (.ref f)) : C8.Cal P w K mg base 7 "least_unlike" (spF (nmOf K C) F_least_unlike) [] := by
  refine cal_done (Γ := G_least_unlike) (body' := b_least_unlike) (io := false) (k := 6) F hm (F.binds fun _ _ _ _ _ _ us hl => match us, hl with | [_, _, _], _ => rfl) sc_least_unlike fun cdv A outer s H E hr => ?_
  have nd := sc_least_unlike.nd
  exact (ss_cons (st_expr rfl (s_call (f := 31) (Fn := F_check_prime) rfl c_check_prime hr (by decide) rfl rfl rfl rfl (a_c (n_ 0) a_nil)))
      (ss_cons (st_expr rfl (s_call (f := 24) (Fn := F_check_number) rfl c_check_number hr (by decide) rfl rfl rfl rfl (a_c (n_ 1) (a_c s_int (a_c (n_ 0) a_nil)))))
      (ss_cons (st_expr rfl (s_call (f := 24) (Fn := F_check_number) rfl c_check_number hr (by decide) rfl rfl rfl rfl (a_c (n_ 2) (a_c s_int (a_c (n_ 1) a_nil)))))
      (ss_cons (st_ret (s_bi .min2 (fun t h => pe_callB (cr_bi rfl rfl .min2 rfl) rfl T.n_min bt_min h) (a_c (n_ 0) (a_c (s_bin rfl .add (s_bin rfl .sub (s_bin rfl .mul (n_ 2) (n_ 1)) (s_bin rfl .mul (n_ 2) (n_ 2))) s_int) a_nil))))
      ss_nil))))
theorem sc_law : FnScope ["script", "hand", "turn", "prime", "one", "other", "items", "item", "point", "due", "a", "b", "apart", "pairs", "mine", "plain_now", "group", "first", "last", "whole"] ["script"] (defScope t_law) := ⟨rfl, rfl, rfl, by decide +kernel, rfl, by decide +kernel, by decide +kernel⟩
theorem ok_law (T : Txt K mg C) (c__law_hand : C8.Cal P w K mg base 1 "_law_hand" (spF (nmOf K C) F__law_hand) []) (c__law_some : C8.Cal P w K mg base 2 "_law_some" (spF (nmOf K C) F__law_some) []) (c__law_rests : C8.Cal P w K mg base 2 "_law_rests" (spF (nmOf K C) F__law_rests) []) (c__law_draw : C8.Cal P w K mg base 1 "_law_draw" (spF (nmOf K C) F__law_draw) []) (c_value : C8.Cal P w K mg base 7 "value" (spF (nmOf K C) F_value) []) (c__law_value : C8.Cal P w K mg base 1 "_law_value" (spF (nmOf K C) F__law_value) []) (c_restricted : C8.Cal P w K mg base 8 "restricted" (spF (nmOf K C) F_restricted) []) (c_unlike_sums : C8.Cal P w K mg base 7 "unlike_sums" (spF (nmOf K C) F_unlike_sums) []) (c_least_unlike : C8.Cal P w K mg base 7 "least_unlike" (spF (nmOf K C) F_least_unlike) []) (c_sums : C8.Cal P w K mg base 6 "sums" (spF (nmOf K C) F_sums) []) (c_least_sums : C8.Cal P w K mg base 7 "least_sums" (spF (nmOf K C) F_least_sums) []) (m_Group : C8.Mak P w K mg base 3 "Group" C (spF (nmOf K C) F_init_Group) []) {f : Addr} {fd : FuncData} (F : L2.Fun K "law" "law" t_law f fd) : FnOk P w K mg base L2.CX0 9 f fd ["script"] (spF (nmOf K C) F_law) := by
  refine fn_done (Γ := G_law) (body' := b_law) (io := false) (k := 8) F sc_law fun cdv A outer s H E hr => ?_
  have nd := sc_law.nd
  exact (ss_cons (st_set nd rfl (by first | exact Or.inl rfl | exact Or.inr rfl) rfl (by first | exact Or.inl rfl | exact Or.inr rfl) (s_call (f := 13) (Fn := F__law_hand) rfl c__law_hand hr (by decide) rfl rfl rfl rfl (a_c (n_ 0) a_nil)))
      (ss_cons (st_for PassesOwn.never rfl (i_rng1 rfl T.n_range rfl (a_c s_int a_nil)) (pg_n nd) (ss_cons (st_set nd rfl (by first | exact Or.inl rfl | exact Or.inr rfl) rfl (by first | exact Or.inl rfl | exact Or.inr rfl) (s_call (f := 50) (Fn := F__law_some) rfl c__law_some hr (by decide) rfl rfl rfl rfl (a_c (n_ 1) (a_c (s_lst (a_c s_int (a_c s_int (a_c s_int a_nil))) (by decide)) a_nil))))
      (ss_cons (st_parC3 rfl nd rfl rfl rfl (by first | exact Or.inl rfl | exact Or.inr rfl) (by first | exact Or.inl rfl | exact Or.inr rfl) (by first | exact Or.inl rfl | exact Or.inr rfl) (by first | exact Or.inl rfl | exact Or.inr rfl) (by first | exact Or.inl rfl | exact Or.inr rfl) (by first | exact Or.inl rfl | exact Or.inr rfl) rfl rfl rfl rfl rfl rfl rfl rfl (a_c (s_call (f := 191) (Fn := F__law_rests) rfl c__law_rests hr (by decide) rfl rfl rfl rfl (a_c (n_ 1) (a_c (n_ 3) a_nil))) (a_c (s_call (f := 191) (Fn := F__law_rests) rfl c__law_rests hr (by decide) rfl rfl rfl rfl (a_c (n_ 1) (a_c (n_ 3) a_nil))) (a_c s_dicT a_nil))))
      (ss_cons (st_for PassesOwn.never rfl (i_rng1 rfl T.n_range rfl (a_c (s_call (f := 17) (Fn := F__law_draw) rfl c__law_draw hr (by decide) rfl rfl rfl rfl (a_c (n_ 1) (a_c s_int a_nil))) a_nil)) (pg_n nd) (ss_cons (st_asg rfl rfl rfl (s_bin rfl .sub (s_call (f := 17) (Fn := F__law_draw) rfl c__law_draw hr (by decide) rfl rfl rfl rfl (a_c (n_ 1) (a_c s_int a_nil))) s_int) (g_sub (hu70 hr) rfl (by first | exact Or.inl rfl | exact Or.inr (Or.inl rfl) | exact Or.inr (Or.inr rfl)) (by decide) (by decide) (s_tup (a_c (s_call (f := 17) (Fn := F__law_draw) rfl c__law_draw hr (by decide) rfl rfl rfl rfl (a_c (n_ 1) (a_c s_int a_nil))) (a_c (s_call (f := 17) (Fn := F__law_draw) rfl c__law_draw hr (by decide) rfl rfl rfl rfl (a_c (n_ 1) (a_c s_int a_nil))) a_nil)) (by decide)) (fun _ => rfl)))
      ss_nil) (fun _ => rfl))
      (ss_cons (st_set nd rfl (by first | exact Or.inl rfl | exact Or.inr rfl) rfl (by first | exact Or.inl rfl | exact Or.inr rfl) (s_tup (a_c (s_call (f := 17) (Fn := F__law_draw) rfl c__law_draw hr (by decide) rfl rfl rfl rfl (a_c (n_ 1) (a_c (n_ 3) a_nil))) (a_c (s_call (f := 17) (Fn := F__law_draw) rfl c__law_draw hr (by decide) rfl rfl rfl rfl (a_c (n_ 1) (a_c (n_ 3) a_nil))) a_nil)) (by decide)))
      (ss_cons (st_ife (t_cmp rfl (hu70 hr) .ne (nomark _) (s_bin rfl .mod (s_bi .int (fun t h => pe_callTy (cr_bi rfl rfl .int rfl) rfl T.n_int bt_int h) (a_c (s_call (f := 190) (Fn := F_value) rfl c_value hr (by decide) rfl rfl rfl rfl (a_c (n_ 3) (a_c (n_ 6) (a_c (n_ 8) a_nil)))) a_nil)) (n_ 3)) (s_call (f := 192) (Fn := F__law_value) rfl c__law_value hr (by decide) rfl rfl rfl rfl (a_c (n_ 3) (a_c (n_ 6) (a_c (n_ 8) a_nil))))) (ss_cons (st_ret s_bl)
      ss_nil) ss_nil)
      (ss_cons (st_set nd rfl (by first | exact Or.inl rfl | exact Or.inr rfl) rfl (by first | exact Or.inl rfl | exact Or.inr rfl) (s_lst a_nil (by decide)))
      (ss_cons (st_for PassesOwn.never rfl (i_it rfl (n_ 4)) (pg_n nd) (ss_cons (st_expr rfl (s_extend rfl rfl rfl rfl (n_ 9) (s_lc rfl nd (blkOk_by (own := [("b", 11)]) (by kernel_rfl)) (by decide) (by decide) (i_it rfl (n_ 5)) (fun _ _ _ _ _ => (pg_n nd)) (fun _ _ _ _ _ => ts_one (t_cmp rfl (hu70 hr) .ne (nomark _) (s_call (f := 192) (Fn := F__law_value) rfl c__law_value hr (by decide) rfl rfl rfl rfl (a_c (n_ 3) (a_c (n_ 6) (a_c (s_tup (a_c (n_ 10) (a_c (n_ 11) a_nil)) (by decide)) a_nil)))) s_int)) (fun _ _ _ _ _ => (s_bin rfl .mod (s_bi .int (fun t h => pe_callTy (cr_bi rfl rfl .int rfl) rfl T.n_int bt_int h) (a_c (s_bin rfl .add (n_ 10) (n_ 11)) a_nil)) (n_ 3))) (fun _ => rfl))))
      ss_nil) (fun _ => rfl))
      (ss_cons (st_ife (t_cmp rfl (hu70 hr) .ne (nomark _) (s_bi .tuple (fun t h => pe_callTy (cr_bi rfl rfl .tuple rfl) rfl T.n_tuple bt_tuple h) (a_c (s_call (f := 193) (Fn := F_restricted) rfl c_restricted hr (by decide) rfl rfl rfl rfl (a_c (n_ 3) (a_c (n_ 4) (a_c (n_ 5) (a_c (n_ 6) a_nil))))) a_nil)) (s_bi .tuple (fun t h => pe_callTy (cr_bi rfl rfl .tuple rfl) rfl T.n_tuple bt_tuple h) (a_c (s_iset rfl rfl rfl T.n_sorted rfl T.n_set rfl rfl (n_ 9)) a_nil))) (ss_cons (st_ret s_bl)
      ss_nil) ss_nil)
      (ss_cons (st_set nd rfl (by first | exact Or.inl rfl | exact Or.inr rfl) rfl (by first | exact Or.inl rfl | exact Or.inr rfl) s_dicT)
      (ss_cons (st_asg rfl rfl rfl s_int (g_sub (hu70 hr) rfl (by first | exact Or.inl rfl | exact Or.inr (Or.inl rfl) | exact Or.inr (Or.inr rfl)) (by decide) (by decide) (s_tup (a_c s_int (a_c s_int a_nil)) (by decide)) (fun _ => rfl)))
      (ss_cons (st_asg rfl rfl rfl (s_neg s_int) (g_sub (hu70 hr) rfl (by first | exact Or.inl rfl | exact Or.inr (Or.inl rfl) | exact Or.inr (Or.inr rfl)) (by decide) (by decide) (s_tup (a_c s_int (a_c s_int a_nil)) (by decide)) (fun _ => rfl)))
      (ss_cons (st_set nd rfl (by first | exact Or.inl rfl | exact Or.inr rfl) rfl (by first | exact Or.inl rfl | exact Or.inr rfl) (s_lst a_nil (by decide)))
      (ss_cons (st_for PassesOwn.never rfl (i_it rfl (n_ 4)) (pg_n nd) (ss_cons (st_expr rfl (s_extend rfl rfl rfl rfl (n_ 13) (s_lc rfl nd (blkOk_by (own := [("b", 11)]) (by kernel_rfl)) (by decide) (by decide) (i_it rfl (n_ 4)) (fun _ _ _ _ _ => (pg_n nd)) (fun _ _ _ _ _ => ts_one (t_cmp rfl (hu70 hr) .ne (nomark _) (n_ 10) (n_ 11))) (fun _ _ _ _ _ => (s_bin rfl .mod (s_bi .int (fun t h => pe_callTy (cr_bi rfl rfl .int rfl) rfl T.n_int bt_int h) (a_c (s_bin rfl .add (n_ 10) (n_ 11)) a_nil)) (n_ 3))) (fun _ => rfl))))
      ss_nil) (fun _ => rfl))
      (ss_cons (st_set nd rfl (by first | exact Or.inl rfl | exact Or.inr rfl) rfl (by first | exact Or.inl rfl | exact Or.inr rfl) (s_bi .tuple (fun t h => pe_callTy (cr_bi rfl rfl .tuple rfl) rfl T.n_tuple bt_tuple h) (a_c (s_iset rfl rfl rfl T.n_sorted rfl T.n_set rfl rfl (n_ 13)) a_nil)))
      (ss_cons (st_ife (t_cmp rfl (hu70 hr) .ne (nomark _) (s_bi .tuple (fun t h => pe_callTy (cr_bi rfl rfl .tuple rfl) rfl T.n_tuple bt_tuple h) (a_c (s_call (f := 193) (Fn := F_restricted) rfl c_restricted hr (by decide) rfl rfl rfl rfl (a_c (n_ 3) (a_c (n_ 4) (a_c (n_ 4) (a_c (n_ 12) a_nil))))) a_nil)) (n_ 14)) (ss_cons (st_ret s_bl)
      ss_nil) ss_nil)
      (ss_cons (st_ife (SndW.t (w_and (t_cmp rfl (hu70 hr) .gt (nomark _) (s_bi .len (fun t h => pe_callB (cr_bi rfl rfl .len rfl) rfl T.n_len bt_len h) (a_c (n_ 4) a_nil)) s_int) (w_and1 (t_cmp rfl (hu70 hr) .ne (nomark _) (s_bi .tuple (fun t h => pe_callTy (cr_bi rfl rfl .tuple rfl) rfl T.n_tuple bt_tuple h) (a_c (s_call (f := 194) (Fn := F_unlike_sums) rfl c_unlike_sums hr (by decide) rfl rfl rfl rfl (a_c (n_ 3) (a_c (n_ 4) (a_c s_int a_nil)))) a_nil)) (n_ 14))))) (ss_cons (st_ret s_bl)
      ss_nil) ss_nil)
      (ss_cons (st_ife (SndW.t (w_and (t_cmp rfl (hu70 hr) .gt (nomark _) (s_bi .len (fun t h => pe_callB (cr_bi rfl rfl .len rfl) rfl T.n_len bt_len h) (a_c (n_ 4) a_nil)) s_int) (w_and1 (SndW.t (w_or (t_cmp rfl (hu70 hr) .ne (nomark _) (s_call (f := 195) (Fn := F_least_unlike) rfl c_least_unlike hr (by decide) rfl rfl rfl rfl (a_c (n_ 3) (a_c (s_bi .len (fun t h => pe_callB (cr_bi rfl rfl .len rfl) rfl T.n_len bt_len h) (a_c (n_ 4) a_nil)) (a_c s_int a_nil)))) (s_bi .min2 (fun t h => pe_callB (cr_bi rfl rfl .min2 rfl) rfl T.n_min bt_min h) (a_c (n_ 3) (a_c (s_bin rfl .sub (s_bin rfl .mul s_int (s_bi .len (fun t h => pe_callB (cr_bi rfl rfl .len rfl) rfl T.n_len bt_len h) (a_c (n_ 4) a_nil))) s_int) a_nil)))) (w_or1 (t_cmp rfl (hu70 hr) .lt (nomark _) (s_bi .len (fun t h => pe_callB (cr_bi rfl rfl .len rfl) rfl T.n_len bt_len h) (a_c (n_ 14) a_nil)) (s_bi .min2 (fun t h => pe_callB (cr_bi rfl rfl .min2 rfl) rfl T.n_min bt_min h) (a_c (n_ 3) (a_c (s_bin rfl .sub (s_bin rfl .mul s_int (s_bi .len (fun t h => pe_callB (cr_bi rfl rfl .len rfl) rfl T.n_len bt_len h) (a_c (n_ 4) a_nil))) s_int) a_nil)))))))))) (ss_cons (st_ret s_bl)
      ss_nil) ss_nil)
      (ss_cons (st_set nd rfl (by first | exact Or.inl rfl | exact Or.inr rfl) rfl (by first | exact Or.inl rfl | exact Or.inr rfl) s_dicT)
      (ss_cons (st_asg rfl rfl rfl s_int (g_sub (hu70 hr) rfl (by first | exact Or.inl rfl | exact Or.inr (Or.inl rfl) | exact Or.inr (Or.inr rfl)) (by decide) (by decide) (s_tup (a_c s_int (a_c s_int a_nil)) (by decide)) (fun _ => rfl)))
      (ss_cons (st_set nd rfl (by first | exact Or.inl rfl | exact Or.inr rfl) rfl (by first | exact Or.inl rfl | exact Or.inr rfl) (s_mk (c := 4) (Fn := F_init_Group) rfl rfl m_Group hr (by decide) rfl rfl rfl rfl rfl (a_c (s_tup (a_c (n_ 3) a_nil) (by decide)) a_nil)))
      (ss_cons (st_par2 rfl nd rfl rfl (by decide) rfl rfl rfl rfl (a_c (s_bi .tuple (fun t h => pe_callTy (cr_bi rfl rfl .tuple rfl) rfl T.n_tuple bt_tuple h) (a_c (s_lc rfl nd (blkOk_by (own := [("a", 10)]) (by kernel_rfl)) (by decide) (by decide) (i_it rfl (n_ 4)) (fun _ _ _ _ _ => (pg_n nd)) (fun _ _ _ _ _ => ts_nil) (fun _ _ _ _ _ => (s_tup (a_c (n_ 10) a_nil) (by decide))) (fun _ => rfl)) a_nil)) (a_c (s_bi .tuple (fun t h => pe_callTy (cr_bi rfl rfl .tuple rfl) rfl T.n_tuple bt_tuple h) (a_c (s_lc rfl nd (blkOk_by (own := [("b", 11)]) (by kernel_rfl)) (by decide) (by decide) (i_it rfl (n_ 5)) (fun _ _ _ _ _ => (pg_n nd)) (fun _ _ _ _ _ => ts_nil) (fun _ _ _ _ _ => (s_tup (a_c (n_ 11) a_nil) (by decide))) (fun _ => rfl)) a_nil)) a_nil)))
      (ss_cons (st_set nd rfl (by first | exact Or.inl rfl | exact Or.inr rfl) rfl (by first | exact Or.inl rfl | exact Or.inr rfl) (s_call (f := 48) (Fn := F_sums) rfl c_sums hr (by decide) rfl rfl rfl rfl (a_c (n_ 16) (a_c (n_ 17) (a_c (n_ 18) a_nil)))))
      (ss_cons (st_ife (t_cmp rfl (hu70 hr) .ne (nomark _) (s_bi .tuple (fun t h => pe_callTy (cr_bi rfl rfl .tuple rfl) rfl T.n_tuple bt_tuple h) (a_c (s_lc rfl nd (blkOk_by (own := [("a", 10)]) (by kernel_rfl)) (by decide) (by decide) (i_it rfl (s_call (f := 193) (Fn := F_restricted) rfl c_restricted hr (by decide) rfl rfl rfl rfl (a_c (n_ 3) (a_c (n_ 4) (a_c (n_ 5) (a_c (n_ 15) a_nil)))))) (fun _ _ _ _ _ => (pg_n nd)) (fun _ _ _ _ _ => ts_nil) (fun _ _ _ _ _ => (s_tup (a_c (n_ 10) a_nil) (by decide))) (fun _ => rfl)) a_nil)) (n_ 19)) (ss_cons (st_ret s_bl)
      ss_nil) ss_nil)
      (ss_cons (st_ife (t_cmp rfl (hu70 hr) .lt (nomark _) (s_bi .len (fun t h => pe_callB (cr_bi rfl rfl .len rfl) rfl T.n_len bt_len h) (a_c (n_ 19) a_nil)) (s_call (f := 63) (Fn := F_least_sums) rfl c_least_sums hr (by decide) rfl rfl rfl rfl (a_c (n_ 16) (a_c (n_ 17) (a_c (n_ 18) a_nil))))) (ss_cons (st_ret s_bl)
      ss_nil) ss_nil)
      (ss_cons (st_ife (t_cmp rfl (hu70 hr) .ne (nomark _) (s_call (f := 63) (Fn := F_least_sums) rfl c_least_sums hr (by decide) rfl rfl rfl rfl (a_c (n_ 16) (a_c (n_ 17) (a_c (n_ 18) a_nil)))) (s_bi .min2 (fun t h => pe_callB (cr_bi rfl rfl .min2 rfl) rfl T.n_min bt_min h) (a_c (n_ 3) (a_c (s_bin rfl .sub (s_bin rfl .add (s_bi .len (fun t h => pe_callB (cr_bi rfl rfl .len rfl) rfl T.n_len bt_len h) (a_c (n_ 4) a_nil)) (s_bi .len (fun t h => pe_callB (cr_bi rfl rfl .len rfl) rfl T.n_len bt_len h) (a_c (n_ 5) a_nil))) s_int) a_nil)))) (ss_cons (st_ret s_bl)
      ss_nil) ss_nil)
      ss_nil))))))))))))))))))))))))) (fun _ => rfl))
      (ss_cons (st_ret s_bl)
      ss_nil)))
end
end CL

set_option autoImplicit false
set_option linter.all false
set_option Elab.async false
set_option maxRecDepth 100000
set_option maxHeartbeats 4000000
namespace CL
open PySem PySem.Spec PyProof.Rows L2
theorem fld_eq : ∀ i, fldS i = fldOf ["rounds", "size"] i
  | 0 => rfl
  | 1 => rfl
  | n + 2 => rfl
theorem fld_inj : ∀ i j, fldS i = fldS j → i = j := fun i j h => fldOf_inj (names := ["rounds", "size"]) (by decide +kernel) (by decide +kernel) i j (by rw [← fld_eq, ← fld_eq]; exact h)
theorem all_mk {l : PySem.W.OpenLaw} {w : World} {K : PySem.W.Frag} {h : Heap} {mg : Str → Option Value} {fa C fC f0 f1 f2 f3 f4 f5 f7 f8 f9 f10 f11 f12 f13 f14 f15 f16 f17 f18 f19 f20 f21 f22 f23 f24 f25 f26 f27 f28 f29 : Addr} (X : K.In h) (G : h.Ns mainGlobals mg) (hfa : mg "law" = some (.ref fa))
    {od0 od1 od2 od3 od4 od5 od6 od7 od8 od9 od10 od11 od12 od13 od14 od15 od16 od17 od18 od19 od20 od21 od22 od23 od24 od25 od26 od27 od28 od29 an0 an1 an2 an3 an4 an5 an6 an7 an8 an9 an10 an11 an12 an13 an14 an15 an16 an17 an18 an19 an20 an21 an22 an23 an24 an25 an26 an27 an28 an29 : Option Addr} {sl0 sl1 sl2 sl3 sl4 sl5 sl6 sl7 sl8 sl9 sl10 sl11 sl12 sl13 sl14 sl15 sl16 sl17 sl18 sl19 sl20 sl21 sl22 sl23 sl24 sl25 sl26 sl27 sl28 sl29 : Array (Option Value)} {oc0 oc1 oc2 oc3 oc4 oc5 oc6 oc7 oc8 oc9 oc10 oc11 oc12 oc13 oc14 oc15 oc16 oc17 oc18 oc19 oc20 oc21 oc22 oc23 oc24 oc25 oc26 oc27 oc28 oc29 kV0 kV1 kV2 kV3 kV4 kV5 kV6 kV7 kV8 kV9 kV10 kV11 kV12 kV13 kV14 kV15 kV16 kV17 kV18 kV19 kV20 kV21 kV22 kV23 kV24 kV25 kV26 kV27 kV28 kV29 dc0 dc1 dc2 dc3 dc4 dc5 dc6 dc7 dc8 dc9 dc10 dc11 dc12 dc13 dc14 dc15 dc16 dc17 dc18 dc19 dc20 dc21 dc22 dc23 dc24 dc25 dc26 dc27 dc28 dc29 pm0 pm1 pm2 pm3 pm4 pm5 pm6 pm7 pm8 pm9 pm10 pm11 pm12 pm13 pm14 pm15 pm16 pm17 pm18 pm19 pm20 pm21 pm22 pm23 pm24 pm25 pm26 pm27 pm28 pm29 cd0 cd1 cd2 cd3 cd4 cd5 cd6 cd7 cd8 cd9 cd10 cd11 cd12 cd13 cd14 cd15 cd16 cd17 cd18 cd19 cd20 cd21 cd22 cd23 cd24 cd25 cd26 cd27 cd28 cd29 ct0 ct1 ct2 ct3 ct4 ct5 ct6 ct7 ct8 ct9 ct10 ct11 ct12 ct13 ct14 ct15 ct16 ct17 ct18 ct19 ct20 ct21 ct22 ct23 ct24 ct25 ct26 ct27 ct28 ct29 : Value} {t_MOST_ITEMS : Tok} {t_MOST_LETTERS : Tok} {t_MOST_PRIME : Tok} {t_MOST_ROUNDS : Tok} {t_MOST_SIZE : Tok}
    (aC : PySem.W.nsIn K mainGlobals "Group" = some (some (.ref C)))
    (iC : PySem.W.findIn K (.ref C) "__init__" = some (some (.ref fC)))
    (jC : PySem.W.isFn K (.ref fC) = true)
    (pg : PySem.W.plainGet K C Str.empty = true)
    (hd : PySem.W.hasDictIn K C = true)
    (po : PySem.W.plainOver K C = true)
    (sa : PySem.W.findIn K (.ref C) "__setattr__" = some (some (.builtin "object.__setattr__")))
    (mk : PySem.W.makesIn K C = true)
    (kC : PySem.W.keepIn K (.ref C) = true)
    (f_rounds : PySem.W.findIn K (.ref C) "rounds" = some none)
    (f_size : PySem.W.findIn K (.ref C) "size" = some none)
    (a0 : PySem.W.nsIn K mainGlobals "_law_hand" = some (some (.ref f0)))
    (l0 : K.lookup f0 = some ⟨oc0, od0, .func (PySem.W.fnOf "_law_hand" "_law_hand" (defArgs t__law_hand) (defBody t__law_hand) (defScope t__law_hand) .none kV0 dc0 pm0 an0 cd0 ct0), sl0⟩)
    (c0 : PySem.W.codeIn K cd0 "_law_hand" = true)
    (k0 : PySem.W.keepIn K (.ref f0) = true)
    (a1 : PySem.W.nsIn K mainGlobals "_law_draw" = some (some (.ref f1)))
    (l1 : K.lookup f1 = some ⟨oc1, od1, .func (PySem.W.fnOf "_law_draw" "_law_draw" (defArgs t__law_draw) (defBody t__law_draw) (defScope t__law_draw) .none kV1 dc1 pm1 an1 cd1 ct1), sl1⟩)
    (c1 : PySem.W.codeIn K cd1 "_law_draw" = true)
    (k1 : PySem.W.keepIn K (.ref f1) = true)
    (a2 : PySem.W.nsIn K mainGlobals "_law_some" = some (some (.ref f2)))
    (l2 : K.lookup f2 = some ⟨oc2, od2, .func (PySem.W.fnOf "_law_some" "_law_some" (defArgs t__law_some) (defBody t__law_some) (defScope t__law_some) .none kV2 dc2 pm2 an2 cd2 ct2), sl2⟩)
    (c2 : PySem.W.codeIn K cd2 "_law_some" = true)
    (k2 : PySem.W.keepIn K (.ref f2) = true)
    (a3 : PySem.W.nsIn K mainGlobals "is_row" = some (some (.ref f3)))
    (l3 : K.lookup f3 = some ⟨oc3, od3, .func (PySem.W.fnOf "is_row" "is_row" (defArgs t_is_row) (defBody t_is_row) (defScope t_is_row) .none kV3 dc3 pm3 an3 cd3 ct3), sl3⟩)
    (c3 : PySem.W.codeIn K cd3 "is_row" = true)
    (k3 : PySem.W.keepIn K (.ref f3) = true)
    (a4 : PySem.W.nsIn K mainGlobals "is_integer" = some (some (.ref f4)))
    (l4 : K.lookup f4 = some ⟨oc4, od4, .func (PySem.W.fnOf "is_integer" "is_integer" (defArgs t_is_integer) (defBody t_is_integer) (defScope t_is_integer) .none kV4 dc4 pm4 an4 cd4 ct4), sl4⟩)
    (c4 : PySem.W.codeIn K cd4 "is_integer" = true)
    (k4 : PySem.W.keepIn K (.ref f4) = true)
    (a5 : PySem.W.nsIn K mainGlobals "is_within" = some (some (.ref f5)))
    (l5 : K.lookup f5 = some ⟨oc5, od5, .func (PySem.W.fnOf "is_within" "is_within" (defArgs t_is_within) (defBody t_is_within) (defScope t_is_within) .none kV5 dc5 pm5 an5 cd5 ct5), sl5⟩)
    (c5 : PySem.W.codeIn K cd5 "is_within" = true)
    (k5 : PySem.W.keepIn K (.ref f5) = true)
    (l6 : K.lookup fC = some ⟨oc6, od6, .func (PySem.W.fnOf "__init__" "Group.__init__" (defArgs t_init_Group) (defBody t_init_Group) (defScope t_init_Group) .none kV6 dc6 pm6 an6 cd6 ct6), sl6⟩)
    (c6 : PySem.W.codeIn K cd6 "Group.__init__" = true)
    (k6 : PySem.W.keepIn K (.ref fC) = true)
    (a7 : PySem.W.nsIn K mainGlobals "is_element" = some (some (.ref f7)))
    (l7 : K.lookup f7 = some ⟨oc7, od7, .func (PySem.W.fnOf "is_element" "is_element" (defArgs t_is_element) (defBody t_is_element) (defScope t_is_element) .none kV7 dc7 pm7 an7 cd7 ct7), sl7⟩)
    (c7 : PySem.W.codeIn K cd7 "is_element" = true)
    (k7 : PySem.W.keepIn K (.ref f7) = true)
    (a8 : PySem.W.nsIn K mainGlobals "is_lot" = some (some (.ref f8)))
    (l8 : K.lookup f8 = some ⟨oc8, od8, .func (PySem.W.fnOf "is_lot" "is_lot" (defArgs t_is_lot) (defBody t_is_lot) (defScope t_is_lot) .none kV8 dc8 pm8 an8 cd8 ct8), sl8⟩)
    (c8 : PySem.W.codeIn K cd8 "is_lot" = true)
    (k8 : PySem.W.keepIn K (.ref f8) = true)
    (a9 : PySem.W.nsIn K mainGlobals "check_lot" = some (some (.ref f9)))
    (l9 : K.lookup f9 = some ⟨oc9, od9, .func (PySem.W.fnOf "check_lot" "check_lot" (defArgs t_check_lot) (defBody t_check_lot) (defScope t_check_lot) .none kV9 dc9 pm9 an9 cd9 ct9), sl9⟩)
    (c9 : PySem.W.codeIn K cd9 "check_lot" = true)
    (k9 : PySem.W.keepIn K (.ref f9) = true)
    (a10 : PySem.W.nsIn K mainGlobals "add" = some (some (.ref f10)))
    (l10 : K.lookup f10 = some ⟨oc10, od10, .func (PySem.W.fnOf "add" "add" (defArgs t_add) (defBody t_add) (defScope t_add) .none kV10 dc10 pm10 an10 cd10 ct10), sl10⟩)
    (c10 : PySem.W.codeIn K cd10 "add" = true)
    (k10 : PySem.W.keepIn K (.ref f10) = true)
    (a11 : PySem.W.nsIn K mainGlobals "sums" = some (some (.ref f11)))
    (l11 : K.lookup f11 = some ⟨oc11, od11, .func (PySem.W.fnOf "sums" "sums" (defArgs t_sums) (defBody t_sums) (defScope t_sums) .none kV11 dc11 pm11 an11 cd11 ct11), sl11⟩)
    (c11 : PySem.W.codeIn K cd11 "sums" = true)
    (k11 : PySem.W.keepIn K (.ref f11) = true)
    (a12 : PySem.W.nsIn K mainGlobals "_law_rests" = some (some (.ref f12)))
    (l12 : K.lookup f12 = some ⟨oc12, od12, .func (PySem.W.fnOf "_law_rests" "_law_rests" (defArgs t__law_rests) (defBody t__law_rests) (defScope t__law_rests) .none kV12 dc12 pm12 an12 cd12 ct12), sl12⟩)
    (c12 : PySem.W.codeIn K cd12 "_law_rests" = true)
    (k12 : PySem.W.keepIn K (.ref f12) = true)
    (a13 : PySem.W.nsIn K mainGlobals "_law_value" = some (some (.ref f13)))
    (l13 : K.lookup f13 = some ⟨oc13, od13, .func (PySem.W.fnOf "_law_value" "_law_value" (defArgs t__law_value) (defBody t__law_value) (defScope t__law_value) .none kV13 dc13 pm13 an13 cd13 ct13), sl13⟩)
    (c13 : PySem.W.codeIn K cd13 "_law_value" = true)
    (k13 : PySem.W.keepIn K (.ref f13) = true)
    (a14 : PySem.W.nsIn K mainGlobals "check_two" = some (some (.ref f14)))
    (l14 : K.lookup f14 = some ⟨oc14, od14, .func (PySem.W.fnOf "check_two" "check_two" (defArgs t_check_two) (defBody t_check_two) (defScope t_check_two) .none kV14 dc14 pm14 an14 cd14 ct14), sl14⟩)
    (c14 : PySem.W.codeIn K cd14 "check_two" = true)
    (k14 : PySem.W.keepIn K (.ref f14) = true)
    (a15 : PySem.W.nsIn K mainGlobals "part_sizes" = some (some (.ref f15)))
    (l15 : K.lookup f15 = some ⟨oc15, od15, .func (PySem.W.fnOf "part_sizes" "part_sizes" (defArgs t_part_sizes) (defBody t_part_sizes) (defScope t_part_sizes) .none kV15 dc15 pm15 an15 cd15 ct15), sl15⟩)
    (c15 : PySem.W.codeIn K cd15 "part_sizes" = true)
    (k15 : PySem.W.keepIn K (.ref f15) = true)
    (a16 : PySem.W.nsIn K mainGlobals "least_sums" = some (some (.ref f16)))
    (l16 : K.lookup f16 = some ⟨oc16, od16, .func (PySem.W.fnOf "least_sums" "least_sums" (defArgs t_least_sums) (defBody t_least_sums) (defScope t_least_sums) .none kV16 dc16 pm16 an16 cd16 ct16), sl16⟩)
    (c16 : PySem.W.codeIn K cd16 "least_sums" = true)
    (k16 : PySem.W.keepIn K (.ref f16) = true)
    (a17 : PySem.W.nsIn K mainGlobals "check_number" = some (some (.ref f17)))
    (l17 : K.lookup f17 = some ⟨oc17, od17, .func (PySem.W.fnOf "check_number" "check_number" (defArgs t_check_number) (defBody t_check_number) (defScope t_check_number) .none kV17 dc17 pm17 an17 cd17 ct17), sl17⟩)
    (c17 : PySem.W.codeIn K cd17 "check_number" = true)
    (k17 : PySem.W.keepIn K (.ref f17) = true)
    (a18 : PySem.W.nsIn K mainGlobals "prime_powers" = some (some (.ref f18)))
    (l18 : K.lookup f18 = some ⟨oc18, od18, .func (PySem.W.fnOf "prime_powers" "prime_powers" (defArgs t_prime_powers) (defBody t_prime_powers) (defScope t_prime_powers) .none kV18 dc18 pm18 an18 cd18 ct18), sl18⟩)
    (c18 : PySem.W.codeIn K cd18 "prime_powers" = true)
    (k18 : PySem.W.keepIn K (.ref f18) = true)
    (a19 : PySem.W.nsIn K mainGlobals "is_prime" = some (some (.ref f19)))
    (l19 : K.lookup f19 = some ⟨oc19, od19, .func (PySem.W.fnOf "is_prime" "is_prime" (defArgs t_is_prime) (defBody t_is_prime) (defScope t_is_prime) .none kV19 dc19 pm19 an19 cd19 ct19), sl19⟩)
    (c19 : PySem.W.codeIn K cd19 "is_prime" = true)
    (k19 : PySem.W.keepIn K (.ref f19) = true)
    (a20 : PySem.W.nsIn K mainGlobals "check_prime" = some (some (.ref f20)))
    (l20 : K.lookup f20 = some ⟨oc20, od20, .func (PySem.W.fnOf "check_prime" "check_prime" (defArgs t_check_prime) (defBody t_check_prime) (defScope t_check_prime) .none kV20 dc20 pm20 an20 cd20 ct20), sl20⟩)
    (c20 : PySem.W.codeIn K cd20 "check_prime" = true)
    (k20 : PySem.W.keepIn K (.ref f20) = true)
    (a21 : PySem.W.nsIn K mainGlobals "is_sum" = some (some (.ref f21)))
    (l21 : K.lookup f21 = some ⟨oc21, od21, .func (PySem.W.fnOf "is_sum" "is_sum" (defArgs t_is_sum) (defBody t_is_sum) (defScope t_is_sum) .none kV21 dc21 pm21 an21 cd21 ct21), sl21⟩)
    (c21 : PySem.W.codeIn K cd21 "is_sum" = true)
    (k21 : PySem.W.keepIn K (.ref f21) = true)
    (a22 : PySem.W.nsIn K mainGlobals "check_sum" = some (some (.ref f22)))
    (l22 : K.lookup f22 = some ⟨oc22, od22, .func (PySem.W.fnOf "check_sum" "check_sum" (defArgs t_check_sum) (defBody t_check_sum) (defScope t_check_sum) .none kV22 dc22 pm22 an22 cd22 ct22), sl22⟩)
    (c22 : PySem.W.codeIn K cd22 "check_sum" = true)
    (k22 : PySem.W.keepIn K (.ref f22) = true)
    (a23 : PySem.W.nsIn K mainGlobals "is_rest_lot" = some (some (.ref f23)))
    (l23 : K.lookup f23 = some ⟨oc23, od23, .func (PySem.W.fnOf "is_rest_lot" "is_rest_lot" (defArgs t_is_rest_lot) (defBody t_is_rest_lot) (defScope t_is_rest_lot) .none kV23 dc23 pm23 an23 cd23 ct23), sl23⟩)
    (c23 : PySem.W.codeIn K cd23 "is_rest_lot" = true)
    (k23 : PySem.W.keepIn K (.ref f23) = true)
    (a24 : PySem.W.nsIn K mainGlobals "rest_power" = some (some (.ref f24)))
    (l24 : K.lookup f24 = some ⟨oc24, od24, .func (PySem.W.fnOf "rest_power" "rest_power" (defArgs t_rest_power) (defBody t_rest_power) (defScope t_rest_power) .none kV24 dc24 pm24 an24 cd24 ct24), sl24⟩)
    (c24 : PySem.W.codeIn K cd24 "rest_power" = true)
    (k24 : PySem.W.keepIn K (.ref f24) = true)
    (a25 : PySem.W.nsIn K mainGlobals "value" = some (some (.ref f25)))
    (l25 : K.lookup f25 = some ⟨oc25, od25, .func (PySem.W.fnOf "value" "value" (defArgs t_value) (defBody t_value) (defScope t_value) .none kV25 dc25 pm25 an25 cd25 ct25), sl25⟩)
    (c25 : PySem.W.codeIn K cd25 "value" = true)
    (k25 : PySem.W.keepIn K (.ref f25) = true)
    (a26 : PySem.W.nsIn K mainGlobals "restricted" = some (some (.ref f26)))
    (l26 : K.lookup f26 = some ⟨oc26, od26, .func (PySem.W.fnOf "restricted" "restricted" (defArgs t_restricted) (defBody t_restricted) (defScope t_restricted) .none kV26 dc26 pm26 an26 cd26 ct26), sl26⟩)
    (c26 : PySem.W.codeIn K cd26 "restricted" = true)
    (k26 : PySem.W.keepIn K (.ref f26) = true)
    (a27 : PySem.W.nsIn K mainGlobals "unlike_sums" = some (some (.ref f27)))
    (l27 : K.lookup f27 = some ⟨oc27, od27, .func (PySem.W.fnOf "unlike_sums" "unlike_sums" (defArgs t_unlike_sums) (defBody t_unlike_sums) (defScope t_unlike_sums) .none kV27 dc27 pm27 an27 cd27 ct27), sl27⟩)
    (c27 : PySem.W.codeIn K cd27 "unlike_sums" = true)
    (k27 : PySem.W.keepIn K (.ref f27) = true)
    (a28 : PySem.W.nsIn K mainGlobals "least_unlike" = some (some (.ref f28)))
    (l28 : K.lookup f28 = some ⟨oc28, od28, .func (PySem.W.fnOf "least_unlike" "least_unlike" (defArgs t_least_unlike) (defBody t_least_unlike) (defScope t_least_unlike) .none kV28 dc28 pm28 an28 cd28 ct28), sl28⟩)
    (c28 : PySem.W.codeIn K cd28 "least_unlike" = true)
    (k28 : PySem.W.keepIn K (.ref f28) = true)
    (a29 : PySem.W.nsIn K mainGlobals "law" = some (some (.ref f29)))
    (l29 : K.lookup f29 = some ⟨oc29, od29, .func (PySem.W.fnOf "law" "law" (defArgs t_law) (defBody t_law) (defScope t_law) .none kV29 dc29 pm29 an29 cd29 ct29), sl29⟩)
    (c29 : PySem.W.codeIn K cd29 "law" = true)
    (k29 : PySem.W.keepIn K (.ref f29) = true)
    (z_abs : PySem.W.nsIn K mainGlobals "abs" = some none)
    (z_all : PySem.W.nsIn K mainGlobals "all" = some none)
    (z_bool : PySem.W.nsIn K mainGlobals "bool" = some none)
    (z_dict : PySem.W.nsIn K mainGlobals "dict" = some none)
    (z_int : PySem.W.nsIn K mainGlobals "int" = some none)
    (z_isinstance : PySem.W.nsIn K mainGlobals "isinstance" = some none)
    (z_len : PySem.W.nsIn K mainGlobals "len" = some none)
    (z_list : PySem.W.nsIn K mainGlobals "list" = some none)
    (z_min : PySem.W.nsIn K mainGlobals "min" = some none)
    (z_range : PySem.W.nsIn K mainGlobals "range" = some none)
    (z_set : PySem.W.nsIn K mainGlobals "set" = some none)
    (z_sorted : PySem.W.nsIn K mainGlobals "sorted" = some none)
    (z_tuple : PySem.W.nsIn K mainGlobals "tuple" = some none)
    (z_zip : PySem.W.nsIn K mainGlobals "zip" = some none)
    (y_MOST_ITEMS : PySem.W.nsIn K mainGlobals "MOST_ITEMS" = some (some (.int 60 t_MOST_ITEMS)))
    (y_MOST_LETTERS : PySem.W.nsIn K mainGlobals "MOST_LETTERS" = some (some (.int 4 t_MOST_LETTERS)))
    (y_MOST_PRIME : PySem.W.nsIn K mainGlobals "MOST_PRIME" = some (some (.int 50 t_MOST_PRIME)))
    (y_MOST_ROUNDS : PySem.W.nsIn K mainGlobals "MOST_ROUNDS" = some (some (.int 6 t_MOST_ROUNDS)))
    (y_MOST_SIZE : PySem.W.nsIn K mainGlobals "MOST_SIZE" = some (some (.int 64 t_MOST_SIZE)))
    (law_run : ∀ ns : List Int, ns.length ≤ 63 → F_law.run [.val (.kl (ns.map .int))] = .ok (.val (.bl true)) none) :
    ∃ fd : FuncData, (∀ (s : Shared) (v : Value), BindsTo s fd ⟨[v], []⟩ [("script", v)]) ∧ ∀ base : Heap, K.In base → base.Ns mainGlobals mg → FnOk l.prog w K mg base L2.CX0 9 fa fd ["script"] (spLaw K) := by
  have e := hfa.symm.trans (PySem.W.mg_of X G a29)
  cases e
  have T : Txt K mg C := { inj := fld_inj, f_rounds := fun _ => ⟨⟨pg, hd, po, sa⟩, f_rounds⟩, f_size := fun _ => ⟨⟨pg, hd, po, sa⟩, f_size⟩, n_abs := PySem.W.mg_none_of X G z_abs, n_all := PySem.W.mg_none_of X G z_all, n_bool := PySem.W.mg_none_of X G z_bool, n_dict := PySem.W.mg_none_of X G z_dict, n_int := PySem.W.mg_none_of X G z_int, n_isinstance := PySem.W.mg_none_of X G z_isinstance, n_len := PySem.W.mg_none_of X G z_len, n_list := PySem.W.mg_none_of X G z_list, n_min := PySem.W.mg_none_of X G z_min, n_range := PySem.W.mg_none_of X G z_range, n_set := PySem.W.mg_none_of X G z_set, n_sorted := PySem.W.mg_none_of X G z_sorted, n_tuple := PySem.W.mg_none_of X G z_tuple, n_zip := PySem.W.mg_none_of X G z_zip, c_MOST_ITEMS := ⟨_, PySem.W.mg_of X G y_MOST_ITEMS⟩, c_MOST_LETTERS := ⟨_, PySem.W.mg_of X G y_MOST_LETTERS⟩, c_MOST_PRIME := ⟨_, PySem.W.mg_of X G y_MOST_PRIME⟩, c_MOST_ROUNDS := ⟨_, PySem.W.mg_of X G y_MOST_ROUNDS⟩, c_MOST_SIZE := ⟨_, PySem.W.mg_of X G y_MOST_SIZE⟩ }
  refine ⟨PySem.W.fnOf "law" "law" (defArgs t_law) (defBody t_law) (defScope t_law) .none kV29 dc29 pm29 an29 cd29 ct29, fun s v => .of_eq rfl, fun base KB GB => ?_⟩
  have c__law_hand := ok__law_hand (P := l.prog) (w := w) (base := base) T (fun_mk (st := t__law_hand) l0 c0 k0) (PySem.W.mg_of X G a0)
  have c__law_draw := ok__law_draw (P := l.prog) (w := w) (base := base) T (fun_mk (st := t__law_draw) l1 c1 k1) (PySem.W.mg_of X G a1)
  have c__law_some := ok__law_some (P := l.prog) (w := w) (base := base) T c__law_draw (fun_mk (st := t__law_some) l2 c2 k2) (PySem.W.mg_of X G a2)
  have c_is_row := ok_is_row (P := l.prog) (w := w) (base := base) T (fun_mk (st := t_is_row) l3 c3 k3) (PySem.W.mg_of X G a3)
  have c_is_integer := ok_is_integer (P := l.prog) (w := w) (base := base) T (fun_mk (st := t_is_integer) l4 c4 k4) (PySem.W.mg_of X G a4)
  have c_is_within := ok_is_within (P := l.prog) (w := w) (base := base) T c_is_integer (fun_mk (st := t_is_within) l5 c5 k5) (PySem.W.mg_of X G a5)
  have m_Group := ok_init_Group (P := l.prog) (w := w) (base := base) T c_is_row c_is_within ⟨mk, iC, jC, kC⟩ (fun_mk (st := t_init_Group) l6 c6 k6) (PySem.W.mg_of X G aC)
  have c_is_element := ok_is_element (P := l.prog) (w := w) (base := base) T c_is_within (fun_mk (st := t_is_element) l7 c7 k7) (PySem.W.mg_of X G a7)
  have c_is_lot := ok_is_lot (P := l.prog) (w := w) (base := base) T c_is_element (fun_mk (st := t_is_lot) l8 c8 k8) (PySem.W.mg_of X G a8)
  have c_check_lot := ok_check_lot (P := l.prog) (w := w) (base := base) T c_is_lot (fun_mk (st := t_check_lot) l9 c9 k9) (PySem.W.mg_of X G a9)
  have c_add := ok_add (P := l.prog) (w := w) (base := base) T (fun_mk (st := t_add) l10 c10 k10) (PySem.W.mg_of X G a10)
  have c_sums := ok_sums (P := l.prog) (w := w) (base := base) T c_check_lot c_add (fun_mk (st := t_sums) l11 c11 k11) (PySem.W.mg_of X G a11)
  have c__law_rests := ok__law_rests (P := l.prog) (w := w) (base := base) T c__law_draw (fun_mk (st := t__law_rests) l12 c12 k12) (PySem.W.mg_of X G a12)
  have c__law_value := ok__law_value (P := l.prog) (w := w) (base := base) T (fun_mk (st := t__law_value) l13 c13 k13) (PySem.W.mg_of X G a13)
  have c_check_two := ok_check_two (P := l.prog) (w := w) (base := base) T c_check_lot (fun_mk (st := t_check_two) l14 c14 k14) (PySem.W.mg_of X G a14)
  have c_part_sizes := ok_part_sizes (P := l.prog) (w := w) (base := base) T (fun_mk (st := t_part_sizes) l15 c15 k15) (PySem.W.mg_of X G a15)
  have c_least_sums := ok_least_sums (P := l.prog) (w := w) (base := base) T c_check_two c_part_sizes (fun_mk (st := t_least_sums) l16 c16 k16) (PySem.W.mg_of X G a16)
  have c_check_number := ok_check_number (P := l.prog) (w := w) (base := base) T c_is_within (fun_mk (st := t_check_number) l17 c17 k17) (PySem.W.mg_of X G a17)
  have c_prime_powers := ok_prime_powers (P := l.prog) (w := w) (base := base) T c_check_number (fun_mk (st := t_prime_powers) l18 c18 k18) (PySem.W.mg_of X G a18)
  have c_is_prime := ok_is_prime (P := l.prog) (w := w) (base := base) T c_is_within c_prime_powers (fun_mk (st := t_is_prime) l19 c19 k19) (PySem.W.mg_of X G a19)
  have c_check_prime := ok_check_prime (P := l.prog) (w := w) (base := base) T c_is_prime (fun_mk (st := t_check_prime) l20 c20 k20) (PySem.W.mg_of X G a20)
  have c_is_sum := ok_is_sum (P := l.prog) (w := w) (base := base) T c_is_within c_is_integer (fun_mk (st := t_is_sum) l21 c21 k21) (PySem.W.mg_of X G a21)
  have c_check_sum := ok_check_sum (P := l.prog) (w := w) (base := base) T c_is_sum (fun_mk (st := t_check_sum) l22 c22 k22) (PySem.W.mg_of X G a22)
  have c_is_rest_lot := ok_is_rest_lot (P := l.prog) (w := w) (base := base) T c_is_within (fun_mk (st := t_is_rest_lot) l23 c23 k23) (PySem.W.mg_of X G a23)
  have c_rest_power := ok_rest_power (P := l.prog) (w := w) (base := base) T (fun_mk (st := t_rest_power) l24 c24 k24) (PySem.W.mg_of X G a24)
  have c_value := ok_value (P := l.prog) (w := w) (base := base) T c_check_prime c_is_integer c_check_sum c_rest_power (fun_mk (st := t_value) l25 c25 k25) (PySem.W.mg_of X G a25)
  have c_restricted := ok_restricted (P := l.prog) (w := w) (base := base) T c_check_prime c_is_rest_lot c_check_sum c_value (fun_mk (st := t_restricted) l26 c26 k26) (PySem.W.mg_of X G a26)
  have c_unlike_sums := ok_unlike_sums (P := l.prog) (w := w) (base := base) T c_check_prime c_is_rest_lot c_check_number (fun_mk (st := t_unlike_sums) l27 c27 k27) (PySem.W.mg_of X G a27)
  have c_least_unlike := ok_least_unlike (P := l.prog) (w := w) (base := base) T c_check_prime c_check_number (fun_mk (st := t_least_unlike) l28 c28 k28) (PySem.W.mg_of X G a28)
  exact (ok_law (P := l.prog) (w := w) (base := base) T c__law_hand c__law_some c__law_rests c__law_draw c_value c__law_value c_restricted c_unlike_sums c_least_unlike c_sums c_least_sums m_Group (fun_mk (st := t_law) l29 c29 k29)).imp (law_imp (Δ := nmOf K C) rfl rfl law_run)
end CL

namespace CL
theorem law_run (ns : List Int) (h : ns.length ≤ 63) : F_law.run [.val (.kl (ns.map .int))] = .ok (.val (.bl true)) none := Pl.law_run ns h
end CL

set_option autoImplicit false
set_option linter.all false
set_option Elab.async false
set_option maxRecDepth 100000
set_option maxHeartbeats 4000000
open PySem PySem.W PyProof.Rows in
set_option maxRecDepth 100000 in
set_option maxHeartbeats 0 in
theorem PySem.Challenge.cw_sumshall_k99_whole_letters_and_sums_of_l_holds : PySem.Challenge.rw_sumshall_k99_whole_letters_and_sums_of_l.Holds := by
  w_on; o_law; k_head; (case hw => w_witness2)
  k_fill
  refine CL.law_walk (k := 9) (x := "script") (l := PySem.Challenge.rw_sumshall_k99_whole_letters_and_sums_of_l) ⟨rfl, by decide, by decide⟩ rfl rfl (fun w h Y => PySem.W.kIn_of Y) ?F
  case F =>
    intro w mg fa h KX G hmg
    refine' CL.all_mk KX G hmg ?aC ?iC ?jC ?pg ?hd ?po ?sa ?mk ?kC ?f_rounds ?f_size ?a0 ?l0 ?c0 ?k0 ?a1 ?l1 ?c1 ?k1 ?a2 ?l2 ?c2 ?k2 ?a3 ?l3 ?c3 ?k3 ?a4 ?l4 ?c4 ?k4 ?a5 ?l5 ?c5 ?k5 ?l6 ?c6 ?k6 ?a7 ?l7 ?c7 ?k7 ?a8 ?l8 ?c8 ?k8 ?a9 ?l9 ?c9 ?k9 ?a10 ?l10 ?c10 ?k10 ?a11 ?l11 ?c11 ?k11 ?a12 ?l12 ?c12 ?k12 ?a13 ?l13 ?c13 ?k13 ?a14 ?l14 ?c14 ?k14 ?a15 ?l15 ?c15 ?k15 ?a16 ?l16 ?c16 ?k16 ?a17 ?l17 ?c17 ?k17 ?a18 ?l18 ?c18 ?k18 ?a19 ?l19 ?c19 ?k19 ?a20 ?l20 ?c20 ?k20 ?a21 ?l21 ?c21 ?k21 ?a22 ?l22 ?c22 ?k22 ?a23 ?l23 ?c23 ?k23 ?a24 ?l24 ?c24 ?k24 ?a25 ?l25 ?c25 ?k25 ?a26 ?l26 ?c26 ?k26 ?a27 ?l27 ?c27 ?k27 ?a28 ?l28 ?c28 ?k28 ?a29 ?l29 ?c29 ?k29 ?z_abs ?z_all ?z_bool ?z_dict ?z_int ?z_isinstance ?z_len ?z_list ?z_min ?z_range ?z_set ?z_sorted ?z_tuple ?z_zip ?y_MOST_ITEMS ?y_MOST_LETTERS ?y_MOST_PRIME ?y_MOST_ROUNDS ?y_MOST_SIZE CL.law_run
    (case aC => k_is)
    (case iC => k_is)
    (case jC => k_is)
    (case pg => k_is)
    (case hd => k_is)
    (case po => k_is)
    (case sa => k_is)
    (case mk => k_is)
    (case kC => k_is)
    (case f_rounds => k_is)
    (case f_size => k_is)
    (case a0 => k_is)
    (case l0 => k_is)
    (case c0 => k_is)
    (case k0 => k_is)
    (case a1 => k_is)
    (case l1 => k_is)
    (case c1 => k_is)
    (case k1 => k_is)
    (case a2 => k_is)
    (case l2 => k_is)
    (case c2 => k_is)
    (case k2 => k_is)
    (case a3 => k_is)
    (case l3 => k_is)
    (case c3 => k_is)
    (case k3 => k_is)
    (case a4 => k_is)
    (case l4 => k_is)
    (case c4 => k_is)
    (case k4 => k_is)
    (case a5 => k_is)
    (case l5 => k_is)
    (case c5 => k_is)
    (case k5 => k_is)
    (case l6 => k_is)
    (case c6 => k_is)
    (case k6 => k_is)
    (case a7 => k_is)
    (case l7 => k_is)
    (case c7 => k_is)
    (case k7 => k_is)
    (case a8 => k_is)
    (case l8 => k_is)
    (case c8 => k_is)
    (case k8 => k_is)
    (case a9 => k_is)
    (case l9 => k_is)
    (case c9 => k_is)
    (case k9 => k_is)
    (case a10 => k_is)
    (case l10 => k_is)
    (case c10 => k_is)
    (case k10 => k_is)
    (case a11 => k_is)
    (case l11 => k_is)
    (case c11 => k_is)
    (case k11 => k_is)
    (case a12 => k_is)
    (case l12 => k_is)
    (case c12 => k_is)
    (case k12 => k_is)
    (case a13 => k_is)
    (case l13 => k_is)
    (case c13 => k_is)
    (case k13 => k_is)
    (case a14 => k_is)
    (case l14 => k_is)
    (case c14 => k_is)
    (case k14 => k_is)
    (case a15 => k_is)
    (case l15 => k_is)
    (case c15 => k_is)
    (case k15 => k_is)
    (case a16 => k_is)
    (case l16 => k_is)
    (case c16 => k_is)
    (case k16 => k_is)
    (case a17 => k_is)
    (case l17 => k_is)
    (case c17 => k_is)
    (case k17 => k_is)
    (case a18 => k_is)
    (case l18 => k_is)
    (case c18 => k_is)
    (case k18 => k_is)
    (case a19 => k_is)
    (case l19 => k_is)
    (case c19 => k_is)
    (case k19 => k_is)
    (case a20 => k_is)
    (case l20 => k_is)
    (case c20 => k_is)
    (case k20 => k_is)
    (case a21 => k_is)
    (case l21 => k_is)
    (case c21 => k_is)
    (case k21 => k_is)
    (case a22 => k_is)
    (case l22 => k_is)
    (case c22 => k_is)
    (case k22 => k_is)
    (case a23 => k_is)
    (case l23 => k_is)
    (case c23 => k_is)
    (case k23 => k_is)
    (case a24 => k_is)
    (case l24 => k_is)
    (case c24 => k_is)
    (case k24 => k_is)
    (case a25 => k_is)
    (case l25 => k_is)
    (case c25 => k_is)
    (case k25 => k_is)
    (case a26 => k_is)
    (case l26 => k_is)
    (case c26 => k_is)
    (case k26 => k_is)
    (case a27 => k_is)
    (case l27 => k_is)
    (case c27 => k_is)
    (case k27 => k_is)
    (case a28 => k_is)
    (case l28 => k_is)
    (case c28 => k_is)
    (case k28 => k_is)
    (case a29 => k_is)
    (case l29 => k_is)
    (case c29 => k_is)
    (case k29 => k_is)
    (case z_abs => k_is)
    (case z_all => k_is)
    (case z_bool => k_is)
    (case z_dict => k_is)
    (case z_int => k_is)
    (case z_isinstance => k_is)
    (case z_len => k_is)
    (case z_list => k_is)
    (case z_min => k_is)
    (case z_range => k_is)
    (case z_set => k_is)
    (case z_sorted => k_is)
    (case z_tuple => k_is)
    (case z_zip => k_is)
    (case y_MOST_ITEMS => k_is)
    (case y_MOST_LETTERS => k_is)
    (case y_MOST_PRIME => k_is)
    (case y_MOST_ROUNDS => k_is)
    (case y_MOST_SIZE => k_is)
