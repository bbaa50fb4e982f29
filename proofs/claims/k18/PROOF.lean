import PyProof.Rows.All
import HandS.List
import KE.SortData
import KE.DataMinMax
import KE.KTupSum
import HandS.ForMost
import HandS.ForExc
import HandS.TupAny
import HandS.Deep
import HandS.CallSlots
import HandS.IsInst
import HandS.Flow
import HandS.Style
import HandS.TupMul
import HandS.TupLe
import HandS.Conv
import HandS.FStr
import HandS.NoneIn
import HandS.Zip
import HandS.TryMany
import HandS.ExcIs
import HandS.Codes
import HandS.DictTup
import HandS.StrMore
import HandS.Strs
import KE.KDictWalk
import KE.KDictSum
import HandS.TupSets
import HandS.ExcInit
import KE.GoesEnum
import HandS.RaiseMore
import HandS.HeadWalk
import HandS.CallRecv
import PyProof.ListStr
import HandS.Text
import HandS.Replace
import KE.KDictDisplayH
import HandS.ExcOwn
import KE.KExcIs
import HandS.ExcField
import HandS.Words
import HandS.WordsExc
import HandS.Defaults
import HandS.Head0
import HandS.Head1
import HandS.Head2
import HandS.HeadEnd
import HandS.HeadHook1
import HandS.HeadHook2
import PySem.Challenge.RW_renamedlabels_k18_exceptions
set_option linter.all false
set_option Elab.async false
set_option maxRecDepth 100000
set_option maxHeartbeats 0
/-! RLCore: a small language of its own (slots for names, numbers for defs) and its plain evaluator over the library's PyData. -/
namespace RL
open PySem

abbrev D := PyData

/-- the end of an expression: a value, an exception (class number, its field), or nothing that this evaluator tells -/
inductive Res (a : Type) where
  | ok (x : a)
  | exc (c : Nat) (p : Option D)
  | bad

namespace Res
def bind {a b : Type} : Res a → (a → Res b) → Res b
  | .ok x, f => f x
  | .exc c p, _ => .exc c p
  | .bad, _ => .bad
def ofO {a : Type} : Option a → Res a
  | some x => .ok x
  | none => .bad
def grd (b : Bool) {a : Type} (x : Res a) : Res a := match b with
  | true => x
  | false => .bad
end Res
/-- what the evaluator does not tell -/
def opt {a b : Type} : Option a → (a → Res b) → Res b
  | some x, f => f x
  | none, _ => .bad
def grdO (b : Bool) {a : Type} (x : Option a) : Option a := match b with
  | true => x
  | false => none

/-- a value: data, a dict by ints, a dict by tuples of ints, a caught exception -/
inductive Vl where
  | dat (d : D)
  | dI (kvs : List (Int × D))
  | dT (kvs : List (List Int × D))
  | exn (c : Nat) (p : Option D)

/-- a slot: a value that nobody changes any more, or one that this slot alone holds -/
inductive Sl where
  | val (v : Vl)
  | own (v : Vl)

abbrev Env := List (Option Sl)

inductive BOp where
  | add | sub | mul | fdiv | mod | pow
inductive COp where
  | eq | ne | lt | le | gt | ge | isin | notin
inductive Tg where
  | one (i : Nat)
  | many (l : List Tg)
/-- what is walked: a value's items, range(a), range(a, b), zip(a, b), enumerate(a) -/
inductive Sk where
  | items | rg1 | rg2 | zip | enm
inductive F1 where
  | len | tuple | list | chars | listRange | sorted | sortedSet | sum | min | max | int | str
inductive F2 where
  | min | max
inductive Mt where
  | index | sindex | count | join | split
inductive Ty where
  | int | bool | tuple | list | str | cls (c : Nat)

inductive Ex where
  | var (i : Nat)
  | con (d : D)
  | glo (g : Nat)
  | bin (o : BOp) (a b : Ex)
  | neg (a : Ex)
  | cmp (o : COp) (a b : Ex)
  | chn (o p : COp) (a b c : Ex)
  | isn (pos : Bool) (a : Ex)
  | and (a b : Ex)
  | or (a b : Ex)
  | not (a : Ex)
  | ite (c a b : Ex)
  | tup (es : List Ex)
  | lst (es : List Ex)
  | idx (a i : Ex)
  | slf (a lo : Ex)
  | slt (a hi : Ex)
  | slb (a lo hi : Ex)
  | rev (a : Ex)
  | cpr (own : List Nat) (tg : Tg) (k : Sk) (a b : Ex) (elt : Ex)
  | cpi (own : List Nat) (tg : Tg) (k : Sk) (a b : Ex) (c elt : Ex)
  | call (f : Nat) (es : List Ex)
  | fn1 (f : F1) (a : Ex)
  | fn2 (f : F2) (a b : Ex)
  | mt (m : Mt) (a b : Ex)
  | isi (a : Ex) (t : Ty)
  | dc0
  | dc1 (k v : Ex)
  | fst (es : List Ex)
  | fld (a : Ex)

/-! ### operations on data -/
def szOk (n : Nat) : Bool := decide (n ≤ sizeLine)
def rI (i : Int) : Option D := some (.int i)
def rB (b : Bool) : Option D := some (.bool b)

def smallI (i : Int) : Bool := decide (-(2 ^ 64) < i) && decide (i < 2 ^ 64)

def binD : BOp → D → D → Option D
  | .add, .int i, .int j => rI (i + j)
  | .add, .str x, .str y => grdO (szOk (x.length + y.length)) (some (.str (x ++ y)))
  | .add, .tuple xs, .tuple ys => grdO (szOk (xs.length + ys.length)) (some (.tuple (xs ++ ys)))
  | .add, .list xs, .list ys => grdO (szOk (xs.length + ys.length)) (some (.list (xs ++ ys)))
  | .sub, .int i, .int j => rI (i - j)
  | .mul, .int i, .int j => grdO (smallI i || smallI j) (rI (i * j))
  | .mul, .list xs, .int k => grdO (decide (-(2 ^ 20) < k) && decide (k < 2 ^ 20) && szOk (xs.length * k.toNat)) (some (.list (List.replicate k.toNat xs).flatten))
  | .mul, .tuple xs, .int k => grdO (decide (-(2 ^ 20) < k) && decide (k ≤ 1000) && decide (xs.length ≤ 1000)) (some (.tuple (List.replicate k.toNat xs).flatten))
  | .fdiv, .int i, .int j => grdO (decide (0 < j) && decide (j < 1073741824)) (rI (i / j))
  | .mod, .int i, .int j => grdO (decide (0 < j)) (rI (i % j))
  | .pow, .int i, .int j => grdO (decide (0 ≤ j) && decide (j ≤ 1000) && decide (i.natAbs < 2 ^ 64)) (rI (i ^ j.toNat))
  | _, _, _ => none

/-- a tuple of ints -/
def intsOf : List D → Option (List Int)
  | [] => some []
  | .int i :: r => (intsOf r).map (i :: ·)
  | _ :: _ => none

def ordI (o : COp) (i j : Int) : Option Bool := match o with
  | .lt => some (decide (i < j))
  | .le => some (decide (i ≤ j))
  | .gt => some (decide (j < i))
  | .ge => some (decide (j ≤ i))
  | _ => none
def ordT (o : COp) (xs ys : List Int) : Option Bool := match o with
  | .lt => some (HT.lexLt xs ys)
  | .le => some (!HT.lexLt ys xs)
  | .gt => some (HT.lexLt ys xs)
  | .ge => some (!HT.lexLt xs ys)
  | _ => none

def inD (x : D) : D → Option Bool
  | .list ys => grdO (SeqAt.shaped x && SeqAt.shaped (.list ys)) (some (ys.any fun z => PyData.eqv z x))
  | .tuple ys => grdO (SeqAt.shaped x && SeqAt.shaped (.tuple ys)) (some (ys.any fun z => PyData.eqv z x))
  | .str y => match x with
    | .str x => some (!(Builtin.Str.occurrences y x 0 y.length 1).isEmpty)
    | _ => none
  | _ => none

def keyT : D → Option (List Int)
  | .tuple xs => intsOf xs
  | _ => none

def lookI (k : Int) : List (Int × D) → Option D
  | [] => none
  | (j, d) :: r => if j = k then some d else lookI k r
def lookT (k : List Int) : List (List Int × D) → Option D
  | [] => none
  | (j, d) :: r => if j = k then some d else lookT k r
def putI (k : Int) (v : D) (kvs : List (Int × D)) : List (Int × D) :=
  if (kvs.any fun p => decide (p.1 = k)) = true then kvs.map (fun p => if p.1 = k then (p.1, v) else p) else kvs ++ [(k, v)]
def putT (k : List Int) (v : D) (kvs : List (List Int × D)) : List (List Int × D) :=
  if (kvs.any fun p => decide (p.1 = k)) = true then kvs.map (fun p => if p.1 = k then (p.1, v) else p) else kvs ++ [(k, v)]

def inV (x : D) : Vl → Option Bool
  | .dat y => inD x y
  | .dI kvs => match x with
    | .int i => some (lookI i kvs).isSome
    | _ => none
  | .dT kvs => match keyT x with
    | some k => some (lookT k kvs).isSome
    | none => none
  | .exn _ _ => none

def eqD (x y : D) : Option Bool := grdO (SeqAt.shaped x && SeqAt.shaped y) (some (PyData.eqv x y))

def ordV (o : COp) (x : D) (v : Vl) : Option Bool := match x, v with
  | .int i, .dat (.int j) => ordI o i j
  | .tuple xs, .dat (.tuple ys) => (match intsOf xs, intsOf ys with
    | some is, some js => ordT o is js
    | _, _ => none)
  | _, _ => none
def cmpD (o : COp) (x : D) (v : Vl) : Option Bool := match o with
  | .isin => inV x v
  | .notin => (inV x v).bind fun b => some (!b)
  | .eq => (match v with | .dat y => eqD x y | _ => none)
  | .ne => (match v with | .dat y => (eqD x y).bind fun b => some (!b) | _ => none)
  | o => ordV o x v

def truthy : Vl → Option Bool
  | .dat .none => some false
  | .dat (.bool b) => some b
  | .dat (.int i) => some (i != 0)
  | .dat (.str x) => grdO (szOk x.length) (some (x.length != 0))
  | .dat (.list xs) => some (!xs.isEmpty)
  | .dat (.tuple xs) => some (!xs.isEmpty)
  | .dat (.dict _) => none
  | .dI kvs => some (!kvs.isEmpty)
  | .dT _ => none
  | .exn _ _ => none

def idxD (v : Vl) (i : D) : Option D := match v with
  | .dat (.list xs) => (match i with
    | .int i => L2.atI xs i
    | _ => none)
  | .dat (.tuple xs) => (match i with
    | .int i => L2.atI xs i
    | _ => none)
  | .dat (.str z) => (match i with
    | .int i => grdO (szOk z.length) ((L2.atI z.cps.toList i).bind fun c => some (.str ⟨#[c]⟩))
    | _ => none)
  | .dI kvs => (match i with
    | .int i => lookI i kvs
    | _ => none)
  | .dT kvs => (match keyT i with
    | some k => lookT k kvs
    | none => none)
  | _ => none

def cut {a : Type} (xs : List a) (lo hi : Option Int) : List a := (xs.drop (HT.sIx xs.length 0 lo)).take (HT.sIx xs.length xs.length hi - HT.sIx xs.length 0 lo)
def cutD (d : D) (lo hi : Option Int) : Option D := match d with
  | .list xs => some (.list (cut xs lo hi))
  | .tuple xs => some (.tuple (cut xs lo hi))
  | .str z => grdO (szOk z.length) (some (.str ⟨(cut z.cps.toList lo hi).toArray⟩))
  | _ => none
def revD : D → Option D
  | .list xs => some (.list xs.reverse)
  | .tuple xs => some (.tuple xs.reverse)
  | _ => none

/-- the bounds of a range -/
def rngOk (n : Int) : Bool := decide (-1000000 ≤ n) && decide (n ≤ 1000000)
/-- the items that a walk yields -/
def itemsOf (k : Sk) (a b : Vl) : Option (List D) := match k with
  | .items => (match a with
    | .dat (.list xs) => some xs
    | .dat (.tuple xs) => some xs
    | .dT kvs => some (kvs.map fun p => .tuple (p.1.map .int))
    | _ => none)
  | .rg1 => (match a with
    | .dat (.int n) => grdO (rngOk n) (some ((List.range n.toNat).map fun i => .int (i : Nat)))
    | _ => none)
  | .rg2 => (match a, b with
    | .dat (.int m), .dat (.int n) => grdO (rngOk m && rngOk n) (some ((List.range (n - m).toNat).map fun i => .int (m + (i : Nat))))
    | _, _ => none)
  | .zip => (match a, b with
    | .dat (.list xs), .dat (.list ys) => some ((xs.zip ys).map fun p => .tuple [p.1, p.2])
    | .dat (.tuple xs), .dat (.tuple ys) => some ((xs.zip ys).map fun p => .tuple [p.1, p.2])
    | _, _ => none)
  | .enm => (match a with
    | .dat (.list xs) => some ((List.range xs.length).zip xs |>.map fun p => .tuple [.int (p.1 : Nat), p.2])
    | .dat (.tuple xs) => some ((List.range xs.length).zip xs |>.map fun p => .tuple [.int (p.1 : Nat), p.2])
    | _ => none)

/-! sorting: alike data -/
/-- all pairs can be compared -/
def allAlike (ds : List D) : Bool := ds.all fun x => ds.all fun y => W.alike x y
def tupNe : D → Bool
  | .tuple (_ :: _) => true
  | _ => false
def plainK : D → Bool
  | .none => false
  | .tuple _ => false
  | _ => true
def unitL : List D → Bool
  | [.tuple []] => true
  | _ => false
def sortable (ds : List D) : Bool := ds.all tupNe || ds.all plainK || unitL ds
def leD (a b : D) : Bool := W.dataLe false id a b
def sortD (xs : List D) : Option (List D) := grdO (allAlike xs && xs.all SeqAt.shaped && sortable xs && szOk xs.length) (some (xs.mergeSort leD))
def keysOf : List D → Option (List (List Int))
  | [] => some []
  | d :: r => (keyT d).bind fun k => (keysOf r).bind fun ks => some (k :: ks)
def sixK : List (List Int) := [[0, 1, 2], [0, 2, 1], [1, 0, 2], [1, 2, 0], [2, 0, 1], [2, 1, 0]]
def setI (is : List Int) : List D := ((List.range 64).filter fun (i : Nat) => decide ((i : Int) ∈ is)).map fun (i : Nat) => .int (i : Int)
def setK (ks : List (List Int)) : List D := (sixK.filter fun k => decide (k ∈ ks)).map fun k => .tuple (k.map .int)
/-- sorted(set(xs)): few small numbers, or permutations of three names -/
def sdSet (xs : List D) : Option D := match intsOf xs with
  | some is => grdO (decide (is.length < 64) && is.all fun i => decide (0 ≤ i) && decide (i < 64)) (some (.list (setI is)))
  | none => match keysOf xs with
    | some ks => grdO (ks.all fun k => decide (k ∈ sixK)) (some (.list (setK ks)))
    | none => none
def bestOk (ds : List D) : Bool := allAlike ds && ds.all SeqAt.shaped && ds.all fun d => match d with
  | .none => false
  | _ => true

def fn1D (f : F1) (v : Vl) : Option D := match f with
  | .len => (match v with
    | .dat (.list xs) => rI xs.length
    | .dat (.tuple xs) => rI xs.length
    | .dat (.str x) => grdO (szOk x.length) (rI x.length)
    | .dI kvs => rI kvs.length
    | _ => none)
  | .tuple => (match v with
    | .dat (.list xs) => some (.tuple xs)
    | .dat (.tuple xs) => some (.tuple xs)
    | _ => none)
  | .list => (match v with
    | .dat (.list xs) => some (.list xs)
    | .dat (.tuple xs) => some (.list xs)
    | _ => none)
  | .chars => (match v with
    | .dat (.str x) => grdO (szOk x.length) (some (.list (x.cps.toList.map fun c => .str ⟨#[c]⟩)))
    | _ => none)
  | .listRange => (match v with
    | .dat (.int n) => grdO (decide (0 ≤ n) && decide (n < 2 ^ 20)) (some (.list ((List.range n.toNat).map fun i => .int (i : Nat))))
    | _ => none)
  | .sorted => (match v with
    | .dat (.list xs) => (sortD xs).bind fun ys => some (.list ys)
    | .dT kvs => grdO ((kvs.map fun p => PyData.tuple (p.1.map .int)).all tupNe) ((sortD (kvs.map fun p => .tuple (p.1.map .int))).bind fun ys => some (.list ys))
    | _ => none)
  | .sortedSet => (match v with
    | .dat (.list xs) => sdSet xs
    | _ => none)
  | .sum => (match v with
    | .dat (.list xs) => (match intsOf xs with | some is => rI is.sum | none => none)
    | .dat (.tuple xs) => (match intsOf xs with | some is => rI is.sum | none => none)
    | _ => none)
  | .min => (match v with
    | .dat (.list (x :: xs)) => grdO (bestOk (x :: xs)) (some (W.minD x xs))
    | .dat (.tuple (x :: xs)) => grdO (bestOk (x :: xs)) (some (W.minD x xs))
    | _ => none)
  | .max => (match v with
    | .dat (.list (x :: xs)) => grdO (bestOk (x :: xs)) (some (W.maxD x xs))
    | .dat (.tuple (x :: xs)) => grdO (bestOk (x :: xs)) (some (W.maxD x xs))
    | _ => none)
  | .int => (match v with
    | .dat (.int i) => rI i
    | .dat (.bool b) => rI (if b then 1 else 0)
    | _ => none)
  | .str => (match v with
    | .dat (.int i) => grdO (decide (i.natAbs < 1000000)) (some (.str (toString i)))
    | .dat (.str x) => some (.str x)
    | _ => none)

def fn2D (f : F2) (a b : D) : Option D := match f, a, b with
  | .min, .int i, .int j => rI (if j < i then j else i)
  | .max, .int i, .int j => rI (if j > i then j else i)
  | _, _, _ => none

def findIx (p : D → Bool) : List D → Nat → Option Nat
  | [], _ => none
  | x :: r, n => if p x then some n else findIx p r (n + 1)
def strsOf : List D → Option (List Str)
  | [] => some []
  | .str x :: r => (strsOf r).map (x :: ·)
  | _ :: _ => none
def lenAll : List Str → Nat
  | [] => 0
  | x :: r => x.length + lenAll r
def joinS (sep : Str) : List Str → Str
  | [] => ⟨#[]⟩
  | [x] => x
  | x :: y :: r => x ++ (sep ++ joinS sep (y :: r))
/-- a text cut at each sign c -/
def splitC (c : Nat) : List Nat → List Nat → List (List Nat)
  | acc, [] => [acc.reverse]
  | acc, x :: r => if x = c then acc.reverse :: splitC c [] r else splitC c (x :: acc) r
def mtD (m : Mt) (v : Vl) (b : D) : Option D := match m with
  | .index => (match v with
    | .dat (.list xs) => grdO (SeqAt.shaped (.list xs) && SeqAt.shaped b) ((findIx (fun z => PyData.eqv z b) xs 0).bind fun n => rI (n : Nat))
    | .dat (.tuple xs) => grdO (SeqAt.shaped (.tuple xs) && SeqAt.shaped b) ((findIx (fun z => PyData.eqv z b) xs 0).bind fun n => rI (n : Nat))
    | _ => none)
  | .sindex => (match v, b with
    | .dat (.str x), .str y => (match Builtin.Str.occurrences x y 0 x.length 1 with
      | i :: _ => rI (i : Nat)
      | [] => none)
    | _, _ => none)
  | .count => (match v with
    | .dat (.list xs) => (match intsOf xs, b with
      | some is, .int k => rI (is.count k : Nat)
      | _, _ => none)
    | _ => none)
  | .join => (match v, b with
    | .dat (.str s), .list xs => (match strsOf xs with
      | some ys => grdO (decide ((ys.map (·.length)).sum + ys.length * s.length ≤ 16777216)) (some (.str (Txt.join s ys)))
      | none => none)
    | _, _ => none)
  | .split => (match v, b with
    | .dat (.str s), .str y => grdO (!(y.length == 0) && decide (s.length + 2 ≤ sizeLine)) (some (.list ((Txt.split s y).map .str)))
    | _, _ => none)

/-- the receivers of a method -/
def mtRecv (m : Mt) (v : Vl) : Bool := match m, v with
  | .index, .dat (.list _) => true
  | .index, .dat (.tuple _) => true
  | .sindex, .dat (.str _) => true
  | .count, .dat (.list _) => true
  | .join, .dat (.str _) => true
  | .split, .dat (.str _) => true
  | _, _ => false
/-- the classes of exceptions: sub c d: is c the class d or below it -/
def isiD (sub : Nat → Nat → Bool) (v : Vl) (t : Ty) : Option Bool := match t, v with
  | .cls d, .exn c _ => some (sub c d)
  | .int, .dat d => some (match d with | .int _ => true | .bool _ => true | _ => false)
  | .bool, .dat d => some (match d with | .bool _ => true | _ => false)
  | .tuple, .dat d => some (match d with | .tuple _ => true | _ => false)
  | .list, .dat d => some (match d with | .list _ => true | _ => false)
  | .str, .dat d => some (match d with | .str _ => true | _ => false)
  | _, _ => none

/-- a part of an f-string behind what there is -/
def fmtD (acc : Str) : D → Option Str
  | .str x => grdO (szOk x.length && szOk (acc ++ x).length) (some (acc ++ x))
  | .int i => grdO (decide (i.natAbs < 1000000) && szOk (acc ++ toString i).length) (some (acc ++ toString i))
  | _ => none
/-- data without an address -/
def flatD : D → Bool
  | .none => true
  | .int _ => true
  | _ => false

def negD : D → Option D
  | .int i => some (.int (-i))
  | _ => none
def isNoneD : D → Bool
  | .none => true
  | _ => false
def intD : D → Option Int
  | .int i => some i
  | _ => none
def dicD (k v : D) : Option Vl := match k with
  | .int i => some (.dI [(i, v)])
  | k => (keyT k).bind fun is => some (.dT [(is, v)])
def fldD : Vl → Option D
  | .exn 1 (some d) => some d
  | _ => none

/-! ### the evaluator -/
structure Cfg where
  ck : Nat → List D → Res Vl
  gv : Nat → Option D
  sub : Nat → Nat → Bool

/-- data; not a thing that a slot alone holds -/
def dat : Bool × Vl → Option D
  | (false, .dat d) => some d
  | _ => none
/-- data to be read -/
def datR : Bool × Vl → Option D
  | (_, .dat d) => some d
  | _ => none
def ret (d : D) : Res (Bool × Vl) := .ok (false, .dat d)
def retB (b : Bool) : Res (Bool × Vl) := .ok (false, .dat (.bool b))

def wipe (r : Env) : List Nat → Env
  | [] => r
  | v :: vs => (wipe r vs).set v none

def setAll : Env → List Nat → List D → Option Env
  | r, [], [] => some r
  | r, i :: is, d :: ds => setAll (r.set i (some (.val (.dat d)))) is ds
  | _, _, _ => none
mutual
def bindTg (r : Env) (d : D) : Tg → Option Env
  | .one i => some (r.set i (some (.val (.dat d))))
  | .many l => match d with
    | .tuple xs => bindTgs r xs l
    | _ => none
def bindTgs (r : Env) (ds : List D) : List Tg → Option Env
  | [] => match ds with
    | [] => some r
    | _ :: _ => none
  | t :: l => match ds with
    | [] => none
    | d :: ds => (bindTg r d t).bind fun r => bindTgs r ds l
end

/-- a comprehension's turns: c tells whether the item is kept, e the element -/
def mapC (b : D → Option Env) (c : Env → Res Bool) (e : Env → Res D) : List D → Res (List D)
  | [] => .ok []
  | x :: r => opt (b x) fun m => (c m).bind fun k => match k with
    | true => (e m).bind fun y => (mapC b c e r).bind fun ys => .ok (y :: ys)
    | false => mapC b c e r
/-- nothing is raised out of a comprehension -/
def noX {a : Type} : Res a → Res a
  | .exc _ _ => .bad
  | r => r

mutual
def ev (C : Cfg) (r : Env) : Ex → Res (Bool × Vl)
  | .var i => match r[i]? with
    | some (some (.val v)) => .ok (false, v)
    | some (some (.own v)) => .ok (true, v)
    | _ => .bad
  | .con d => ret d
  | .glo g => opt (C.gv g) ret
  | .bin o a b => (ev C r a).bind fun x => (ev C r b).bind fun y => opt (datR x) fun x => opt (datR y) fun y => opt (binD o x y) ret
  | .neg a => (ev C r a).bind fun x => opt (datR x) fun x => opt (negD x) ret
  | .cmp o a b => (ev C r a).bind fun x => (ev C r b).bind fun y => opt (datR x) fun x => opt (cmpD o x y.2) retB
  | .chn o p a b c => (ev C r a).bind fun x => (ev C r b).bind fun y => opt (datR x) fun x => opt (datR y) fun y => opt (cmpD o x (.dat y)) fun k => match k with
    | true => (ev C r c).bind fun z => opt (cmpD p y z.2) retB
    | false => retB false
  | .isn pos a => (ev C r a).bind fun x => opt (datR x) fun x => retB (isNoneD x == pos)
  | .and a b => (ev C r a).bind fun x => opt (truthy x.2) fun k => match k with
    | true => ev C r b
    | false => .ok x
  | .or a b => (ev C r a).bind fun x => opt (truthy x.2) fun k => match k with
    | true => .ok x
    | false => ev C r b
  | .not a => (ev C r a).bind fun x => opt (truthy x.2) fun k => retB (!k)
  | .ite c a b => (ev C r c).bind fun x => opt (truthy x.2) fun k => match k with
    | true => ev C r a
    | false => ev C r b
  | .tup es => (evs C r es).bind fun xs => opt (grdO (szOk xs.length) (some (.tuple xs))) ret
  | .lst es => (evs C r es).bind fun xs => opt (grdO (szOk xs.length) (some (.list xs))) ret
  | .idx a i => (ev C r a).bind fun x => (ev C r i).bind fun y => opt (datR y) fun y => opt (idxD x.2 y) ret
  | .slf a lo => (ev C r a).bind fun x => (ev C r lo).bind fun y => opt (datR x) fun x => opt (datR y) fun y => opt (intD y) fun i => opt (cutD x (some i) none) ret
  | .slt a hi => (ev C r a).bind fun x => (ev C r hi).bind fun y => opt (datR x) fun x => opt (datR y) fun y => opt (intD y) fun i => opt (cutD x none (some i)) ret
  | .slb a lo hi => (ev C r a).bind fun x => (ev C r lo).bind fun y => opt (datR y) fun y => opt (intD y) fun i => (ev C r hi).bind fun z => opt (datR z) fun z => opt (intD z) fun j => opt (datR x) fun x => opt (cutD x (some i) (some j)) ret
  | .rev a => (ev C r a).bind fun x => opt (datR x) fun x => opt (revD x) ret
  | .cpr own tg k a b elt => (ev C r a).bind fun x => (ev C r b).bind fun y => opt (itemsOf k x.2 y.2) fun its =>
      (noX (mapC (fun d => bindTg (wipe r own) d tg) (fun _ => .ok true) (fun m => (ev C m elt).bind fun z => opt (dat z) .ok) its)).bind fun ys => opt (grdO (szOk its.length) (some (.list ys))) ret
  | .cpi own tg k a b c elt => (ev C r a).bind fun x => (ev C r b).bind fun y => opt (itemsOf k x.2 y.2) fun its =>
      (noX (mapC (fun d => bindTg (wipe r own) d tg) (fun m => (ev C m c).bind fun x => opt (truthy x.2) .ok) (fun m => (ev C m elt).bind fun z => opt (dat z) .ok) its)).bind fun ys => opt (grdO (szOk its.length) (some (.list ys))) ret
  | .call f es => (evs C r es).bind fun xs => (C.ck f xs).bind fun v => .ok (false, v)
  | .fn1 f a => (ev C r a).bind fun x => opt (fn1D f x.2) ret
  | .fn2 f a b => (ev C r a).bind fun x => (ev C r b).bind fun y => opt (datR x) fun x => opt (datR y) fun y => opt (fn2D f x y) ret
  | .mt m a b => (ev C r a).bind fun x => opt (grdO (mtRecv m x.2) (some ())) fun _ => (ev C r b).bind fun y => opt (datR y) fun y => opt (mtD m x.2 y) ret
  | .isi a t => (ev C r a).bind fun x => opt (isiD C.sub x.2 t) retB
  | .dc0 => .ok (false, .dT [])
  | .dc1 k v => (ev C r k).bind fun k => (ev C r v).bind fun v => opt (dat k) fun k => opt (dat v) fun v => opt (dicD k v) fun z => .ok (false, z)
  | .fst es => (evf C r es ⟨#[]⟩).bind fun x => ret (.str x)
  | .fld a => (ev C r a).bind fun x => opt (fldD x.2) ret
def evs (C : Cfg) (r : Env) : List Ex → Res (List D)
  | [] => .ok []
  | e :: es => (ev C r e).bind fun x => opt (dat x) fun d => (evs C r es).bind fun ds => .ok (d :: ds)
/-- the parts of an f-string -/
def evf (C : Cfg) (r : Env) : List Ex → Str → Res Str
  | [], acc => .ok acc
  | e :: es, acc => (ev C r e).bind fun x => opt (dat x) fun d => opt (fmtD acc d) fun z => evf C r es z
end

/-! ### statements -/
mutual
inductive Stm where
  | asg (i : Nat) (e : Ex)
  | new (i : Nat) (e : Ex)
  | unp (l : List Tg) (e : Ex)
  | par (l : List Nat) (es : List Ex)
  | set (i : Nat) (k e : Ex)
  | aug (i : Nat) (o : BOp) (e : Ex)
  | app (i : Nat) (e : Ex)
  | ext (i : Nat) (e : Ex)
  | pop (t : Tg) (i : Nat) (k : Option Int)
  | exp (e : Ex)
  | ite (c : Ex) (a b : List Stm)
  | for_ (t : Tg) (k : Sk) (a b : Ex) (body : List Stm)
  | whl (c : Ex) (body : List Stm)
  | ret (e : Ex)
  | raise (c : Nat)
  | raise1 (c : Nat) (e : Ex)
  | try_ (body : List Stm) (h : Hs)
  | frz (l : List Nat)
  | pass
inductive Hs where
  | nil
  | cons (c i : Nat) (su : List Stm) (r : Hs)
end

/-- the end of a statement -/
inductive SR where
  | nx (r : Env)
  | rt (v : Vl)
  | ex (c : Nat) (p : Option D) (r : Env)
  | bad

def SR.of {a : Type} (r : Env) : Res a → (a → SR) → SR
  | .ok x, f => f x
  | .exc c p, _ => .ex c p r
  | .bad, _ => .bad
def SR.opt {a : Type} : Option a → (a → SR) → SR
  | some x, f => f x
  | none, _ => .bad
def SR.seq : SR → (Env → SR) → SR
  | .nx r, f => f r
  | .rt v, _ => .rt v
  | .ex c p r, _ => .ex c p r
  | .bad, _ => .bad

def frz1 (r : Env) (i : Nat) : Env := match r[i]? with
  | some (some (.own v)) => r.set i (some (.val v))
  | _ => r
def frzAll : Env → List Nat → Env
  | r, [] => r
  | r, i :: l => frzAll (frz1 r i) l

/-- a value that may be held by any number of slots -/
def frozen : Bool × Vl → Option Vl
  | (false, v) => some v
  | _ => none

def forL (step : Env → D → SR) : List D → Env → SR
  | [], r => .nx r
  | x :: l, r => (step r x).seq fun r => forL step l r
def whlL (c : Env → Res Bool) (step : Env → SR) : Nat → Env → SR
  | 0, _ => .bad
  | n + 1, r => SR.of r (c r) fun k => match k with
    | true => (step r).seq fun r => whlL c step n r
    | false => .nx r

/-- x[k] = v of what the slot alone holds -/
def setV (v : Vl) (k x : D) : Option Vl := match v with
  | .dat (.list xs) => (match k with
    | .int i => (L2.ixN xs.length i).bind fun j => some (.dat (.list (xs.set j x)))
    | _ => none)
  | .dI kvs => (match k with
    | .int i => grdO (szOk (kvs.length + 1)) (some (.dI (putI i x kvs)))
    | _ => none)
  | .dT kvs => (match keyT k with
    | some is => grdO (szOk (kvs.length + 1)) (some (.dT (putT is x kvs)))
    | none => none)
  | _ => none
def ownAt (r : Env) (i : Nat) : Option Vl := match r[i]? with
  | some (some (.own v)) => some v
  | _ => none
def ownL (r : Env) (i : Nat) : Option (List D) := match r[i]? with
  | some (some (.own (.dat (.list xs)))) => some xs
  | _ => none
def valI (r : Env) (i : Nat) : Option Int := match r[i]? with
  | some (some (.val (.dat (.int a)))) => some a
  | _ => none
def popV (v : Vl) (k : Option Int) : Option (D × Vl) := match v with
  | .dat (.list xs) => (match k with
    | none => (match xs[xs.length - 1]? with
      | some y => some (y, .dat (.list xs.dropLast))
      | none => none)
    | some i => (L2.ixN xs.length i).bind fun j => (match xs[j]? with
      | some y => some (y, .dat (.list (xs.eraseIdx j)))
      | none => none))
  | _ => none
def appV (v : Vl) (x : D) : Option Vl := match v with
  | .dat (.list xs) => grdO (szOk (xs.length + 1)) (some (.dat (.list (xs ++ [x]))))
  | _ => none
def extV (v : Vl) (x : D) : Option Vl := match v, x with
  | .dat (.list xs), .list ys => grdO (szOk (xs.length + ys.length)) (some (.dat (.list (xs ++ ys))))
  | _, _ => none
def unpD (r : Env) (d : D) (l : List Tg) : Option Env := match d with
  | .list xs => bindTgs r xs l
  | .tuple xs => bindTgs r xs l
  | _ => none
def augD (o : BOp) (x y : D) : Option D := match x, y with
  | .int a, .int b => binD o (.int a) (.int b)
  | _, _ => none
/-- an expression, then its value as data -/
def evD (C : Cfg) (r : Env) (e : Ex) : Res D := (ev C r e).bind fun x => opt (dat x) .ok
def evR (C : Cfg) (r : Env) (e : Ex) : Res D := (ev C r e).bind fun x => opt (datR x) .ok
def evF (C : Cfg) (r : Env) (e : Ex) : Res Vl := (ev C r e).bind fun x => opt (frozen x) .ok
def evT (C : Cfg) (r : Env) (e : Ex) : Res Bool := (ev C r e).bind fun x => opt (truthy x.2) .ok
/-- what a new list, a new dict, or the slot's own thing gives to slot i -/
def fresh : Ex → Bool
  | .lst _ => true
  | .dc0 => true
  | .dc1 _ _ => true
  | .cpr .. => true
  | .cpi .. => true
  | .fn1 .list _ => true
  | _ => false

def iterMax : Nat := 1000

mutual
def exec (C : Cfg) (r : Env) : Stm → SR
  | .asg i e => .of r (evF C r e) fun v => .nx (r.set i (some (.val v)))
  | .new i e => .opt (grdO (fresh e) (some ())) fun _ => .of r (evF C r e) fun v => .nx (r.set i (some (.own v)))
  | .unp l e => .of r (evR C r e) fun d => .opt (unpD r d l) fun r => .nx r
  | .par l es => .of r (evs C r es) fun ds => .opt (setAll r l ds) fun r => .nx r
  | .set i k e => .opt (ownAt r i) fun v => .of r (evD C r e) fun x => .of r (evR C r k) fun k => .opt (setV v k x) fun v => .nx (r.set i (some (.own v)))
  | .aug i o e => .opt (valI r i) fun a => .of r (evR C r e) fun y => .opt (augD o (.int a) y) fun z => .nx (r.set i (some (.val (.dat z))))
  | .app i e => .opt (ownL r i) fun xs => .of r (evD C r e) fun x => .opt (appV (.dat (.list xs)) x) fun v => .nx (r.set i (some (.own v)))
  | .ext i e => .opt (ownL r i) fun xs => .of r (evD C r e) fun x => .opt (extV (.dat (.list xs)) x) fun v => .nx (r.set i (some (.own v)))
  | .pop t i k => .opt (ownAt r i) fun v => .opt (popV v k) fun p => .opt (bindTg (r.set i (some (.own p.2))) p.1 t) fun r => .nx r
  | .exp e => .of r (ev C r e) fun _ => .nx r
  | .ite c a b => .of r (evT C r c) fun k => match k with
    | true => execs C r a
    | false => execs C r b
  | .for_ t k a b body => .of r (ev C r a) fun x => .of r (ev C r b) fun y => .opt (grdO (!x.1 && !y.1) (itemsOf k x.2 y.2)) fun its =>
      forL (fun r d => .opt (bindTg r d t) fun r => execs C r body) its r
  | .whl c body => whlL (fun r => evT C r c) (fun r => execs C r body) iterMax r
  | .ret e => .of r (evF C r e) fun v => .rt v
  | .raise c => .ex c none r
  | .raise1 c e => .of r (evD C r e) fun d => .opt (grdO (flatD d) (some ())) fun _ => .ex c (some d) r
  | .try_ body h => match execs C r body with
    | .ex c p r => hands C r c p h
    | s => s
  | .frz l => .nx (frzAll r l)
  | .pass => .bad
def execs (C : Cfg) (r : Env) : List Stm → SR
  | [] => .nx r
  | s :: l => (exec C r s).seq fun r => execs C r l
def hands (C : Cfg) (r : Env) (c : Nat) (p : Option D) : Hs → SR
  | .nil => .ex c p r
  | .cons d i su h => match C.sub c d with
    | true => (match execs C (r.set i (some (.val (.exn c p)))) su with
      | .nx r => .nx (r.set i none)
      | s => s)
    | false => hands C r c p h
end

/-- a def: how many slots, how many parameters, the body -/
structure Fn where
  slots : Nat
  params : Nat
  body : List Stm

def enter (f : Fn) (args : List D) : Env := args.map (fun d => some (.val (.dat d))) ++ List.replicate (f.slots - f.params) none
def outcome : SR → Res Vl
  | .nx _ => .ok (.dat .none)
  | .rt v => .ok v
  | .ex c p _ => .exc c p
  | .bad => .bad

/-- a program: defs by number, constants by number, the classes' order -/
structure Prg where
  fn : Nat → Option Fn
  gv : Nat → Option D
  sub : Nat → Nat → Bool

def callN (P : Prg) : Nat → Nat → List D → Res Vl
  | 0, _, _ => .bad
  | n + 1, f, args => match P.fn f with
    | some fn => .grd (decide (args.length = fn.params)) (outcome (execs ⟨callN P n, P.gv, P.sub⟩ (enter fn args) fn.body))
    | none => .bad
/-- 10 + g: a class whose __init__ has the number g (g of 150 to 159) -/
def wrapF (f : Nat) : Option Fn := if 160 ≤ f ∧ f < 170 then some ⟨3, 3, [.exp (.call (f - 10) [.var 0, .var 1, .var 2]), .pass]⟩ else if f = 170 then some ⟨2, 2, [.ret (.call 171 [.var 0, .var 1])]⟩ else if f = 171 then some ⟨2, 2, [.exp (.call 13 [.var 0, .var 1]), .raise 15]⟩ else none
end RL
/-! RLBase: how the evaluator's values lie in the layer's abstract heap. -/
namespace RL
open PySem PySem.Spec PyProof.Rows L2

/-! ### heaps -/
/-- from the frozen part F of H to the frozen part F' of H': nothing that stood has changed, what is newly frozen is new -/
structure Ext (F H F' H' : Hp) : Prop where
  ff : Same F F'
  hh : Same H H'
  sub : Same F' H'
  new : ∀ a o, F' a = some o → F a = some o ∨ H a = none

theorem Ext.refl {F H : Hp} (s : Same F H) : Ext F H F H := ⟨Same.refl F, Same.refl H, s, fun _ _ h => .inl h⟩
theorem Ext.trans {F H F1 H1 F2 H2 : Hp} (a : Ext F H F1 H1) (b : Ext F1 H1 F2 H2) : Ext F H F2 H2 :=
  ⟨a.ff.trans b.ff, a.hh.trans b.hh, b.sub, fun x o h => by
    rcases b.new x o h with h | h
    · exact a.new x o h
    · exact .inr (a.hh.free h)⟩
theorem same_upd {H : Hp} {p : Addr} {o : HO} (n : H p = none) : Same H (upd H p o) := fun b u e => by rw [upd_ne (ne_of_none e n)]; exact e
/-- a new object, frozen at once -/
theorem Ext.laid {F H : Hp} {p : Addr} {o : HO} (s : Same F H) (n : H p = none) : Ext F H (upd F p o) (upd H p o) :=
  ⟨same_upd (s.free n), same_upd n, fun b u e => by
    by_cases hb : b = p
    · subst hb; rw [upd_same] at e ⊢; exact e
    · rw [upd_ne hb] at e ⊢; exact s b u e, fun b u e => by
    by_cases hb : b = p
    · subst hb; exact .inr n
    · rw [upd_ne hb] at e; exact .inl e⟩
/-- a new object, not frozen -/
theorem Ext.free {F H : Hp} {p : Addr} {o : HO} (s : Same F H) (n : H p = none) : Ext F H F (upd H p o) :=
  ⟨Same.refl F, same_upd n, fun b u e => same_upd n b u (s b u e), fun _ _ h => .inl h⟩

theorem Rd.mono {F F' : Hp} {a : Addr} {u : HO} (s : Same F F') (h : Rd F a u) : Rd F' a u := by
  rcases h with h | ⟨o, h⟩
  · exact .inl (s _ _ h)
  · exact .inr ⟨o, s _ _ h⟩
theorem sqT_mono {K : W.Frag} {F F' : Hp} {a : Addr} {xs : List V} (s : Same F F') (h : SqT K F a xs) : SqT K F' a xs := by
  rcases h with (h | ⟨o, h⟩) | h
  · exact .inl (.inl (s _ _ h))
  · exact .inl (.inr ⟨o, s _ _ h⟩)
  · exact .inr h
/-- a tuple that is known to have no dict of its own: laid by us, or written -/
def TupG (K : W.Frag) (F : Hp) (a : Addr) (xs : List V) : Prop :=
  (∃ o : Obj, F a = some (.frz o (.tup xs)) ∧ o.cls = .type "tuple" ∧ o.dict = none) ∨
    ∃ (o : Obj) (its : Array Value) (n : Nat), K.lookup a = some o ∧ o.cls = .type "tuple" ∧ o.dict = none ∧ o.data = .seq its n ∧ its.size ≤ sizeLine ∧ Vals xs its.toList
theorem TupG.sq {K : W.Frag} {F : Hp} {a : Addr} {xs : List V} (h : TupG K F a xs) : SqT K F a xs := by
  rcases h with ⟨o, h, _, _⟩ | ⟨o, its, n, h1, h2, _, h3, h4, h5⟩
  · exact .inl (.inr ⟨o, h⟩)
  · exact .inr ⟨o, its, n, h1, h2, h3, h4, h5⟩
theorem TupG.mono {K : W.Frag} {F F' : Hp} {a : Addr} {xs : List V} (s : Same F F') (h : TupG K F a xs) : TupG K F' a xs := by
  rcases h with ⟨o, h, q⟩ | h
  · exact .inl ⟨o, s _ _ h, q⟩
  · exact .inr h
/-- a tuple's object -/
def isTupO (o : Obj) : Prop := o.cls = .type "tuple" ∧ o.dict = none
mutual
/-- data in the heap: lists are tracked, tuples laid by us or written -/
inductive Dq (K : W.Frag) (F : Hp) : V → PyData → Prop
  | non : Dq K F .non .none
  | bl (b : Bool) : Dq K F (.bl b) (.bool b)
  | int (i : Int) : Dq K F (.int i) (.int i)
  | str (x : Str) : Dq K F (.str x) (.str x)
  | lst {a : Addr} {xs : List V} {ds : List PyData} : Rd F a (.lst xs) → DqAll K F xs ds → Dq K F (.ref a) (.list ds)
  | tup {a : Addr} {xs : List V} {ds : List PyData} : TupG K F a xs → DqAll K F xs ds → Dq K F (.ref a) (.tuple ds)
inductive DqAll (K : W.Frag) (F : Hp) : List V → List PyData → Prop
  | nil : DqAll K F [] []
  | cons {v : V} {vs : List V} {d : PyData} {ds : List PyData} : Dq K F v d → DqAll K F vs ds → DqAll K F (v :: vs) (d :: ds)
end
mutual
theorem Dq.dp {K : W.Frag} {F : Hp} : ∀ (d : PyData) (v : V), Dq K F v d → Dp K F v d
  | .none, _, h => by cases h; exact .non
  | .bool b, _, h => by cases h; exact .bl b
  | .int i, _, h => by cases h; exact .int i
  | .str x, _, h => by cases h; exact .str x
  | .list ds, _, h => by
    cases h with
    | lst hs ha => exact .lst (.inl hs) (DqAll.dp ds _ ha)
  | .tuple ds, _, h => by
    cases h with
    | tup hs ha => exact .tup hs.sq (DqAll.dp ds _ ha)
  | .dict _, _, h => by cases h
theorem DqAll.dp {K : W.Frag} {F : Hp} : ∀ (ds : List PyData) (vs : List V), DqAll K F vs ds → DpAll K F vs ds
  | [], _, h => by cases h; exact .nil
  | d :: ds, _, h => by
    cases h with
    | cons h1 h2 => exact .cons (Dq.dp d _ h1) (DqAll.dp ds _ h2)
end
mutual
theorem Dq.mono {K : W.Frag} {F F' : Hp} (s : Same F F') : ∀ (d : PyData) (v : V), Dq K F v d → Dq K F' v d
  | .none, _, h => by cases h; exact .non
  | .bool b, _, h => by cases h; exact .bl b
  | .int i, _, h => by cases h; exact .int i
  | .str x, _, h => by cases h; exact .str x
  | .list ds, _, h => by
    cases h with
    | lst hs ha => exact .lst (Rd.mono s hs) (DqAll.mono s ds _ ha)
  | .tuple ds, _, h => by
    cases h with
    | tup hs ha => exact .tup (hs.mono s) (DqAll.mono s ds _ ha)
  | .dict _, _, h => by cases h
theorem DqAll.mono {K : W.Frag} {F F' : Hp} (s : Same F F') : ∀ (ds : List PyData) (vs : List V), DqAll K F vs ds → DqAll K F' vs ds
  | [], _, h => by cases h; exact .nil
  | d :: ds, _, h => by
    cases h with
    | cons h1 h2 => exact .cons (Dq.mono s d _ h1) (DqAll.mono s ds _ h2)
end

section
variable {K : W.Frag} {F H : Hp}
theorem DqAll.length : ∀ {ds : List PyData} {vs : List V}, DqAll K F vs ds → vs.length = ds.length
  | _, _, .nil => rfl
  | _, _, .cons _ t => by simp [DqAll.length t]
theorem DqAll.get : ∀ {ds : List PyData} {vs : List V} {i : Nat} {d : PyData}, DqAll K F vs ds → ds[i]? = some d → ∃ v, vs[i]? = some v ∧ Dq K F v d
  | _, _, _, _, .nil, e => by simp at e
  | _, _, 0, _, .cons r _, e => by simp at e; subst e; exact ⟨_, rfl, r⟩
  | _, _, i + 1, d, .cons _ t, e => by
    obtain ⟨u, h1, h2⟩ := DqAll.get (i := i) (d := d) t (by simpa using e)
    exact ⟨u, by simpa using h1, h2⟩
theorem DqAll.get' : ∀ {ds : List PyData} {vs : List V} {i : Nat} {v : V}, DqAll K F vs ds → vs[i]? = some v → ∃ d, ds[i]? = some d ∧ Dq K F v d
  | _, _, _, _, .nil, e => by simp at e
  | _, _, 0, _, .cons r _, e => by simp at e; subst e; exact ⟨_, rfl, r⟩
  | _, _, i + 1, d, .cons _ t, e => by
    obtain ⟨u, h1, h2⟩ := DqAll.get' (i := i) (v := d) t (by simpa using e)
    exact ⟨u, by simpa using h1, h2⟩
theorem DqAll.append : ∀ {ds es : List PyData} {vs us : List V}, DqAll K F vs ds → DqAll K F us es → DqAll K F (vs ++ us) (ds ++ es)
  | _, _, _, _, .nil, s => s
  | _, _, _, _, .cons r t, s => .cons r (DqAll.append t s)
theorem DqAll.take : ∀ {ds : List PyData} {vs : List V} (n : Nat), DqAll K F vs ds → DqAll K F (vs.take n) (ds.take n)
  | _, _, 0, _ => .nil
  | _, _, _ + 1, .nil => .nil
  | _, _, n + 1, .cons r t => .cons r (DqAll.take n t)
theorem DqAll.drop : ∀ {ds : List PyData} {vs : List V} (n : Nat), DqAll K F vs ds → DqAll K F (vs.drop n) (ds.drop n)
  | _, _, 0, r => r
  | _, _, _ + 1, .nil => .nil
  | _, _, n + 1, .cons _ t => DqAll.drop n t
theorem DqAll.snoc {ds : List PyData} {vs : List V} {v : V} {d : PyData} (h : DqAll K F vs ds) (r : Dq K F v d) : DqAll K F (vs ++ [v]) (ds ++ [d]) := h.append (.cons r .nil)
theorem DqAll.reverse : ∀ {ds : List PyData} {vs : List V}, DqAll K F vs ds → DqAll K F vs.reverse ds.reverse
  | _, _, .nil => .nil
  | _, _, .cons r t => by rw [List.reverse_cons, List.reverse_cons]; exact (DqAll.reverse t).snoc r
theorem DqAll.set : ∀ {ds : List PyData} {vs : List V} {v : V} {d : PyData} (j : Nat), DqAll K F vs ds → Dq K F v d → DqAll K F (vs.set j v) (ds.set j d)
  | _, _, _, _, _, .nil, _ => .nil
  | _, _, _, _, 0, .cons _ t, q => .cons q t
  | _, _, _, _, j + 1, .cons r t, q => .cons r (DqAll.set j t q)
theorem DqAll.eraseIdx : ∀ {ds : List PyData} {vs : List V} (j : Nat), DqAll K F vs ds → DqAll K F (vs.eraseIdx j) (ds.eraseIdx j)
  | _, _, _, .nil => .nil
  | _, _, 0, .cons _ t => t
  | _, _, j + 1, .cons r t => .cons r (DqAll.eraseIdx j t)
theorem DqAll.dropLast {ds : List PyData} {vs : List V} (h : DqAll K F vs ds) : DqAll K F vs.dropLast ds.dropLast := by
  rw [List.dropLast_eq_take, List.dropLast_eq_take, h.length]; exact h.take _
theorem DqAll.flat : ∀ {ds : List PyData} {vs : List V} (n : Nat), DqAll K F vs ds → DqAll K F (List.replicate n vs).flatten (List.replicate n ds).flatten
  | _, _, 0, _ => .nil
  | _, _, n + 1, h => by
    rw [List.replicate_succ, List.replicate_succ, List.flatten_cons, List.flatten_cons]
    exact h.append (DqAll.flat n h)
theorem DqAll.ints : ∀ (ns : List Int), DqAll K F (ns.map V.int) (ns.map PyData.int)
  | [] => .nil
  | n :: ns => .cons (.int n) (DqAll.ints ns)
theorem DqAll.ints_inv : ∀ {ns : List Int} {ds : List PyData} {vs : List V}, DqAll K F vs ds → intsOf ds = some ns → vs = ns.map V.int ∧ ds = ns.map PyData.int
  | ns, [], _, h, e => by
    cases h
    have : ns = [] := by simpa [intsOf] using e.symm
    subst this; exact ⟨rfl, rfl⟩
  | ns, d :: ds, _, h, e => by
    cases h with
    | cons r t =>
      cases d with
      | int i =>
        cases r
        simp only [intsOf, Option.map_eq_some_iff] at e
        obtain ⟨m, e1, e2⟩ := e
        subst e2
        obtain ⟨q1, q2⟩ := DqAll.ints_inv t e1
        subst q1 q2
        exact ⟨rfl, rfl⟩
      | _ => simp [intsOf] at e
end

/-! ### values -/
/-- the hash of a key, an int -/
def hk0 : Key → Int
  | .inl i => hashInt i
  | .inr _ => 0
/-- the hash of a tuple of ints -/
def hK (ks : List Key) : Int := reduceHash (Builtin.Tuple.tupleHashOf (ks.map hk0))
/-- the object at a is a dict with these entries: the key, the key's address, the value -/
def dPhi (a : Addr) (xs : List (List Key × Addr × Value)) (ep : Nat) : Heap → Prop := fun h =>
  ∃ o es, h.get? a = some o ∧ o.ExactDict ∧ o.data = .dict es ep ∧ es.toList = xs.map (fun x => (⟨hK x.1, .ref x.2.1, x.2.2⟩ : DictEntry)) ∧ (xs.map (·.1)).Nodup ∧ xs.length ≤ sizeLine ∧ (a == sysModules) = false
/-- an entry of a dict by tuples of ints -/
def EnT (K : W.Frag) (F : Hp) (kv : List Int × D) (x : List Key × Addr × Value) : Prop := x.1 = kv.1.map Sum.inl ∧ Dq K F (.ref x.2.1) (.tuple (kv.1.map .int)) ∧ ∃ v, Dq K F v kv.2 ∧ RelV v x.2.2
/-- what an object that can change holds -/
def Cnt (K : W.Frag) (F : Hp) (a : Addr) : HO → Vl → Prop
  | .lst vs, .dat (.list ds) => DqAll K F vs ds
  | .dK ks, .dI kvs => Paired (fun (p : Key × V) (q : Int × D) => p.1 = Sum.inl q.1 ∧ Dq K F p.2 q.2) ks kvs
  | .ext φ, .dT kvs => ∃ xs ep, φ = dPhi a xs ep ∧ Paired (EnT K F) kvs xs
  | _, _ => False
theorem Paired.mapP {α β : Type} {P Q : α → β → Prop} : ∀ {l : List α} {m : List β}, Paired P l m → (∀ a b, P a b → Q a b) → Paired Q l m
  | _, _, .nil, _ => .nil
  | _, _, .cons r t, f => .cons (f _ _ r) (Paired.mapP t f)
theorem EnT.mono {K : W.Frag} {F F' : Hp} (s : Same F F') {kv : List Int × D} {x : List Key × Addr × Value} (h : EnT K F kv x) : EnT K F' kv x :=
  let ⟨h1, h2, v, h3, h4⟩ := h
  ⟨h1, Dq.mono s _ _ h2, v, Dq.mono s _ _ h3, h4⟩
theorem Cnt.mono {K : W.Frag} {F F' : Hp} (s : Same F F') {a : Addr} {o : HO} {v : Vl} (h : Cnt K F a o v) : Cnt K F' a o v := by
  cases o with
  | lst vs =>
    cases v with
    | dat d =>
      cases d with
      | list ds => exact DqAll.mono s ds vs h
      | _ => exact h.elim
    | _ => exact h.elim
  | dK ks =>
    cases v with
    | dI kvs => exact Paired.mapP h fun a b r => ⟨r.1, Dq.mono s _ _ r.2⟩
    | _ => exact h.elim
  | ext φ =>
    cases v with
    | dT kvs =>
      obtain ⟨xs, ep, e, p⟩ := h
      exact ⟨xs, ep, e, Paired.mapP p fun _ _ r => r.mono s⟩
    | _ => exact h.elim
  | _ => cases v <;> exact h.elim

/-- a frozen value -/
def Frep (K : W.Frag) (F : Hp) (x : V) : Vl → Prop
  | .dat d => Dq K F x d
  | .exn _ _ => False
  | v => ∃ a o, x = .ref a ∧ F a = some o ∧ Cnt K F a o v
theorem Frep.mono {K : W.Frag} {F F' : Hp} (s : Same F F') {x : V} {v : Vl} (h : Frep K F x v) : Frep K F' x v := by
  cases v with
  | dat d => exact Dq.mono s d x h
  | exn _ _ => exact h
  | dI _ => obtain ⟨a, o, e, f, c⟩ := h; exact ⟨a, o, e, s _ _ f, c.mono s⟩
  | dT _ => obtain ⟨a, o, e, f, c⟩ := h; exact ⟨a, o, e, s _ _ f, c.mono s⟩
/-- freezing -/
theorem Cnt.frep {K : W.Frag} {F : Hp} {a : Addr} {o : HO} {v : Vl} (h : Cnt K F a o v) (n : F a = none) : Frep K (upd F a o) (.ref a) v := by
  have h' := h.mono (same_upd (o := o) n)
  cases v with
  | dat d =>
    cases o with
    | lst vs =>
      cases d with
      | list ds => exact .lst (Rd.of upd_same) h'
      | _ => exact h.elim
    | _ => exact h.elim
  | exn _ _ => cases o <;> exact h.elim
  | dI kvs => exact ⟨a, o, rfl, upd_same, h'⟩
  | dT kvs => exact ⟨a, o, rfl, upd_same, h'⟩

/-! ### slots -/
structure Rel (K : W.Frag) (F : Hp) (σ : L2.St) (H : Hp) (ρ : Env) : Prop where
  sub : Same F H
  len : σ.length = ρ.length
  val : ∀ (i : Nat) v, ρ[i]? = some (some (.val v)) → ∃ x, σ[i]? = some (some x) ∧ Frep K F x v
  own : ∀ (i : Nat) v, ρ[i]? = some (some (.own v)) → ∃ a o, σ[i]? = some (some (.ref a)) ∧ F a = none ∧ H a = some o ∧ Cnt K F a o v
  dis : ∀ (i j : Nat) v u a, i ≠ j → ρ[i]? = some (some (.own v)) → ρ[j]? = some (some (.own u)) → σ[i]? = some (some (.ref a)) → σ[j]? ≠ some (some (.ref a))
section
variable {K : W.Frag} {F H F' H' : Hp} {σ : L2.St} {ρ : Env}
theorem Rel.ext (r : Rel K F σ H ρ) (e : Ext F H F' H') : Rel K F' σ H' ρ where
  sub := e.sub
  len := r.len
  val := fun i v h => let ⟨x, h1, h2⟩ := r.val i v h; ⟨x, h1, h2.mono e.ff⟩
  own := fun i v h => by
    obtain ⟨a, o, h1, h2, h3, h4⟩ := r.own i v h
    refine ⟨a, o, h1, ?_, e.hh _ _ h3, h4.mono e.ff⟩
    cases q : F' a with
    | none => rfl
    | some u =>
      rcases e.new a u q with z | z
      · rw [h2] at z; cases z
      · rw [h3] at z; cases z
  dis := r.dis
end

/-- a value that the evaluator has told: frozen, or a slot's own -/
def VR (K : W.Frag) (F : Hp) (σ : L2.St) (ρ : Env) (x : V) : Bool × Vl → Prop
  | (false, v) => Frep K F x v
  | (true, v) => ∃ i : Nat, ρ[i]? = some (some (.own v)) ∧ σ[i]? = some (some x)
/-- data that may be read: frozen, or a list that stands for itself -/
def RD (K : W.Frag) (F H : Hp) (x : V) (d : D) : Prop :=
  Dq K F x d ∨ ∃ a vs ds, x = .ref a ∧ d = .list ds ∧ H a = some (.lst vs) ∧ DqAll K F vs ds
/-- a value to be read -/
def RV (K : W.Frag) (F H : Hp) (x : V) (v : Vl) : Prop :=
  Frep K F x v ∨ ∃ a o, x = .ref a ∧ F a = none ∧ H a = some o ∧ Cnt K F a o v
section
variable {K : W.Frag} {F H F' H' : Hp} {σ : L2.St} {ρ : Env} {x : V}
theorem VR.mono (e : Ext F H F' H') {r : Bool × Vl} (h : VR K F σ ρ x r) : VR K F' σ ρ x r := by
  obtain ⟨b, v⟩ := r
  cases b with
  | false => exact Frep.mono e.ff h
  | true => exact h
theorem VR.rv (q : Rel K F σ H ρ) {r : Bool × Vl} (h : VR K F σ ρ x r) : RV K F H x r.2 := by
  obtain ⟨b, v⟩ := r
  cases b with
  | false => exact .inl h
  | true =>
    obtain ⟨i, h1, h2⟩ := h
    obtain ⟨a, o, e1, e2, e3, e4⟩ := q.own i v h1
    rw [h2] at e1
    cases e1
    exact .inr ⟨a, o, rfl, e2, e3, e4⟩
theorem RV.rd {d : D} (h : RV K F H x (.dat d)) : RD K F H x d := by
  rcases h with h | ⟨a, o, e, _, h, c⟩
  · exact .inl h
  · cases o with
    | lst vs =>
      cases d with
      | list ds => exact .inr ⟨a, vs, ds, e, rfl, h, c⟩
      | _ => exact c.elim
    | _ => exact c.elim
theorem VR.rd (q : Rel K F σ H ρ) {r : Bool × Vl} {d : D} (h : VR K F σ ρ x r) (e : datR r = some d) : RD K F H x d := by
  obtain ⟨b, v⟩ := r
  cases v with
  | dat d' =>
    have : d' = d := by simpa [datR] using e
    subst this
    exact (VR.rv q h).rd
  | _ => cases b <;> simp [datR] at e
theorem VR.dp {r : Bool × Vl} {d : D} (h : VR K F σ ρ x r) (e : dat r = some d) : Dq K F x d := by
  obtain ⟨b, v⟩ := r
  cases b with
  | true => simp [dat] at e
  | false =>
    cases v with
    | dat d' =>
      have : d' = d := by simpa [dat] using e
      subst this
      exact h
    | _ => simp [dat] at e
theorem RD.mono (e : Ext F H F' H') {d : D} (h : RD K F H x d) : RD K F' H' x d := by
  rcases h with h | ⟨a, vs, ds, e1, e2, e3, e4⟩
  · exact .inl (Dq.mono e.ff _ _ h)
  · exact .inr ⟨a, vs, ds, e1, e2, e.hh _ _ e3, DqAll.mono e.ff _ _ e4⟩
theorem RD.data (s : Same F H) {d : D} (h : RD K F H x d) : Dq K H x d := by
  rcases h with h | ⟨a, vs, ds, rfl, rfl, e3, e4⟩
  · exact Dq.mono s _ _ h
  · exact .lst (Rd.of e3) (DqAll.mono s _ _ e4)
theorem RD.list (s : Same F H) {ds : List D} (h : RD K F H x (.list ds)) : ∃ a vs, x = .ref a ∧ Rd H a (.lst vs) ∧ DqAll K F vs ds := by
  rcases h with h | ⟨a, vs, ds', e1, e2, e3, e4⟩
  · cases h with
    | lst hs ha => exact ⟨_, _, rfl, Rd.mono s hs, ha⟩
  · cases e2
    exact ⟨a, vs, e1, Rd.of e3, e4⟩
theorem RD.tup (s : Same F H) {ds : List D} (h : RD K F H x (.tuple ds)) : ∃ a vs, x = .ref a ∧ SqT K H a vs ∧ TupG K F a vs ∧ DqAll K F vs ds := by
  rcases h with h | ⟨a, vs, ds', e1, e2, e3, e4⟩
  · cases h with
    | tup hs ha => exact ⟨_, _, rfl, sqT_mono s hs.sq, hs, ha⟩
  · cases e2
theorem RD.int {i : Int} (h : RD K F H x (.int i)) : x = .int i := by
  rcases h with h | ⟨a, vs, ds', e1, e2, e3, e4⟩
  · cases h; rfl
  · cases e2
theorem RD.bool {i : Bool} (h : RD K F H x (.bool i)) : x = .bl i := by
  rcases h with h | ⟨a, vs, ds', e1, e2, e3, e4⟩
  · cases h; rfl
  · cases e2
theorem RD.none (h : RD K F H x .none) : x = .non := by
  rcases h with h | ⟨a, vs, ds', e1, e2, e3, e4⟩
  · cases h; rfl
  · cases e2
theorem RD.str {z : Str} (h : RD K F H x (.str z)) : x = .str z := by
  rcases h with h | ⟨a, vs, ds', e1, e2, e3, e4⟩
  · cases h; rfl
  · cases e2
end
/-- a new list of data, frozen -/
theorem lay_list {K : W.Frag} {F H : Hp} {p : Addr} {vs : List V} {ds : List D} (s : Same F H) (n : H p = none) (h : DqAll K F vs ds) : Dq K (upd F p (.lst vs)) (.ref p) (.list ds) :=
  .lst (Rd.of upd_same) (DqAll.mono (same_upd (s.free n)) _ _ h)
theorem lay_tup {K : W.Frag} {F H : Hp} {p : Addr} {o : Obj} {vs : List V} {ds : List D} (s : Same F H) (n : H p = none) (ho : isTupO o) (h : DqAll K F vs ds) : Dq K (upd F p (.frz o (.tup vs))) (.ref p) (.tuple ds) :=
  .tup (.inl ⟨o, upd_same, ho.1, ho.2⟩) (DqAll.mono (same_upd (s.free n)) _ _ h)
/-- what is wanted of a new tuple -/
abbrev NewT (H : Hp) (vs : List V) (Q : VK) : Prop := ∀ p o, H p = none → isTupO o → Q (.ref p) (upd H p (.frz o (.tup vs)))
/-- a new tuple is laid -/
theorem newT {X : Cx} {pins : List (Addr × Obj)} {σ : L2.St} {H : Hp} {s : Shared} {vs : List V} {its : List Value} {Q : VK} (I : Inv X pins σ H s) (r : Vals vs its) (z : vs.length ≤ sizeLine) (q : NewT H vs Q) :
    EP X pins σ Q (.ref s.heap.objs.size) { s with heap := s.heap.push { cls := .type "tuple", data := .seq its.toArray } } := by
  refine ⟨.ref s.heap.objs.size, _, I.laid (t' := s.toks) (o := .frz { cls := .type "tuple", data := .seq its.toArray } (.tup vs)) (fun b ob q => Heap.get?_push_of_some _ q) (Nat.le_refl _) ?_, rfl, q _ _ (I.hok.fresh (Nat.le_refl _)) ⟨rfl, rfl⟩⟩
  exact ⟨Heap.get?_push_size _ rfl, z, its, r, IsTup.new _ _⟩
end RL
/-! RLDict: dicts by tuples of ints. -/
namespace RL
open PySem PySem.Spec PyProof.Rows L2
theorem hK_eq (P : Program) (w : World) (is : List Int) : hK (is.map Sum.inl) = (tupleKind (mixKind P w)).hash (is.map Sum.inl) := by
  show reduceHash (Builtin.Tuple.tupleHashOf ((is.map Sum.inl).map hk0)) = reduceHash (Builtin.Tuple.tupleHashOf ((is.map Sum.inl).map (keyH w)))
  rw [List.map_map, List.map_map]
  rfl
theorem keyT_ok {d : D} {is : List Int} (h : keyT d = some is) : d = .tuple (is.map .int) := by
  cases d with
  | tuple xs =>
    replace h : intsOf xs = some is := h
    congr 1
    induction xs generalizing is with
    | nil => cases h; rfl
    | cons x xs ih =>
      cases x with
      | int i =>
        simp only [intsOf, Option.map_eq_some_iff] at h
        obtain ⟨m, e1, e2⟩ := h
        subst e2
        rw [ih e1]; rfl
      | _ => simp [intsOf] at h
  | _ => cases h
theorem RD.key {K : W.Frag} {F H : Hp} {x : V} {d : D} {is : List Int} (h : RD K F H x d) (e : keyT d = some is) : ∃ b, x = .ref b ∧ Dq K F (.ref b) (.tuple (is.map .int)) := by
  have := keyT_ok e
  subst this
  rcases h with h | ⟨a, vs, ds, e1, e2, _⟩
  · cases h with
    | tup hs ha => exact ⟨_, rfl, .tup hs ha⟩
  · cases e2
section
variable {X : Cx} {pins : List (Addr × Obj)} {σ : L2.St} {F H : Hp} {s : Shared} {a b : Addr} {xs : List (List Key × Addr × Value)} {kvs : List (List Int × D)} {is : List Int} {ep : Nat}
theorem kV_ints (is : List Int) : (is.map (Sum.inl : Int → Key)).map kV = is.map V.int := by
  rw [List.map_map]; rfl
theorem RV.dT {K : W.Frag} {x : V} (sF : Same F H) (h : RV K F H x (.dT kvs)) : ∃ a xs ep, x = .ref a ∧ H a = some (.ext (dPhi a xs ep)) ∧ Paired (EnT K F) kvs xs := by
  rcases h with h | ⟨a, o, e, _, h, c⟩
  · obtain ⟨a, o, e, h, c⟩ := h
    cases o with
    | ext φ =>
      obtain ⟨xs, ep, rfl, p⟩ := c
      exact ⟨a, xs, ep, e, sF _ _ h, p⟩
    | _ => exact c.elim
  · cases o with
    | ext φ =>
      obtain ⟨xs, ep, rfl, p⟩ := c
      exact ⟨a, xs, ep, e, h, p⟩
    | _ => exact c.elim
/-- a tuple of ints is a key -/
theorem key_is (I : Inv X pins σ H s) (sF : Same F H) (h : Dq X.K F (.ref b) (.tuple (is.map .int))) : (tupleKind (mixKind X.prog X.w)).is s.heap (is.map Sum.inl) b := by
  cases h with
  | tup hs ha =>
    have ei : intsOf (is.map PyData.int) = some is := by
      clear ha hs
      induction is with
      | nil => rfl
      | cons i is ih => simp [intsOf, ih]
    obtain ⟨e1, _⟩ := DqAll.ints_inv ha ei
    subst e1
    obtain ⟨its, rv, ⟨o, h1, h2, n, h3⟩, _⟩ := I.tuple (sqT_mono sF hs.sq)
    rw [← kV_ints] at rv
    exact ⟨o, its.toArray, n, h1, h2, h3, by simpa using items_are rv⟩
theorem en_all {K : W.Frag} (p : Paired (EnT K F) kvs xs) : ∀ x ∈ xs, ∃ kv, EnT K F kv x := by
  induction p with
  | nil => intro x hx; exact nomatch hx
  | @cons q y qs ys hq t ih =>
    intro x hx
    rcases List.mem_cons.mp hx with e | hx
    · subst e; exact ⟨q, hq⟩
    · exact ih x hx
theorem dT_at (I : Inv X pins σ H s) (sF : Same F H) (ha : H a = some (.ext (dPhi a xs ep))) (p : Paired (EnT X.K F) kvs xs) : s.heap.DictOfH (tupleKind (mixKind X.prog X.w)) a xs ∧ xs.length ≤ sizeLine ∧ (a == sysModules) = false := by
  obtain ⟨⟨o, es, h1, h2, h3, h4, h5, h6, h7⟩, _, _⟩ := (show ObjOk X.prog X.w H s.heap a (.ext (dPhi a xs ep)) from I.hok a _ ha)
  have all := en_all p
  refine ⟨⟨o, es, ep, h1, h2, h3, ?_, fun x hx => ?_, h5⟩, h6, h7⟩
  · rw [h4]
    apply List.map_congr_left
    intro x hx
    obtain ⟨kv, e, _⟩ := all x hx
    show (⟨hK x.1, .ref x.2.1, x.2.2⟩ : DictEntry) = ⟨(tupleKind (mixKind X.prog X.w)).hash x.1, .ref x.2.1, x.2.2⟩
    rw [e, hK_eq X.prog X.w]
  · obtain ⟨kv, e, d, _⟩ := all x hx
    rw [e]
    exact key_is I sF d
theorem dT_raw (I : Inv X pins σ H s) (ha : H a = some (.ext (dPhi a xs ep))) : ∃ o es, s.heap.get? a = some o ∧ o.ExactDict ∧ o.data = .dict es ep ∧ es.toList = xs.map (fun x => (⟨hK x.1, .ref x.2.1, x.2.2⟩ : DictEntry)) ∧ (a == sysModules) = false := by
  obtain ⟨⟨o, es, h1, h2, h3, h4, h5, h6, h7⟩, _, _⟩ := (show ObjOk X.prog X.w H s.heap a (.ext (dPhi a xs ep)) from I.hok a _ ha)
  exact ⟨o, es, h1, h2, h3, h4, h7⟩
theorem inl_inj {is js : List Int} (h : is.map (Sum.inl : Int → Key) = js.map Sum.inl) : is = js := by
  induction is generalizing js with
  | nil => cases js with
    | nil => rfl
    | cons _ _ => simp at h
  | cons i is ih =>
    cases js with
    | nil => simp at h
    | cons j js =>
      simp only [List.map_cons, List.cons.injEq] at h
      obtain ⟨h1, h2⟩ := h
      cases h1
      rw [ih h2]
theorem at_look {K : W.Frag} (p : Paired (EnT K F) kvs xs) (is : List Int) : (∀ d, lookT is kvs = some d → ∃ q v, atKey xs (is.map Sum.inl) = some q ∧ Dq K F v d ∧ RelV v q.2) ∧ (lookT is kvs = none → atKey xs (is.map Sum.inl) = none) := by
  induction p with
  | nil => exact ⟨fun d h => (by cases h), fun _ => rfl⟩
  | @cons kv x kvs xs h t ih =>
    obtain ⟨h1, h2, v, h3, h4⟩ := h
    by_cases e : kv.1 = is
    · have e' : x.1 = is.map Sum.inl := by rw [h1, e]
      have b : atKey (x :: xs) (is.map Sum.inl) = some x.2 := by simp [atKey, List.find?_cons, e']
      refine ⟨fun d hd => ?_, fun hn => ?_⟩
      · have : kv.2 = d := by
          have : (if kv.1 = is then some kv.2 else lookT is kvs) = some d := hd
          rw [if_pos e] at this
          cases this; rfl
        subst this
        exact ⟨_, v, b, h3, h4⟩
      · have : (if kv.1 = is then some kv.2 else lookT is kvs) = none := hn
        rw [if_pos e] at this
        cases this
    · have e' : ¬ x.1 = is.map Sum.inl := fun z => e (inl_inj (h1.symm.trans z))
      have b : atKey (x :: xs) (is.map Sum.inl) = atKey xs (is.map Sum.inl) := by simp [atKey, List.find?_cons, e']
      have l : lookT is (kv :: kvs) = lookT is kvs := by
        show (if kv.1 = is then some kv.2 else lookT is kvs) = _
        rw [if_neg e]
      rw [b, l]
      exact ih
theorem look_some {K : W.Frag} (p : Paired (EnT K F) kvs xs) (is : List Int) : (atKey xs (is.map Sum.inl)).isSome = (lookT is kvs).isSome := by
  obtain ⟨h1, h2⟩ := at_look p is
  cases e : lookT is kvs with
  | none => rw [h2 e]; rfl
  | some d => obtain ⟨q, v, e1, _⟩ := h1 d e; rw [e1]; rfl
theorem repl_en {K : W.Frag} (p : Paired (EnT K F) kvs xs) (is : List Int) {v : V} {d : D} {u : Value} (hd : Dq K F v d) (hv : RelV v u) : Paired (EnT K F) (kvs.map fun q => if q.1 = is then (q.1, d) else q) (xs.map (putAt (is.map Sum.inl) u)) := by
  induction p with
  | nil => exact .nil
  | @cons kv x kvs xs h t ih =>
    obtain ⟨h1, h2, w, h3, h4⟩ := h
    rw [List.map_cons, List.map_cons]
    refine .cons ?_ ih
    unfold putAt
    by_cases e : kv.1 = is
    · have e' : x.1 = is.map Sum.inl := by rw [h1, e]
      rw [if_pos e, if_pos e']
      exact ⟨h1, h2, v, hd, hv⟩
    · have e' : ¬ x.1 = is.map Sum.inl := fun z => e (inl_inj (h1.symm.trans z))
      rw [if_neg e, if_neg e']
      exact ⟨h1, h2, w, h3, h4⟩
theorem put_en {K : W.Frag} (p : Paired (EnT K F) kvs xs) (is : List Int) {v : V} {d : D} {u : Value} (hd : Dq K F v d) (hv : RelV v u) (hb : Dq K F (.ref b) (.tuple (is.map .int))) : Paired (EnT K F) (putT is d kvs) (storedH xs (is.map Sum.inl) b u) := by
  unfold putT storedH
  rw [look_some p is]
  have e : (kvs.any fun q => decide (q.1 = is)) = (lookT is kvs).isSome := by
    clear p
    induction kvs with
    | nil => rfl
    | cons kv kvs ih =>
      rw [List.any_cons, ih]
      show _ = (if kv.1 = is then some kv.2 else lookT is kvs).isSome
      by_cases h : kv.1 = is
      · rw [if_pos h, decide_eq_true h]; rfl
      · rw [if_neg h, decide_eq_false h, Bool.false_or]
  rw [e]
  by_cases h : (lookT is kvs).isSome = true
  · rw [if_pos h, if_pos h]; exact repl_en p is hd hv
  · rw [if_neg h, if_neg h]
    exact Paired.snoc p ⟨rfl, hb, v, hd, hv⟩
variable {A : Around} {E : Value → Shared → Prop}
theorem dT_get {Q : Value → Shared → Prop} {d : D} (hu : A.units + 1 < cLine) (I : Inv X pins σ H s) (sF : Same F H) (ha : H a = some (.ext (dPhi a xs ep))) (p : Paired (EnT X.K F) kvs xs) (hb : Dq X.K F (.ref b) (.tuple (is.map .int))) (l : lookT is kvs = some d)
    (h : ∀ v w' s', Inv X pins σ H s' → Dq X.K F v d → RelV v w' → Q w' s') : wpAny (model X.prog X.w) A (getItem (.ref a) (.ref b)) Q E s := by
  obtain ⟨dd, _, _⟩ := dT_at I sF ha p
  obtain ⟨q, v, e1, e2, e3⟩ := (at_look p is).1 d l
  exact wpAny_getItem_heap (tupleKind_room_in1 hu) (key_is I sF hb) dd e1 (h v _ _ (I.tok _) e2 e3)
theorem dT_in {Q : Value → Shared → Prop} (hu : A.units + 1 < cLine) (I : Inv X pins σ H s) (sF : Same F H) (ha : H a = some (.ext (dPhi a xs ep))) (p : Paired (EnT X.K F) kvs xs) (hb : Dq X.K F (.ref b) (.tuple (is.map .int)))
    (h : ∀ s', Inv X pins σ H s' → Q (.bool (lookT is kvs).isSome) s') : wpAny (model X.prog X.w) A (compareOp .In (.ref b) (.ref a)) Q E s := by
  obtain ⟨dd, _, hm⟩ := dT_at I sF ha p
  refine wpAny_in_heap (tupleKind_room_in1 hu) (key_is I sF hb) hm dd ?_
  rw [look_some p is]
  exact h _ (I.tok _)
theorem dT_notIn {Q : Value → Shared → Prop} (hu : A.units + 1 < cLine) (I : Inv X pins σ H s) (sF : Same F H) (ha : H a = some (.ext (dPhi a xs ep))) (p : Paired (EnT X.K F) kvs xs) (hb : Dq X.K F (.ref b) (.tuple (is.map .int)))
    (h : ∀ s', Inv X pins σ H s' → Q (.bool (!(lookT is kvs).isSome)) s') : wpAny (model X.prog X.w) A (compareOp .NotIn (.ref b) (.ref a)) Q E s := by
  obtain ⟨dd, _, hm⟩ := dT_at I sF ha p
  refine wpAny_notIn_heap (tupleKind_room_in1 hu) (key_is I sF hb) hm dd ?_
  rw [look_some p is]
  exact h _ (I.tok _)
theorem dPhi_ok {P : Program} {w : World} {H' : Hp} {h' : Heap} (x : dPhi a xs ep h') : ObjOk P w H' h' a (.ext (dPhi a xs ep)) := by
  obtain ⟨o, es, h1, h2⟩ := id x
  refine ⟨x, ⟨o, h1⟩, fun g1 g2 hx hk => ?_⟩
  obtain ⟨o, es, h1, h2⟩ := hx
  exact ⟨o, es, hk o h1, h2⟩
theorem dT_set {Q : Unit → Shared → Prop} {v : V} {d : D} {u : Value} (hu : A.units + 1 < cLine) (I : Inv X pins σ H s) (sF : Same F H) (ha : H a = some (.ext (dPhi a xs ep))) (p : Paired (EnT X.K F) kvs xs) (hb : Dq X.K F (.ref b) (.tuple (is.map .int)))
    (hd : Dq X.K F v d) (hv : RelV v u) (hl : kvs.length + 1 ≤ sizeLine) (h : ∀ s' ys ep', Inv X pins σ (upd H a (.ext (dPhi a ys ep'))) s' → Paired (EnT X.K F) (putT is d kvs) ys → Q () s') : wpAny (model X.prog X.w) A (setItem (.ref a) (.ref b) u) Q E s := by
  obtain ⟨dd, hz, hm⟩ := dT_at I sF ha p
  have pn := put_en p is hd hv hb
  have hlen : kvs.length = xs.length := Paired.length p
  refine wpAny_setItem_heap (hsz := hz) (tupleKind_room_in1 hu) (key_is I sF hb) dd fun h' dd' hs => ?_
  obtain ⟨q, es, ep', hq, h2, h3, h4, _, h5⟩ := dd'
  refine h _ _ ep' ?_ pn
  have all := en_all pn
  refine d_write I (by rw [ha]; exact True.intro) hs ⟨q, hq⟩ (dPhi_ok ⟨q, es, hq, h2, h3, ?_, h5, ?_, hm⟩)
  · rw [h4]
    apply List.map_congr_left
    intro x hx
    obtain ⟨kv, e, _⟩ := all x hx
    show (⟨(tupleKind (mixKind X.prog X.w)).hash x.1, .ref x.2.1, x.2.2⟩ : DictEntry) = ⟨hK x.1, .ref x.2.1, x.2.2⟩
    rw [e, hK_eq X.prog X.w]
  · unfold storedH
    split
    · rw [List.length_map]; exact hz
    · rw [List.length_append, List.length_singleton]; omega
end
end RL
/-! RLOps: operators and comparisons by data. -/
namespace RL
open PySem PySem.Spec PyProof.Rows L2

theorem grd_ok {b : Bool} {a : Type} {r : Option a} {x : a} (h : grdO b r = some x) : b = true ∧ r = some x := by
  cases b with
  | true => exact ⟨rfl, h⟩
  | false => cases h
theorem szOk_le {n : Nat} (h : szOk n = true) : n ≤ sizeLine := of_decide_eq_true h
theorem ok_inj {a : Type} {x y : a} (h : some x = some y) : x = y := by cases h; rfl

def opOf : BOp → Operator
  | .add => .Add
  | .sub => .Sub
  | .mul => .Mult
  | .fdiv => .FloorDiv
  | .mod => .Mod
  | .pow => .Pow
/-- what is wanted of a new value -/
abbrev Wants (K : W.Frag) (F H : Hp) (z : D) (Q : VK) : Prop := ∀ v F' H', Ext F H F' H' → Dq K F' v z → Q v H'
def rBin (K : W.Frag) (o : BOp) : R2 := fun x y H Q => ∃ F d e z, Same F H ∧ RD K F H x d ∧ RD K F H y e ∧ binD o d e = some z ∧ Wants K F H z Q

section
variable {X : Cx}
theorem smallI_ok {i : Int} (h : smallI i = true) : -(2 ^ 64) < i ∧ i < 2 ^ 64 := by
  unfold smallI at h
  rw [Bool.and_eq_true] at h
  exact ⟨of_decide_eq_true h.1, of_decide_eq_true h.2⟩

theorem op_catL : OpR X (binaryOp .Add) (fun x y H Q => ∃ l b xs zs, x = .ref l ∧ y = .ref b ∧ Rd H l (.lst xs) ∧ Rd H b (.lst zs) ∧ xs.length + zs.length ≤ sizeLine ∧ ∀ p, H p = none → Q (.ref p) (upd H p (.lst (xs ++ zs)))) := by
  intro pins s σ H x y v u Q I rx ry h
  obtain ⟨l, b, xs, zs, rfl, rfl, hH, hB, hz, q⟩ := h
  cases rx
  cases ry
  obtain ⟨_, its, n, r, e⟩ := hH.ok I.hok
  obtain ⟨_, its2, n2, r2, e2⟩ := hB.ok I.hok
  refine PySem.P.add_list e e2 ?_ (by rw [List.size_toArray, List.size_toArray, ← r.length, ← r2.length]; omega)
  have ea : its.toArray ++ its2.toArray = (its ++ its2).toArray := by simp
  rw [ea]
  exact ⟨.ref _, _, I.lnew (t' := s.toks) (r.append r2) (by rw [List.length_append]; omega), rfl, q _ I.fresh⟩

/-- a list times an int -/
theorem op_repL : OpR X (binaryOp .Mult) (fun x y H Q => ∃ l k xs, x = .ref l ∧ y = .int k ∧ Rd H l (.lst xs) ∧ -(2 ^ 63) ≤ k ∧ k < 2 ^ 63 ∧ xs.length * k.toNat ≤ sizeLine ∧
    ∀ p, H p = none → Q (.ref p) (upd H p (.lst (List.replicate k.toNat xs).flatten))) := by
  intro pins s σ H x y v u Q I rx ry h
  obtain ⟨l, k, xs, rfl, rfl, hH, h1, h2, hz, q⟩ := h
  cases rx
  obtain ⟨t, rfl⟩ := ry
  obtain ⟨_, its, n, r, e⟩ := hH.ok I.hok
  have hl := r.length
  have hlen : its.toArray.size * k.toNat ≤ sizeLine := by rw [List.size_toArray, ← hl]; exact hz
  have hcap : ¬ its.toArray.size * k.toNat > (2 ^ 63 - 1) / 8 := by
    have : (sizeLine : Nat) ≤ (2 ^ 63 - 1) / 8 := by decide
    omega
  have hfit : ¬ (!Builtin.List.listFitsIndex k) = true := by
    rw [fitsIndex_both h1 h2]
    exact Bool.false_ne_true
  have hlong : ¬ Builtin.List.listTooLong (its.toArray.size * k.toNat) = true := by
    rw [notLongL hlen]
    exact Bool.false_ne_true
  have hnew : List.foldl (fun x1 x2 => x1 ++ x2) #[] (List.replicate (if its.toArray.isEmpty = true then 0 else k.toNat) its.toArray) = (List.replicate k.toNat its).flatten.toArray := by
    have f0 : ∀ m : Nat, List.foldl (fun x1 x2 => x1 ++ x2) #[] (List.replicate m its.toArray) = (List.replicate m its).flatten.toArray := fun m => by
      have := foldl_rep its m []
      rw [List.nil_append] at this
      exact this
    rw [f0]
    cases its with
    | nil => simp
    | cons a r' => rw [if_neg (by simp)]
  refine wpAny_binaryOp_repeat_ref (T := "list") (U := "int") (by decide) ⟨_, e, rfl⟩ (fun s' => typeIs_int s' k t) noFill_list_mul F.fills_int_mul F.slot_int_rmul repeat_list F.slot_int_index.lookup
    (call_meets F.slot_int_rmul (typeIs_int s k t) F.entry_int_rmul (F.args_int_rmul_2 _ _) (int___rmul___int_list k t l its.toArray n)
      ⟨e, rfl, ⟨_, e, rfl⟩, call_meets F.slot_list_mul ⟨_, e, rfl⟩ F.entry_list_mul (F.args_list_mul_2 _ _) (AutoListH.list___mul___list_int_3 l its.toArray n k t hfit hcap hlong) ⟨e, ?_⟩⟩)
  rw [hnew]
  exact ⟨.ref _, _, I.lnew (t' := s.toks) (r.rep k.toNat) (by rw [PyProof.Rows.lm_len_rep_flat, Nat.mul_comm]; exact hz), rfl, q _ I.fresh⟩

theorem tuple_mulS (l : Addr) (items : Array Value) (n : Nat) (dd : Option Addr) (sl : Array (Option Value)) (x : Int) (u : Tok) (c0 : (decide (x < -(2 ^ 63)) || decide (x ≥ 2 ^ 63)) = false) (c1 : (items.isEmpty || x == 1) = true) :
    Meets (Builtin.«tuple.__mul__» ⟨[.ref l, .int x u], []⟩) (fun _ R s => s.heap.get? l = some { cls := .type "tuple", dict := dd, data := .seq items n, slots := sl } ∧ R (.ok (.ret (Value.ref l))) { s with heap := s.heap, toks := s.toks }) :=
  .of_wp fun prog w A R s h => by
    obtain ⟨hp, g, d, tk, os⟩ := s
    obtain ⟨hl, h⟩ := h
    have f1 := AutoSeq1.idx_int
    wp_walk using wpAny_loadPart' hl
    repeat (first
      | (refine wpAny_ite_false (decide_eq_false (by rw [c0]; exact Bool.false_ne_true)) ?_; wp_walk using wpAny_loadPart' hl)
      | (refine wpAny_ite_true (decide_eq_true c1) ?_; wp_walk using wpAny_loadPart' hl))
    exact ⟨_, rfl, h⟩
theorem tuple_mulZ (l : Addr) (items : Array Value) (n : Nat) (dd : Option Addr) (sl : Array (Option Value)) (x : Int) (u : Tok) (c0 : (decide (x < -(2 ^ 63)) || decide (x ≥ 2 ^ 63)) = false) (c1 : (items.isEmpty || x == 1) = false) (c2 : (decide (x ≤ 0) || items.isEmpty) = true) :
    Meets (Builtin.«tuple.__mul__» ⟨[.ref l, .int x u], []⟩) (fun _ R s => s.heap.get? l = some { cls := .type "tuple", dict := dd, data := .seq items n, slots := sl } ∧
      R (.ok (.ret (Value.ref s.heap.objs.size))) { s with heap := s.heap.push { cls := Value.type "tuple", data := Data.seq #[] }, toks := s.toks }) :=
  .of_wp fun prog w A R s h => by
    obtain ⟨hp, g, d, tk, os⟩ := s
    obtain ⟨hl, h⟩ := h
    have f1 := AutoSeq1.idx_int
    wp_walk using wpAny_loadPart' hl
    repeat (first
      | (refine wpAny_ite_false (decide_eq_false (by rw [c0]; exact Bool.false_ne_true)) ?_; wp_walk using wpAny_loadPart' hl)
      | (refine wpAny_ite_false (decide_eq_false (by rw [c1]; exact Bool.false_ne_true)) ?_; wp_walk using wpAny_loadPart' hl)
      | (refine wpAny_ite_true (decide_eq_true c2) ?_; wp_walk using wpAny_loadPart' hl))
    exact ⟨_, rfl, h⟩
/-- a tuple times an int, any -/
theorem op_repA : OpR X (binaryOp .Mult) (fun x y H Q => ∃ l k xs, x = .ref l ∧ y = .int k ∧ SqT X.K H l xs ∧ -(2 ^ 20) < k ∧ k ≤ 1000 ∧ xs.length ≤ 1000 ∧ (xs = [] ∨ k = 1 → Q (.ref l) H) ∧
    NewT H (List.replicate k.toNat xs).flatten Q) := by
  intro pins s σ H x y v u Q I rx ry h
  obtain ⟨l, k, xs, rfl, rfl, hT, h1, h2, hz, q1, q2⟩ := h
  cases rx
  obtain ⟨t, rfl⟩ := ry
  obtain ⟨its, r, ⟨⟨cls, dd, data, sl⟩, ho, hc, n, hd⟩, hs⟩ := I.tuple hT
  simp only at hc hd
  subst hc hd
  have hle : its.length = xs.length := r.length.symm
  have c0 : (decide (k < -(2 ^ 63)) || decide (k ≥ 2 ^ 63)) = false := by
    rw [decide_eq_false (by omega), decide_eq_false (by omega)] <;> rfl
  by_cases hne : xs = [] ∨ k = 1
  · have c1 : (its.toArray.isEmpty || k == 1) = true := by
      rcases hne with z | z
      · subst z
        have : its = [] := List.eq_nil_of_length_eq_zero hle
        subst this; rfl
      · subst z; simp
    exact wpAny_binaryOp_repeat_ref (T := "tuple") (U := "int") (by decide) ⟨_, ho, rfl⟩ (fun s' => typeIs_int s' k t) noFill_tuple_mul F.fills_int_mul F.slot_int_rmul repeat_tuple F.slot_int_index.lookup
      (call_meets F.slot_int_rmul (typeIs_int s k t) F.entry_int_rmul (F.args_int_rmul_2 _ _) (int_rmul_tuple k t l its.toArray n dd sl)
        ⟨ho, rfl, ⟨_, ho, rfl⟩, call_meets F.slot_tuple_mul ⟨_, ho, rfl⟩ F.entry_tuple_mul (F.args_tuple_mul_2 _ _) (tuple_mulS l its.toArray n dd sl k t c0 c1) ⟨ho, ⟨.ref l, H, I, rfl, q1 hne⟩⟩⟩)
  · have n1 : xs ≠ [] := fun z => hne (.inl z)
    have n2 : k ≠ 1 := fun z => hne (.inr z)
    have hn : its ≠ [] := fun e => n1 (by rw [e] at hle; exact List.eq_nil_of_length_eq_zero hle.symm)
    have hi : its.toArray.isEmpty = false := by
      cases its with
      | nil => exact absurd rfl hn
      | cons a b => rfl
    have c1 : (its.toArray.isEmpty || k == 1) = false := by
      rw [hi, Bool.false_or]
      exact beq_eq_false_iff_ne.mpr n2
    have hsz0 : its.toArray.size = xs.length := by rw [List.size_toArray, hle]
    by_cases hk : 2 ≤ k
    · have hm : ((its.toArray.size : Nat) : Int) * k ≤ 1000000 := by
        rw [hsz0]
        have a1 : ((xs.length : Nat) : Int) * k ≤ 1000 * k := Int.mul_le_mul_of_nonneg_right (by omega) (by omega)
        omega
      have flen : (List.replicate k.toNat its).flatten.length ≤ sizeLine := by
        rw [PyProof.Rows.lm_len_rep_flat, hle, sizeLine_eq]
        have a1 : k.toNat * xs.length ≤ 1000 * 1000 := Nat.mul_le_mul (by omega) hz
        omega
      have c2 : (decide (k ≤ 0) || its.toArray.isEmpty) = false := by
        rw [hi, Bool.or_false]
        exact decide_eq_false (by omega)
      have c4 : Builtin.Tuple.tupleTooMany (((its.toArray.size : Nat) : Int) * k) = false := by
        unfold Builtin.Tuple.tupleTooMany
        rw [sizeLine_eq]
        exact decide_eq_false (by omega)
      refine wpAny_binaryOp_repeat_ref (T := "tuple") (U := "int") (by decide) ⟨_, ho, rfl⟩ (fun s' => typeIs_int s' k t) noFill_tuple_mul F.fills_int_mul F.slot_int_rmul repeat_tuple F.slot_int_index.lookup
        (call_meets F.slot_int_rmul (typeIs_int s k t) F.entry_int_rmul (F.args_int_rmul_2 _ _) (int_rmul_tuple k t l its.toArray n dd sl)
          ⟨ho, rfl, ⟨_, ho, rfl⟩, call_meets F.slot_tuple_mul ⟨_, ho, rfl⟩ F.entry_tuple_mul (F.args_tuple_mul_2 _ _) (tuple_mulW l its.toArray n dd sl k t c0 c1 c2 (by omega) c4 (by rw [size_rep, List.size_toArray]; exact flen)) ⟨ho, ?_⟩⟩)
      rw [size_rep]
      exact newT I (r.rep k.toNat) (by rw [PyProof.Rows.lm_len_rep_flat, sizeLine_eq]; have a1 : k.toNat * xs.length ≤ 1000 * 1000 := Nat.mul_le_mul (by omega) hz; omega) q2
    · have c2 : (decide (k ≤ 0) || its.toArray.isEmpty) = true := by rw [decide_eq_true (by omega)]; rfl
      refine wpAny_binaryOp_repeat_ref (T := "tuple") (U := "int") (by decide) ⟨_, ho, rfl⟩ (fun s' => typeIs_int s' k t) noFill_tuple_mul F.fills_int_mul F.slot_int_rmul repeat_tuple F.slot_int_index.lookup
        (call_meets F.slot_int_rmul (typeIs_int s k t) F.entry_int_rmul (F.args_int_rmul_2 _ _) (int_rmul_tuple k t l its.toArray n dd sl)
          ⟨ho, rfl, ⟨_, ho, rfl⟩, call_meets F.slot_tuple_mul ⟨_, ho, rfl⟩ F.entry_tuple_mul (F.args_tuple_mul_2 _ _) (tuple_mulZ l its.toArray n dd sl k t c0 c1 c2) ⟨ho, ?_⟩⟩)
      have e0 : (List.replicate k.toNat xs).flatten = [] := by
        have : k.toNat = 0 := by omega
        rw [this]; rfl
      rw [e0] at q2
      exact newT I .nil (Nat.zero_le _) q2
/-- t + u of tuples, any -/
theorem op_catG : OpR X (binaryOp .Add) (fun x y H Q => ∃ a b xs ys, x = .ref a ∧ y = .ref b ∧ SqT X.K H a xs ∧ SqT X.K H b ys ∧ xs.length + ys.length ≤ sizeLine ∧
    (xs = [] → Q (.ref b) H) ∧ (xs ≠ [] → ys = [] → Q (.ref a) H) ∧ NewT H (xs ++ ys) Q) := by
  intro pins s σ H x y v u Q I rx ry h
  obtain ⟨a, b, xs, ys, rfl, rfl, ha, hb, hz, q0, q1, q2⟩ := h
  cases rx
  cases ry
  obtain ⟨its, r1, p1, _⟩ := I.tuple ha
  obtain ⟨its2, r2, p2, _⟩ := I.tuple hb
  by_cases hx : xs = []
  · subst hx
    cases r1
    exact cat_tup0 p1 p2 ⟨.ref b, H, I, rfl, q0 rfl⟩
  · refine HT.cat_tup p1 p2 (fun z => hx (r1.nil_iff.mp z)) (fun z => ⟨.ref a, H, I, rfl, q1 hx (r2.nil_iff.mp z)⟩) (fun z => ?_) (by rw [← r1.length, ← r2.length]; exact hz)
    exact newT I (r1.append r2) (by rw [List.length_append]; exact hz) q2
theorem op_bin (o : BOp) : OpR X (binaryOp (opOf o)) (rBin X.K o) := by
  intro pins s σ H x y v u Q I rx ry h
  obtain ⟨F, d, e, z, sF, hx, hy, hb, k⟩ := h
  have fin : ∀ {w : V}, Dq X.K F w z → Q w H := fun hd => k _ F H (Ext.refl sF) hd
  cases o with
  | add =>
    cases d with
    | int i =>
      cases e with
      | int j => cases ok_inj hb; exact op_add pins s σ H x y v u Q I rx ry ⟨i, j, hx.int, hy.int, fin (.int _)⟩
      | _ => cases hb
    | str i =>
      cases e with
      | str j =>
        obtain ⟨g, hb⟩ := grd_ok hb
        cases ok_inj hb
        exact op_add_str pins s σ H x y v u Q I rx ry ⟨i, j, hx.str, hy.str, szOk_le g, fin (.str _)⟩
      | _ => cases hb
    | tuple xs =>
      cases e with
      | tuple ys =>
        obtain ⟨g, hb⟩ := grd_ok hb
        cases ok_inj hb
        obtain ⟨a, vs, rfl, t1, t1', r1⟩ := hx.tup sF
        obtain ⟨b, us, rfl, t2, t2', r2⟩ := hy.tup sF
        have l1 := r1.length
        have l2 := r2.length
        have hs := szOk_le g
        refine op_catG pins s σ H _ _ v u Q I rx ry ⟨a, b, vs, us, rfl, rfl, t1, t2, by omega, fun e1 => ?_, fun _ e2 => ?_, fun p o np ho => ?_⟩
        · subst e1; cases r1; exact fin (.tup t2' r2)
        · subst e2; cases r2; rw [List.append_nil] at fin; exact fin (.tup t1' r1)
        · exact k _ _ _ (Ext.laid sF np) (lay_tup sF np ho (r1.append r2))
      | _ => cases hb
    | list xs =>
      cases e with
      | list ys =>
        obtain ⟨g, hb⟩ := grd_ok hb
        cases ok_inj hb
        obtain ⟨a, vs, rfl, t1, r1⟩ := hx.list sF
        obtain ⟨b, us, rfl, t2, r2⟩ := hy.list sF
        have l1 := r1.length
        have l2 := r2.length
        have hs := szOk_le g
        exact op_catL pins s σ H _ _ v u Q I rx ry ⟨a, b, vs, us, rfl, rfl, t1, t2, by omega, fun p np => k _ _ _ (Ext.laid sF np) (lay_list sF np (r1.append r2))⟩
      | _ => cases hb
    | _ => cases e <;> cases hb
  | sub =>
    cases d with
    | int i =>
      cases e with
      | int j => cases ok_inj hb; exact op_sub pins s σ H x y v u Q I rx ry ⟨i, j, hx.int, hy.int, fin (.int _)⟩
      | _ => cases hb
    | _ => cases e <;> cases hb
  | mul =>
    cases d with
    | int i =>
      cases e with
      | int j =>
        obtain ⟨g, hb⟩ := grd_ok hb
        cases ok_inj hb
        rw [Bool.or_eq_true] at g
        exact op_mul pins s σ H x y v u Q I rx ry ⟨i, j, hx.int, hy.int, g.imp smallI_ok smallI_ok, fin (.int _)⟩
      | _ => cases hb
    | list xs =>
      cases e with
      | int m =>
        obtain ⟨g, hb⟩ := grd_ok hb
        cases ok_inj hb
        simp only [Bool.and_eq_true, decide_eq_true_eq] at g
        obtain ⟨a, vs, rfl, t1, r1⟩ := hx.list sF
        have hs := szOk_le g.2
        have l1 := r1.length
        exact op_repL pins s σ H _ _ v u Q I rx ry ⟨a, m, vs, rfl, hy.int, t1, by omega, by omega, by rw [l1]; exact hs, fun p np => k _ _ _ (Ext.laid sF np) (lay_list sF np (r1.flat _))⟩
      | _ => cases hb
    | tuple xs =>
      cases e with
      | int m =>
        obtain ⟨g, hb⟩ := grd_ok hb
        cases ok_inj hb
        simp only [Bool.and_eq_true, decide_eq_true_eq] at g
        obtain ⟨a, vs, rfl, t1, t1', r1⟩ := hx.tup sF
        have l1 := r1.length
        refine op_repA pins s σ H _ _ v u Q I rx ry ⟨a, m, vs, rfl, hy.int, t1, g.1.1, g.1.2, by rw [l1]; exact g.2, fun e1 => ?_, fun p o np ho => k _ _ _ (Ext.laid sF np) (lay_tup sF np ho (r1.flat _))⟩
        have z : Dq X.K F (.ref a) (.tuple xs) := .tup t1' r1
        rcases e1 with e1 | e1
        · subst e1; cases r1
          have : (List.replicate m.toNat ([] : List PyData)).flatten = [] := by simp
          rw [this] at fin
          exact fin z
        · subst e1
          have : (List.replicate (1 : Int).toNat xs).flatten = xs := by simp
          rw [this] at fin
          exact fin z
      | _ => cases hb
    | _ => cases e <;> cases hb
  | fdiv =>
    cases d with
    | int i =>
      cases e with
      | int j =>
        obtain ⟨g, hb⟩ := grd_ok hb
        cases ok_inj hb
        simp only [Bool.and_eq_true, decide_eq_true_eq] at g
        exact op_fdiv pins s σ H x y v u Q I rx ry ⟨i, j, hx.int, hy.int, g, fin (.int _)⟩
      | _ => cases hb
    | _ => cases e <;> cases hb
  | mod =>
    cases d with
    | int i =>
      cases e with
      | int j =>
        obtain ⟨g, hb⟩ := grd_ok hb
        cases ok_inj hb
        exact op_mod pins s σ H x y v u Q I rx ry ⟨i, j, hx.int, hy.int, of_decide_eq_true g, fin (.int _)⟩
      | _ => cases hb
    | _ => cases e <;> cases hb
  | pow =>
    cases d with
    | int i =>
      cases e with
      | int j =>
        obtain ⟨g, hb⟩ := grd_ok hb
        cases ok_inj hb
        simp only [Bool.and_eq_true, decide_eq_true_eq] at g
        exact op_pow pins s σ H x y v u Q I rx ry ⟨i, j, hx.int, hy.int, ⟨g.1.1, by omega, g.2⟩, fin (.int _)⟩
      | _ => cases hb
    | _ => cases e <;> cases hb
end
end RL
/-! RLCmp: comparisons by data. -/
namespace RL
open PySem PySem.Spec PyProof.Rows L2

def copOf : COp → CmpOp
  | .eq => .Eq
  | .ne => .NotEq
  | .lt => .Lt
  | .le => .LtE
  | .gt => .Gt
  | .ge => .GtE
  | .isin => .In
  | .notin => .NotIn
def rCmp (K : W.Frag) (o : COp) : R2 := fun x y H Q => ∃ F d v b, Same F H ∧ RD K F H x d ∧ RV K F H y v ∧ cmpD o d v = some b ∧ Q (.bl b) H

theorem bind_ok {a b : Type} {r : Option a} {f : a → Option b} {y : b} (h : Option.bind r f = some y) : ∃ x, r = some x ∧ f x = some y := by
  cases r with
  | some x => exact ⟨x, rfl, h⟩
  | none => cases h

section
variable {X : Cx}
theorem op_inT (hu : X.A.units + 65 < cLine) : OpR X (compareOp .In) (fun x y H Q => ∃ d ds, Dp X.K H x d ∧ Dp X.K H y (.tuple ds) ∧ SeqAt.shaped d = true ∧ SeqAt.shaped (.tuple ds) = true ∧ Q (.bl (ds.any fun z => PyData.eqv z d)) H) := by
  intro pins s σ H x y v u Q I rx ry h
  obtain ⟨d, ds, hd, he, sd, se, q⟩ := h
  obtain ⟨as, r1⟩ := Dp.reads I d x v hd rx
  obtain ⟨bs, r2⟩ := Dp.reads I (.tuple ds) y u he ry
  exact SeqAt.in_tuple_reads r2 r1 (SeqAt.canLay_of_shaped se) (SeqAt.canLay_of_shaped sd) (room_in_shaped sd hu) ⟨.bl _, H, I, rfl, q⟩
theorem op_notInT (hu : X.A.units + 65 < cLine) : OpR X (compareOp .NotIn) (fun x y H Q => ∃ d ds, Dp X.K H x d ∧ Dp X.K H y (.tuple ds) ∧ SeqAt.shaped d = true ∧ SeqAt.shaped (.tuple ds) = true ∧ Q (.bl (!ds.any fun z => PyData.eqv z d)) H) := by
  intro pins s σ H x y v u Q I rx ry h
  obtain ⟨d, ds, hd, he, sd, se, q⟩ := h
  obtain ⟨as, r1⟩ := Dp.reads I d x v hd rx
  obtain ⟨bs, r2⟩ := Dp.reads I (.tuple ds) y u he ry
  exact SeqAt.notIn_tuple_reads r2 r1 (SeqAt.canLay_of_shaped se) (SeqAt.canLay_of_shaped sd) (room_in_shaped sd hu) ⟨.bl _, H, I, rfl, q⟩

/-- the look into a dict by ints -/
theorem val_look {K : W.Frag} {F : Hp} (i : Int) : ∀ {ks : List (Key × V)} {kvs : List (Int × D)}, Paired (fun (p : Key × V) (q : Int × D) => p.1 = Sum.inl q.1 ∧ Dq K F p.2 q.2) ks kvs →
    (∀ d, lookI i kvs = some d → ∃ v, valV ks (.inl i) = some v ∧ Dq K F v d) ∧ (lookI i kvs = none → valV ks (.inl i) = none)
  | _, _, .nil => ⟨fun d h => (nomatch h), fun _ => rfl⟩
  | _, _, @Paired.cons _ _ _ p q ks kvs r t => by
    obtain ⟨k, v⟩ := p
    obtain ⟨j, d⟩ := q
    obtain ⟨e, rd⟩ := r
    simp only at e
    subst e
    obtain ⟨h1, h2⟩ := val_look i t
    by_cases hj : j = i
    · subst hj
      refine ⟨fun d' h => ?_, fun h => ?_⟩
      · simp only [lookI, if_true] at h
        cases h
        exact ⟨v, by simp [valV], rd⟩
      · simp [lookI] at h
    · have hk : ¬ ((Sum.inl j : Key) = Sum.inl i) := fun z => hj (Sum.inl.inj z)
      have hv : valV ((Sum.inl j, v) :: ks) (Sum.inl i : Key) = valV ks (.inl i) := by
        simp [valV, hj]
      rw [hv]
      simp only [lookI, if_neg hj]
      exact ⟨h1, h2⟩
theorem RV.dI {K : W.Frag} {F H : Hp} {x : V} {kvs : List (Int × D)} (s : Same F H) (h : RV K F H x (.dI kvs)) : ∃ a ks, x = .ref a ∧ H a = some (.dK ks) ∧ Paired (fun (p : Key × V) (q : Int × D) => p.1 = Sum.inl q.1 ∧ Dq K F p.2 q.2) ks kvs := by
  rcases h with h | ⟨a, o, e, _, h, c⟩
  · obtain ⟨a, o, e, h, c⟩ := h
    cases o with
    | dK ks => exact ⟨a, ks, e, s _ _ h, c⟩
    | _ => exact c.elim
  · cases o with
    | dK ks => exact ⟨a, ks, e, h, c⟩
    | _ => exact c.elim
theorem RV.exn {K : W.Frag} {F H : Hp} {x : V} {c : Nat} {p : Option D} (h : RV K F H x (.exn c p)) : False := by
  rcases h with h | ⟨a, o, e, _, h, c⟩
  · exact h
  · cases o <;> exact c.elim

theorem lexAt_shift (e r : Nat → Bool) (z : Bool) : ∀ k i : Nat, Ob.lexAt e r z (i + 1) k = Ob.lexAt (fun j => e (j + 1)) (fun j => r (j + 1)) z i k
  | 0, _ => rfl
  | k + 1, i => by rw [Ob.lexAt_succ, Ob.lexAt_succ, lexAt_shift e r z k (i + 1)]
/-- lexicographic, by what is told of the first pair that differs -/
def lexF (f : Int → Int → Bool) (z : Bool) : List Int → List Int → Bool
  | x :: xs, y :: ys => if x = y then lexF f z xs ys else f x y
  | _, _ => z
theorem lexAt_lists (f : Int → Int → Bool) (z : Bool) : ∀ ns ms : List Int,
    Ob.lexAt (fun j => decide (ns.getD j 0 = ms.getD j 0)) (fun j => f (ns.getD j 0) (ms.getD j 0)) z 0 (min ns.length ms.length) = lexF f z ns ms
  | [], ms => by simp [lexF, Ob.lexAt_zero]
  | _ :: _, [] => by simp [lexF, Ob.lexAt_zero]
  | n :: ns, m :: ms => by
    have h : min (n :: ns).length (m :: ms).length = min ns.length ms.length + 1 := by simp only [List.length_cons]; omega
    rw [h, Ob.lexAt_succ, lexAt_shift]
    have ih := lexAt_lists f z ns ms
    simp only [List.getD_cons_succ, List.getD_cons_zero] at ih ⊢
    rw [ih]
    simp [lexF]
theorem lexF_lt : ∀ ns ms : List Int, lexF (fun x y => decide (x < y)) (decide (ns.length < ms.length)) ns ms = HT.lexLt ns ms
  | [], [] => rfl
  | [], _ :: _ => by simp [lexF, HT.lexLt]
  | _ :: _, [] => by simp [lexF, HT.lexLt]
  | n :: ns, m :: ms => by
    have ih := lexF_lt ns ms
    simp only [lexF, HT.lexLt_cons, List.length_cons, Nat.add_lt_add_iff_right]
    rw [ih]
theorem lexF_not (f g : Int → Int → Bool) (h : ∀ x y, x ≠ y → f x y = !g x y) (z : Bool) : ∀ ns ms : List Int, lexF f (!z) ns ms = !lexF g z ns ms
  | [], _ => by simp [lexF]
  | _ :: _, [] => by simp [lexF]
  | n :: ns, m :: ms => by
    have ih := lexF_not f g h z ns ms
    simp only [lexF]
    by_cases e : n = m
    · rw [if_pos e, if_pos e, ih]
    · rw [if_neg e, if_neg e, h n m e]
theorem lexF_swap (f : Int → Int → Bool) (z : Bool) : ∀ ns ms : List Int, lexF f z ns ms = lexF (fun x y => f y x) z ms ns
  | [], [] => rfl
  | [], _ :: _ => rfl
  | _ :: _, [] => rfl
  | n :: ns, m :: ms => by
    have ih := lexF_swap f z ns ms
    simp only [lexF, ih]
    by_cases e : n = m
    · rw [if_pos e, if_pos e.symm]
    · rw [if_neg e, if_neg fun z => e z.symm]

/-- t op u for tuples of ints -/
theorem tup_ord {op : CmpOp} {f : Int → Int → Bool} {zz : Nat → Nat → Bool} (hop : compareOp op = richCompare op)
    (hr : ∀ (A : Around) (s : Shared) (a b : Int) (t u : Tok), Ob.RcOp op A s (.int a t) (.int b u) (f a b))
    (rule : ∀ {A : Around} {s : Shared} {l b : Addr} {items items2 : Array Value} {e r : Nat → Bool}, s.heap.IsTuple l items → s.heap.IsTuple b items2 → A.units < cLine →
      (∀ j (h1 : j < items.size) (h2 : j < items2.size), SeqAt.EqAt A.in1 s items[j] items2[j] (e j)) → (∀ j (h1 : j < items.size) (h2 : j < items2.size), e j = false → Ob.RcOp op A.in1 s items[j] items2[j] (r j)) →
      Ob.RcOp op A s (.ref l) (.ref b) (Ob.lexAt e r (zz items.size items2.size) 0 (min items.size items2.size)))
    (hu : X.A.units < cLine) : OpR X (compareOp op) (fun x y H Q => ∃ (a b : Addr) (ns ms : List Int), x = .ref a ∧ y = .ref b ∧ SqT X.K H a (ns.map V.int) ∧ SqT X.K H b (ms.map V.int) ∧ Q (.bl (lexF f (zz ns.length ms.length) ns ms)) H) := by
  intro pins s σ H x y v u Q I rx ry h
  obtain ⟨a, b, ns, ms, rfl, rfl, ha, hb, q⟩ := h
  cases rx
  cases ry
  obtain ⟨its, r1, p1, _⟩ := I.tuple ha
  obtain ⟨its2, r2, p2, _⟩ := I.tuple hb
  have i1 : IntsAre its ns := Vals.ints r1
  have i2 : IntsAre its2 ms := Vals.ints r2
  have e1 : its.toArray.size = ns.length := by rw [List.size_toArray]; exact i1.length
  have e2 : its2.toArray.size = ms.length := by rw [List.size_toArray]; exact i2.length
  have at1 : ∀ j (h1 : j < its.toArray.size), ∃ t, its.toArray[j] = .int (ns.getD j 0) t := fun j h1 => PyProof.Rows.IntsAre.int_at i1 _ _ (by simp at h1; simp [h1])
  have at2 : ∀ j (h1 : j < its2.toArray.size), ∃ t, its2.toArray[j] = .int (ms.getD j 0) t := fun j h1 => PyProof.Rows.IntsAre.int_at i2 _ _ (by simp at h1; simp [h1])
  have R := rule (A := X.A) (s := s) (e := fun j => decide (ns.getD j 0 = ms.getD j 0)) (r := fun j => f (ns.getD j 0) (ms.getD j 0)) p1 p2 hu (fun j h1 h2 => by
    obtain ⟨t, et⟩ := at1 j h1
    obtain ⟨t', et'⟩ := at2 j h2
    rw [et, et']
    have z : (ns.getD j 0 == ms.getD j 0) = decide (ns.getD j 0 = ms.getD j 0) := by
      by_cases q : ns.getD j 0 = ms.getD j 0
      · rw [decide_eq_true q]; exact beq_iff_eq.mpr q
      · rw [decide_eq_false q]; exact beq_eq_false_iff_ne.mpr q
    rw [← z]
    exact SeqAt.EqAt.int_int _ _ _ _) (fun j h1 h2 _ => by
    obtain ⟨t, et⟩ := at1 j h1
    obtain ⟨t', et'⟩ := at2 j h2
    rw [et, et']
    exact hr _ _ _ _ _ _)
  rw [e1, e2, lexAt_lists] at R
  rw [hop]
  exact R X.prog X.w X.xe (EP X pins σ Q) ⟨.bl _, H, I, rfl, q⟩

theorem in_ok (hu : X.A.units + 65 < cLine) (neg : Bool) : OpR X (compareOp (if neg then .NotIn else .In)) (fun x y H Q => ∃ F d v b, Same F H ∧ RD X.K F H x d ∧ RV X.K F H y v ∧ inV d v = some b ∧ Q (.bl (if neg then !b else b)) H) := by
  intro pins s σ H x y v u Q I rx ry h
  obtain ⟨F, d, w, b, sF, hx, hy, hb, q⟩ := h
  cases w with
  | dat e =>
    have hy' := hy.rd
    have h1 := Dq.dp _ _ (hx.data sF)
    have h2 := Dq.dp _ _ (hy'.data sF)
    cases e with
    | list ys =>
      obtain ⟨g, hb⟩ := grd_ok hb
      rw [Bool.and_eq_true] at g
      cases ok_inj hb
      cases neg with
      | true => exact op_notInD hu pins s σ H x y v u Q I rx ry ⟨d, ys, h1, h2, g.1, g.2, q⟩
      | false => exact op_inD hu pins s σ H x y v u Q I rx ry ⟨d, ys, h1, h2, g.1, g.2, q⟩
    | tuple ys =>
      obtain ⟨g, hb⟩ := grd_ok hb
      rw [Bool.and_eq_true] at g
      cases ok_inj hb
      cases neg with
      | true => exact op_notInT hu pins s σ H x y v u Q I rx ry ⟨d, ys, h1, h2, g.1, g.2, q⟩
      | false => exact op_inT hu pins s σ H x y v u Q I rx ry ⟨d, ys, h1, h2, g.1, g.2, q⟩
    | str z =>
      cases d with
      | str w =>
        cases ok_inj hb
        cases neg with
        | true => exact op_notin_str pins s σ H x y v u Q I rx ry ⟨w, z, hx.str, hy'.str, q⟩
        | false => exact op_in_str pins s σ H x y v u Q I rx ry ⟨w, z, hx.str, hy'.str, q⟩
      | _ => cases hb
    | _ => cases hb
  | dI kvs =>
    cases d with
    | int i =>
      cases ok_inj hb
      obtain ⟨a, ks, rfl, ha, c⟩ := hy.dI sF
      obtain ⟨v1, v2⟩ := val_look i c
      have hx' := hx.int
      subst hx'
      have hs : (valV ks (Sum.inl i : Key)).isSome = (lookI i kvs).isSome := by
        cases e : lookI i kvs with
        | none => rw [v2 e]; rfl
        | some d => obtain ⟨w, h1, _⟩ := v1 d e; rw [h1]; rfl
      cases (show u = Value.ref a from ry)
      rw [← hs] at q
      cases neg with
      | true => exact d_notIn (by omega) I (DGet.k (k := .inl i) ha) rx fun s3 I3 => ⟨.bl _, H, I3, rfl, q⟩
      | false => exact d_in (by omega) I (DGet.k (k := .inl i) ha) rx fun s3 I3 => ⟨.bl _, H, I3, rfl, q⟩
    | _ => cases hb
  | dT kvs =>
    cases ek : keyT d with
    | none =>
      have hb : (match keyT d with | some k => some (lookT k kvs).isSome | none => none) = some b := hb
      rw [ek] at hb; cases hb
    | some is =>
      have hb : (match keyT d with | some k => some (lookT k kvs).isSome | none => none) = some b := hb
      rw [ek] at hb
      cases ok_inj hb
      obtain ⟨p, rfl, hk⟩ := hx.key ek
      obtain ⟨a, ys, ep, rfl, ha, c⟩ := hy.dT sF
      cases (show u = Value.ref a from ry)
      cases (show v = Value.ref p from rx)
      cases neg with
      | true => exact dT_notIn (by omega) I sF ha c hk fun s3 I3 => ⟨.bl _, H, I3, rfl, q⟩
      | false => exact dT_in (by omega) I sF ha c hk fun s3 I3 => ⟨.bl _, H, I3, rfl, q⟩
  | exn _ _ => exact hy.exn.elim

theorem ordT_ok (hu : X.A.units < cLine) {o : COp} {xs ys : List Int} {b : Bool} (hb : ordT o xs ys = some b) {pins : List (Addr × Obj)} {s : Shared} {σ : L2.St} {H : Hp} {p q : Addr} {Q : VK} (I : Inv X pins σ H s)
    (hp : SqT X.K H p (xs.map V.int)) (hq : SqT X.K H q (ys.map V.int)) (h : Q (.bl b) H) : wpAny (model X.prog X.w) X.A (compareOp (copOf o) (.ref p) (.ref q)) (EP X pins σ Q) X.xe s := by
  have nlt : ∀ a b : List Int, decide (a.length ≤ b.length) = !decide (b.length < a.length) := fun a b => by
    by_cases h : b.length < a.length
    · rw [decide_eq_true h, decide_eq_false (by omega)]; rfl
    · rw [decide_eq_false h, decide_eq_true (by omega)]; rfl
  cases o with
  | lt =>
    cases ok_inj hb
    refine tup_ord (f := fun x y => decide (x < y)) (zz := fun m n => decide (m < n)) rfl (fun A s a b t u => Ob.RcOp.lt_int a b t u) Ob.RcOp.tuples_lt hu pins s σ H (.ref p) (.ref q) _ _ Q I rfl rfl ⟨p, q, xs, ys, rfl, rfl, hp, hq, ?_⟩
    rw [lexF_lt]; exact h
  | le =>
    cases ok_inj hb
    refine tup_ord (f := fun x y => decide (x ≤ y)) (zz := fun m n => decide (m ≤ n)) rfl (fun A s a b t u => Ob.RcOp.le_int a b t u) Ob.RcOp.tuples_le hu pins s σ H (.ref p) (.ref q) _ _ Q I rfl rfl ⟨p, q, xs, ys, rfl, rfl, hp, hq, ?_⟩
    show Q (.bl (lexF (fun x y => decide (x ≤ y)) (decide (xs.length ≤ ys.length)) xs ys)) H
    rw [nlt, lexF_not _ (fun x y => decide (y < x)) (fun x y _ => by
      by_cases h : y < x
      · rw [decide_eq_true h, decide_eq_false (by omega)]; rfl
      · rw [decide_eq_false h, decide_eq_true (by omega)]; rfl), lexF_swap, lexF_lt]; exact h
  | gt =>
    cases ok_inj hb
    refine tup_ord (f := fun x y => decide (y < x)) (zz := fun m n => decide (m > n)) rfl (fun A s a b t u => Ob.RcOp.gt_int a b t u) Ob.RcOp.tuples_gt hu pins s σ H (.ref p) (.ref q) _ _ Q I rfl rfl ⟨p, q, xs, ys, rfl, rfl, hp, hq, ?_⟩
    show Q (.bl (lexF (fun x y => decide (y < x)) (decide (ys.length < xs.length)) xs ys)) H
    rw [lexF_swap, lexF_lt]; exact h
  | ge =>
    cases ok_inj hb
    refine tup_ord (f := fun x y => decide (y ≤ x)) (zz := fun m n => decide (m ≥ n)) rfl (fun A s a b t u => Ob.RcOp.ge_int a b t u) Ob.RcOp.tuples_ge hu pins s σ H (.ref p) (.ref q) _ _ Q I rfl rfl ⟨p, q, xs, ys, rfl, rfl, hp, hq, ?_⟩
    show Q (.bl (lexF (fun x y => decide (y ≤ x)) (decide (ys.length ≤ xs.length)) xs ys)) H
    rw [nlt, lexF_not _ (fun x y => decide (x < y)) (fun x y _ => by
      by_cases h : x < y
      · rw [decide_eq_true h, decide_eq_false (by omega)]; rfl
      · rw [decide_eq_false h, decide_eq_true (by omega)]; rfl), lexF_lt]; exact h
  | _ => cases hb

theorem op_cmp (hu : X.A.units + 65 < cLine) (o : COp) : OpR X (compareOp (copOf o)) (rCmp X.K o) := by
  intro pins s σ H x y v u Q I rx ry h
  obtain ⟨F, d, w, b, sF, hx, hy, hb, q⟩ := h
  have ord : ordV o d w = some b → wpAny (model X.prog X.w) X.A (compareOp (copOf o) v u) (EP X pins σ Q) X.xe s := fun hc => by
    cases d with
    | int i =>
      cases w with
      | dat e =>
        cases e with
        | int j =>
          have e1 := hx.int
          have e2 := hy.rd.int
          subst e1 e2
          have hc : ordI o i j = some b := hc
          cases o with
          | lt => cases ok_inj hc; exact op_lt pins s σ H _ _ v u Q I rx ry ⟨i, j, rfl, rfl, q⟩
          | le => cases ok_inj hc; exact op_le pins s σ H _ _ v u Q I rx ry ⟨i, j, rfl, rfl, q⟩
          | gt => cases ok_inj hc; exact op_gt pins s σ H _ _ v u Q I rx ry ⟨i, j, rfl, rfl, q⟩
          | ge => cases ok_inj hc; exact op_ge pins s σ H _ _ v u Q I rx ry ⟨i, j, rfl, rfl, q⟩
          | _ => cases hc
        | _ => cases hc
      | _ => cases hc
    | tuple xs =>
      cases w with
      | dat e =>
        cases e with
        | tuple ys =>
          obtain ⟨a, vs, rfl, t1, _, r1⟩ := hx.tup sF
          obtain ⟨c, us, rfl, t2, _, r2⟩ := hy.rd.tup sF
          cases (show v = Value.ref a from rx)
          cases (show u = Value.ref c from ry)
          have hc : (match intsOf xs, intsOf ys with
            | some is, some js => ordT o is js
            | _, _ => none) = (some b : Option Bool) := hc
          cases e1 : intsOf xs with
          | none => rw [e1] at hc; cases hc
          | some is =>
            cases e2 : intsOf ys with
            | none => rw [e1, e2] at hc; cases hc
            | some js =>
              rw [e1, e2] at hc
              obtain ⟨q1, _⟩ := r1.ints_inv e1
              obtain ⟨q2, _⟩ := r2.ints_inv e2
              subst q1 q2
              exact ordT_ok (by omega) hc I t1 t2 q
        | _ => cases hc
      | _ => cases hc
    | _ => cases hc
  cases o with
  | isin => exact in_ok hu false pins s σ H x y v u Q I rx ry ⟨F, d, w, b, sF, hx, hy, hb, q⟩
  | notin =>
    obtain ⟨b', h1, h2⟩ := bind_ok hb
    cases ok_inj h2
    exact in_ok hu true pins s σ H x y v u Q I rx ry ⟨F, d, w, b', sF, hx, hy, h1, q⟩
  | eq =>
    cases w with
    | dat e =>
      obtain ⟨g, hb⟩ := grd_ok hb
      rw [Bool.and_eq_true] at g
      cases ok_inj hb
      exact op_eqD (by omega) pins s σ H x y v u Q I rx ry ⟨d, e, Dq.dp _ _ (hx.data sF), Dq.dp _ _ (hy.rd.data sF), g.1, g.2, q⟩
    | _ => cases hb
  | ne =>
    cases w with
    | dat e =>
      obtain ⟨b', h1, h2⟩ := bind_ok hb
      cases ok_inj h2
      obtain ⟨g, h1⟩ := grd_ok h1
      rw [Bool.and_eq_true] at g
      cases ok_inj h1
      exact op_neD (by omega) pins s σ H x y v u Q I rx ry ⟨d, e, Dq.dp _ _ (hx.data sF), Dq.dp _ _ (hy.rd.data sF), g.1, g.2, q⟩
    | _ => cases hb
  | lt => exact ord hb
  | le => exact ord hb
  | gt => exact ord hb
  | ge => exact ord hb
end
end RL
/-! RLBlt: displays, subscripts, slices, built-in calls and methods by data. -/
namespace RL
open PySem PySem.Spec PyProof.Rows L2

section
variable {X : Cx} {es : List Expr} {t : TA} {pos : Pos}
/-- a tuple's display -/
def tTupG (t : TA) : TE := fun σ H Q => t σ H fun xs H1 => xs.length ≤ sizeLine ∧ NewT H1 xs Q
theorem pe_tupG {x1} (h : PA X es t) : PE X (.Tuple es x1 pos) (tTupG t) := by
  refine ⟨fun pins s σ H Q I hq => ?_⟩
  refine wpAny_Tuple_spliced (thn (h.run pos pins s σ H _ I hq) fun us s1 ⟨xs, H1, I1, r, z, q⟩ => ⟨by rw [← r.length]; exact z, ?_⟩)
  exact newT I1 r z q

theorem cut_map {α β : Type} (xs : List α) (f : α → β) (lo hi : Option Int) : cut (xs.map f) lo hi = (cut xs lo hi).map f := by
  unfold cut; rw [List.length_map, List.map_take, List.map_drop]
theorem cut_V (xs : List V) (lo hi : Option Int) : cutV xs lo hi = cut xs lo hi := rfl
theorem DqAll.cut {K : W.Frag} {F : Hp} {ds : List D} {vs : List V} (h : DqAll K F vs ds) (lo hi : Option Int) : DqAll K F (cut vs lo hi) (cut ds lo hi) := by
  unfold RL.cut; rw [h.length]; exact (h.drop _).take _

/-! ### subscripts -/
theorem ix_dict (hu : X.A.units + 1 < cLine) : IxR X (fun x y H Q => ∃ a v, x = .ref a ∧ DGet H a y (some v) ∧ Q v H) := by
  intro value slice pins s σ H x y v u Q I rx ry h hs
  obtain ⟨a, w, rfl, g, q⟩ := h
  cases rx
  have hT := dict_typeIs I g
  unfold subscriptTail
  refine wpAny_bind ?_
  rw [getitemInPython_of_ne hT.not_modules]
  refine wpAny_bind (wpAny_specialOf hT PySem.F.slot_dict_getitem.lookup ?_)
  have fin : wpAny (model X.prog X.w) X.A (subscripted slice false (.ref a) u) (fun r s₃ => wpAny (model X.prog X.w) X.A (letTemporaryGo value (.ref a) r >>= fun _ => pure r) (EP X pins σ Q) X.xe s₃) X.xe s := by
    rw [hs]
    refine wpAny_operating (d_getItem hu I g ry fun w' s3 I3 rw' => ?_)
    exact wpAny_bind (wpAny_letTemporaryGo (wpAny_pure ⟨w, H, I3, rw', q⟩))
  first
    | exact wpAny_pure (wpAny_bind fin)
    | exact wpAny_bind (wpAny_pure (wpAny_bind fin))
    | exact wpAny_bind fin

theorem atI_map {K : W.Frag} {F : Hp} {ds : List D} {vs : List V} {i : Int} {d : D} (h : DqAll K F vs ds) (e : L2.atI ds i = some d) : ∃ v, L2.atI vs i = some v ∧ Dq K F v d := by
  unfold L2.atI at e ⊢
  rw [h.length]
  cases q : ixN ds.length i with
  | none => rw [q] at e; cases e
  | some j =>
    rw [q] at e
    exact h.get e

def rIx (K : W.Frag) : R2 := fun x y H Q => ∃ F v d z, Same F H ∧ RV K F H x v ∧ RD K F H y d ∧ idxD v d = some z ∧ ∀ w, Dq K F w z → Q w H
theorem ofO_ok {a : Type} {o : Option a} {x : a} (h : o = some x) : o = some x := h
theorem ix_ok (hu : X.A.units + 1 < cLine) : IxR X (rIx X.K) := by
  intro value slice pins s σ H x y v u Q I rx ry h hs
  obtain ⟨F, w, d, z, sF, hx, hy, hb, q⟩ := h
  cases w with
  | dat e =>
    have hx' := hx.rd
    cases e with
    | list xs =>
      cases d with
      | int i =>
        have hb := ofO_ok hb
        have e2 := hy.int
        subst e2
        obtain ⟨a, vs, rfl, t1, r1⟩ := hx'.list sF
        obtain ⟨v', h1, h2⟩ := atI_map r1 hb
        exact ix_list value slice pins s σ H _ _ v u Q I rx ry ⟨a, vs, i, v', rfl, rfl, .inl t1, h1, q _ h2⟩ hs
      | _ => cases hb
    | tuple xs =>
      cases d with
      | int i =>
        have hb := ofO_ok hb
        have e2 := hy.int
        subst e2
        obtain ⟨a, vs, rfl, t1, _, r1⟩ := hx'.tup sF
        obtain ⟨v', h1, h2⟩ := atI_map r1 hb
        exact ix_tup value slice pins s σ H _ _ v u Q I rx ry ⟨a, vs, i, v', rfl, rfl, t1, h1, q _ h2⟩ hs
      | _ => cases hb
    | str w =>
      cases d with
      | int i =>
        obtain ⟨g, hb⟩ := grd_ok hb
        obtain ⟨c, h1, h2⟩ := bind_ok hb
        cases ok_inj h2
        have e1 := hx'.str
        have e2 := hy.int
        subst e1 e2
        exact ix_str value slice pins s σ H _ _ v u Q I rx ry ⟨w, i, c, rfl, rfl, szOk_le g, ofO_ok h1, q _ (.str _)⟩ hs
      | _ => cases hb
    | _ => cases hb
  | dI kvs =>
    cases d with
    | int i =>
      have hb := ofO_ok hb
      have e2 := hy.int
      subst e2
      obtain ⟨a, ks, rfl, ha, c⟩ := hx.dI sF
      obtain ⟨v', h1, h2⟩ := (val_look i c).1 z hb
      refine ix_dict hu value slice pins s σ H _ _ v u Q I rx ry ⟨a, v', rfl, ?_, q _ h2⟩ hs
      have g := DGet.k (k := .inl i) ha
      rw [h1] at g
      exact g
    | _ => cases hb
  | dT kvs =>
    cases ek : keyT d with
    | none =>
      have hb : (match keyT d with | some k => lookT k kvs | none => none) = some z := hb
      rw [ek] at hb; cases hb
    | some is =>
      have hb : (match keyT d with | some k => lookT k kvs | none => none) = some z := hb
      rw [ek] at hb
      obtain ⟨p, rfl, hk⟩ := hy.key ek
      obtain ⟨a, ys, ep, rfl, ha, c⟩ := hx.dT sF
      cases (show v = Value.ref a from rx)
      cases (show u = Value.ref p from ry)
      obtain ⟨dd, _, _⟩ := dT_at I sF ha c
      have hT := dd.typeIs
      unfold subscriptTail
      refine wpAny_bind ?_
      rw [getitemInPython_of_ne hT.not_modules]
      refine wpAny_bind (wpAny_specialOf hT PySem.F.slot_dict_getitem.lookup ?_)
      have fin : wpAny (model X.prog X.w) X.A (subscripted slice false (.ref a) (.ref p)) (fun r s₃ => wpAny (model X.prog X.w) X.A (letTemporaryGo value (.ref a) r >>= fun _ => pure r) (EP X pins σ Q) X.xe s₃) X.xe s := by
        rw [hs]
        refine wpAny_operating (dT_get (by omega) I sF ha c hk hb fun w w' s3 I3 hw rw' => ?_)
        exact wpAny_bind (wpAny_letTemporaryGo (wpAny_pure ⟨w, H, I3, rw', q _ hw⟩))
      first
        | exact wpAny_pure (wpAny_bind fin)
        | exact wpAny_bind (wpAny_pure (wpAny_bind fin))
        | exact wpAny_bind fin
  | exn _ _ => exact hx.exn.elim

/-! ### slices -/
theorem sl_tupG : SlR X (fun x lo hi H Q => ∃ a xs, x = .ref a ∧ SqT X.K H a xs ∧
    (HT.sIx xs.length 0 lo = 0 ∧ HT.sIx xs.length xs.length hi = xs.length → Q (.ref a) H) ∧ NewT H (cutV xs lo hi) Q) := by
  intro pins s σ H x v vl vu lo hi sl Q I rx hs pl pu h
  obtain ⟨a, xs, rfl, hx, q1, q2⟩ := h
  cases rx
  obtain ⟨its, r, ht, hz⟩ := I.tuple hx
  have hlen : its.toArray.size = xs.length := by rw [List.size_toArray]; exact r.length.symm
  refine ⟨"tuple", _, PyProof.Rows.slot_tuple_getitem.lookup, ht.typeIs, ?_⟩
  by_cases hw : HT.sIx xs.length 0 lo = 0 ∧ HT.sIx xs.length xs.length hi = xs.length
  · exact getItem_tuple_whole ht hs pl pu (by rw [hlen]; exact hw) ⟨.ref a, H, I, rfl, q1 hw⟩
  · refine HT.getItem_tuple_cut ht hs pl pu (by rw [hlen]; exact hw) ?_ (by rw [hlen]; exact hz)
    rw [hlen]
    exact newT I ((r.drop (HT.sIx xs.length 0 lo)).take (HT.sIx xs.length xs.length hi - HT.sIx xs.length 0 lo)) (Nat.le_trans (cutV_length xs lo hi) hz) q2
def rSl (K : W.Frag) : V → Option Int → Option Int → Hp → VK → Prop := fun x lo hi H Q => ∃ F d z, Same F H ∧ RD K F H x d ∧ cutD d lo hi = some z ∧ Wants K F H z Q
theorem sl_ok : SlR X (rSl X.K) := by
  intro pins s σ H x v vl vu lo hi sl Q I rx hs pl pu h
  obtain ⟨F, d, z, sF, hx, hb, k⟩ := h
  cases d with
  | list xs =>
    cases ok_inj hb
    obtain ⟨a, vs, rfl, t1, r1⟩ := hx.list sF
    exact sl_list pins s σ H _ v vl vu lo hi sl Q I rx hs pl pu ⟨a, vs, rfl, .inl t1, fun p np => k _ _ _ (Ext.laid sF np) (lay_list sF np (r1.cut lo hi))⟩
  | tuple xs =>
    cases ok_inj hb
    obtain ⟨a, vs, rfl, t1, t1', r1⟩ := hx.tup sF
    refine sl_tupG pins s σ H _ v vl vu lo hi sl Q I rx hs pl pu ⟨a, vs, rfl, t1, fun e => ?_, fun p o np ho => k _ _ _ (Ext.laid sF np) (lay_tup sF np ho (r1.cut lo hi))⟩
    have ez : cut xs lo hi = xs := by
      unfold cut
      rw [← r1.length, e.1, e.2]
      simp [r1.length]
    refine k _ F H (Ext.refl sF) ?_
    rw [ez]
    exact .tup t1' r1
  | str w =>
    obtain ⟨g, hb⟩ := grd_ok hb
    cases ok_inj hb
    refine sl_str pins s σ H x v vl vu lo hi sl Q I rx hs pl pu ⟨w, hx.str, szOk_le g, ?_⟩
    refine k _ F H (Ext.refl sF) ?_
    have : cutS w lo hi = ⟨(cut w.cps.toList lo hi).toArray⟩ := by
      unfold cutS cut
      simp [Str.length]
    rw [this]
    exact .str _
  | _ => cases hb

/-! ### len -/
theorem one_of {x : V} {us : List Value} (r : Vals [x] us) : ∃ u, us = [u] ∧ RelV x u := vals1 r
/-- a call of one value -/
def rF1 (K : W.Frag) (f : F1) : List V → Hp → VK → Prop := fun xs H Q => ∃ x F v z, xs = [x] ∧ Same F H ∧ RV K F H x v ∧ fn1D f v = some z ∧ Wants K F H z Q
theorem call_lenG : CallR X (.builtin "len") (rF1 X.K .len) := by
  intro pins s σ H xs us Q I r h
  obtain ⟨x, F, v, z, rfl, sF, hx, hb, k⟩ := h
  have fin : ∀ {w : V}, Dq X.K F w z → Q w H := fun hd => k _ F H (Ext.refl sF) hd
  cases v with
  | dat d =>
    have hx' := hx.rd
    cases d with
    | list ds =>
      cases ok_inj hb
      obtain ⟨a, vs, rfl, t1, r1⟩ := hx'.list sF
      refine call_len_seq pins s σ H _ us Q I r ⟨a, vs, rfl, .inl (.inl t1), ?_⟩
      rw [r1.length]; exact fin (.int _)
    | tuple ds =>
      cases ok_inj hb
      obtain ⟨a, vs, rfl, t1, _, r1⟩ := hx'.tup sF
      refine call_len_seq pins s σ H _ us Q I r ⟨a, vs, rfl, .inr t1, ?_⟩
      rw [r1.length]; exact fin (.int _)
    | str w =>
      obtain ⟨g, hb⟩ := grd_ok hb
      cases ok_inj hb
      have e1 := hx'.str
      subst e1
      exact call_len_str pins s σ H _ us Q I r ⟨w, rfl, szOk_le g, fin (.int _)⟩
    | _ => cases hb
  | dI kvs =>
    cases ok_inj hb
    obtain ⟨a, ks, rfl, ha, c⟩ := hx.dI sF
    obtain ⟨u, rfl, ru⟩ := one_of r
    cases ru
    have hl : ks.length = kvs.length := Paired.length c
    refine d_len I (.inl ha) fun t s' I' => ⟨.int kvs.length, H, I', ?_, fin (.int _)⟩
    rw [hl]; exact ⟨t, rfl⟩
  | dT kvs => cases hb
  | exn _ _ => exact hx.exn.elim

/-! ### tuple(..), list(..) -/
theorem call_tupG : CallR X (.type "tuple") (rF1 X.K .tuple) := by
  intro pins s σ H xs us Q I r h
  obtain ⟨x, F, v, z, rfl, sF, hx, hb, k⟩ := h
  obtain ⟨u, rfl, rx⟩ := one_of r
  cases v with
  | dat d =>
    have hx' := hx.rd
    cases d with
    | list ds =>
      cases ok_inj hb
      obtain ⟨a, vs, rfl, t1, r1⟩ := hx'.list sF
      cases rx
      obtain ⟨its, r', pl, hz⟩ := I.list (.inl t1)
      have hlen := r'.length
      refine call_tuple_list pl.isList (fun h' kp => ?_) (by simp only [List.size_toArray] <;> omega)
      have I1 : Inv X pins σ H { s with heap := h' } := I.kept (t' := s.toks) kp
      exact newT I1 r' hz fun p o np ho => k _ _ _ (Ext.laid sF np) (lay_tup sF np ho r1)
    | tuple ds =>
      cases ok_inj hb
      obtain ⟨a, vs, rfl, t1, t1', r1⟩ := hx'.tup sF
      exact call_tupleT pins s σ H _ _ Q I (.cons rx .nil) ⟨a, vs, rfl, t1, k _ F H (Ext.refl sF) (.tup t1' r1)⟩
    | _ => cases hb
  | _ => cases hb
/-- a new list: the reading of a fresh thing -/
def rNewL (K : W.Frag) (g : Vl → Option D) : List V → Hp → VK → Prop := fun xs H Q => ∃ x F v ds, xs = [x] ∧ Same F H ∧ RV K F H x v ∧ g v = some (.list ds) ∧ ∀ p vs, H p = none → DqAll K F vs ds → Q (.ref p) (upd H p (.lst vs))
def listSeq : Vl → Option D
  | .dat (.list xs) => some (.list xs)
  | .dat (.tuple xs) => some (.list xs)
  | _ => none
theorem call_listG : CallR X (.type "list") (rNewL X.K listSeq) := by
  intro pins s σ H xs us Q I r h
  obtain ⟨x, F, v, ds, rfl, sF, hx, hb, k⟩ := h
  cases v with
  | dat d =>
    have hx' := hx.rd
    cases d with
    | list ds' =>
      cases ok_inj hb
      obtain ⟨a, vs, rfl, t1, r1⟩ := hx'.list sF
      exact call_list_of pins s σ H _ us Q I r ⟨a, vs, rfl, .inl (.inl t1), fun p np => k p vs np r1⟩
    | tuple ds' =>
      cases ok_inj hb
      obtain ⟨a, vs, rfl, t1, t1', r1⟩ := hx'.tup sF
      exact call_list_of pins s σ H _ us Q I r ⟨a, vs, rfl, .inr t1, fun p np => k p vs np r1⟩
    | _ => cases hb
  | _ => cases hb

/-! ### int, str, min, max of two -/
theorem call_intG : CallR X (.type "int") (rF1 X.K .int) := by
  intro pins s σ H xs us Q I r h
  obtain ⟨x, F, v, z, rfl, sF, hx, hb, k⟩ := h
  have fin : ∀ {w : V}, Dq X.K F w z → Q w H := fun hd => k _ F H (Ext.refl sF) hd
  cases v with
  | dat d =>
    have hx' := hx.rd
    cases d with
    | int i =>
      cases ok_inj hb
      have e1 := hx'.int
      subst e1
      exact call_int1 pins s σ H _ us Q I r (.inl ⟨i, rfl, fin (.int _)⟩)
    | bool b =>
      cases ok_inj hb
      have e1 := hx'.bool
      subst e1
      exact call_int1 pins s σ H _ us Q I r (.inr ⟨b, rfl, fin (.int _)⟩)
    | _ => cases hb
  | _ => cases hb
def rF2 (K : W.Frag) (f : F2) : List V → Hp → VK → Prop := fun xs H Q => ∃ x y F d e z, xs = [x, y] ∧ Same F H ∧ RD K F H x d ∧ RD K F H y e ∧ fn2D f d e = some z ∧ Wants K F H z Q
theorem call_min2G (hc : X.calm = true) : CallR X (.builtin "min") (rF2 X.K .min) := by
  intro pins s σ H xs us Q I r h
  obtain ⟨x, y, F, d, e, z, rfl, sF, hx, hy, hb, k⟩ := h
  cases d with
  | int i =>
    cases e with
    | int j =>
      cases ok_inj hb
      have e1 := hx.int
      have e2 := hy.int
      subst e1 e2
      exact call_min2 hc pins s σ H _ us Q I r ⟨i, j, rfl, k _ F H (Ext.refl sF) (.int _)⟩
    | _ => cases hb
  | _ => cases e <;> cases hb
theorem call_max2G (hc : X.calm = true) : CallR X (.builtin "max") (rF2 X.K .max) := by
  intro pins s σ H xs us Q I r h
  obtain ⟨x, y, F, d, e, z, rfl, sF, hx, hy, hb, k⟩ := h
  cases d with
  | int i =>
    cases e with
    | int j =>
      cases ok_inj hb
      have e1 := hx.int
      have e2 := hy.int
      subst e1 e2
      exact call_max2 hc pins s σ H _ us Q I r ⟨i, j, rfl, k _ F H (Ext.refl sF) (.int _)⟩
    | _ => cases hb
  | _ => cases e <;> cases hb

/-! ### isinstance -/
def tyName : Ty → Option String
  | .int => some "int"
  | .bool => some "bool"
  | .tuple => some "tuple"
  | .list => some "list"
  | .str => some "str"
  | .cls _ => none
def typD : D → String
  | .none => "NoneType"
  | .bool _ => "bool"
  | .int _ => "int"
  | .str _ => "str"
  | .list _ => "list"
  | .tuple _ => "tuple"
  | .dict _ => "dict"
theorem RV.ty {K : W.Frag} {F H : Hp} {x : V} {d : D} (sF : Same F H) (h : RV K F H x (.dat d)) : TyX K H x (.type (typD d)) := by
  have h := h.rd
  rcases h with h | ⟨a, vs, ds, rfl, rfl, h, _⟩
  · cases h with
    | non => exact .base .non
    | bl b => exact .base (.bl b)
    | int i => exact .base (.int i)
    | str x => exact .base (.str x)
    | lst hs _ =>
      rcases hs with hs | ⟨o, hs⟩
      · exact .base (.lst (sF _ _ hs))
      · exact .base (.frz (sF _ _ hs))
    | tup hs _ =>
      rcases hs with ⟨o, hs, _, _⟩ | ⟨o, its, n, h1, h2, _⟩
      · exact .fTuple (sF _ _ hs)
      · exact .kTuple h1 h2
  · exact .base (.lst h)
def isiB (t : Ty) (d : D) : Bool := match t with
  | .int => (match d with | .int _ => true | .bool _ => true | _ => false)
  | .bool => (match d with | .bool _ => true | _ => false)
  | .tuple => (match d with | .tuple _ => true | _ => false)
  | .list => (match d with | .list _ => true | _ => false)
  | .str => (match d with | .str _ => true | _ => false)
  | .cls _ => false
def isiTab (a n : String) : Bool := a == n || (a == "bool" && n == "int")
theorem isiTab_ok : ∀ a ∈ ["NoneType", "bool", "int", "str", "list", "tuple", "dict"], ∀ n ∈ ["int", "bool", "tuple", "list", "str"], kitB a n = some (isiTab a n) := by decide +kernel
theorem kit_isi {K : W.Frag} {t : Ty} {n : String} (h : tyName t = some n) (d : D) : PySem.W.kitOne K (.type (typD d)) (.type n) = some (isiB t d) := by
  have h1 : typD d ∈ ["NoneType", "bool", "int", "str", "list", "tuple", "dict"] := by cases d <;> simp [typD]
  have h2 : n ∈ ["int", "bool", "tuple", "list", "str"] := by cases t <;> first | (cases h; simp; done) | cases h
  have h3 : isiTab (typD d) n = isiB t d := by
    cases t with
    | cls _ => cases h
    | _ => cases h; cases d <;> simp [isiTab, typD, isiB]
  rw [← h3]
  exact kit_ty (isiTab_ok _ h1 _ h2)
theorem isiD_dat {sub : Nat → Nat → Bool} {t : Ty} {n : String} (h : tyName t = some n) {v : Vl} {b : Bool} (e : isiD sub v t = some b) : ∃ d, v = .dat d ∧ b = isiB t d := by
  cases v with
  | dat d => cases t <;> first | (cases h; done) | exact ⟨d, rfl, (ok_inj e).symm⟩
  | _ => cases t <;> first | (cases h; done) | cases e

/-! ### .index -/
theorem findIx_some {p : D → Bool} : ∀ {ds : List D} {n m : Nat}, findIx p ds n = some m → ∃ j z, m = n + j ∧ ds[j]? = some z ∧ p z = true ∧ ∀ (i : Nat) (z' : D), i < j → ds[i]? = some z' → p z' = false
  | [], _, _, h => by cases h
  | x :: r, n, m, h => by
    unfold findIx at h
    by_cases hx : p x = true
    · rw [if_pos hx] at h
      cases h
      exact ⟨0, x, rfl, rfl, hx, fun i _ hi => absurd hi (Nat.not_lt_zero _)⟩
    · rw [if_neg hx] at h
      obtain ⟨j, z, e1, e2, e3, e4⟩ := findIx_some h
      refine ⟨j + 1, z, by omega, by simpa using e2, e3, fun i z' hi hz => ?_⟩
      cases i with
      | zero => simp at hz; subst hz; simpa using hx
      | succ i => exact e4 i z' (by omega) (by simpa using hz)

/-- what a method's receiver must be -/
theorem tupG_is {pins : List (Addr × Obj)} {σ : L2.St} {H : Hp} {s : Shared} {a : Addr} {xs : List V} (I : Inv X pins σ H s) (h : TupG X.K H a xs) :
    s.TypeIs (.ref a) "tuple" ∧ ∀ b, Value.ref a = .ref b → ∃ ob, s.heap.get? b = some ob ∧ ob.dict = none := by
  rcases h with ⟨o, h, hc, hd⟩ | ⟨o, its, n, h1, h2, h3, _⟩
  · have q : s.heap.get? a = some o := (I.hok a _ h).1
    exact ⟨⟨o, q, hc⟩, fun b e => by cases e; exact ⟨o, q, hd⟩⟩
  · exact ⟨⟨o, I.kIn a o h1, h2⟩, fun b e => by cases e; exact ⟨o, I.kIn _ o h1, h3⟩⟩
theorem mt_tupIndex (hu : X.A.units + 65 < cLine) : MtR X "tuple.index" (fun x xs H Q => ∃ (a : Addr) (y : V) (d : PyData) (ds : List PyData) (vs : List V) (j : Nat) (z : PyData), x = V.ref a ∧ xs = [y] ∧ SqT X.K H a vs ∧ DpAll X.K H vs ds ∧ Dp X.K H y d ∧
    SeqAt.shaped (.tuple ds) = true ∧ SeqAt.shaped d = true ∧ ds[j]? = some z ∧ PyData.eqv z d = true ∧ (∀ (m : Nat) (z' : PyData), m < j → ds[m]? = some z' → PyData.eqv z' d = false) ∧ Q (.int (j : Nat)) H) := by
  intro pins s σ H x xs v us Q I rx rxs h
  obtain ⟨a, y, d, ds, vs, j, z, rfl, rfl, hs, ha, hy, sl, sd, hz, hzj, hno, q⟩ := h
  cases rx
  cases rxs with
  | cons ry rt =>
    rename_i uy ut
    cases rt
    obtain ⟨bs, r1⟩ := Dp.reads I d y uy hy ry
    have hxs : PyData.canLayAll0 ds = true := SeqAt.canLay_of_shaped sl
    have hroom : X.A.units + 1 + min (PyData.depthAll ds) d.depth < cLine := room_in_shaped sd hu
    obtain ⟨its, rv, ⟨⟨cls, dd, data, sls⟩, ho, hc, n, hdt⟩, hlen⟩ := I.tuple hs
    simp only at hc hdt
    subst hc hdt
    obtain ⟨as, h4⟩ := Dp.readsAll I ds _ its ha rv
    have hn : its.length = ds.length := SeqAt.ReadsAll.length ds its as h4
    have hmap : its.map (SeqAt.readOf s.heap) = ds := SeqAt.readsAll_map ds its as hxs h4
    have hvl := rv.length
    have hsl := sizeLine_eq
    obtain ⟨hjd, _⟩ := List.getElem?_eq_some_iff.mp hz
    have hjl : j < its.length := by omega
    have hj : j < its.toArray.size := by simpa using hjl
    have at_ : ∀ (m : Nat) (hm : m < its.toArray.size) (z' : PyData), ds[m]? = some z' → SeqAt.readOf s.heap its.toArray[m] = z' := by
      intro m hm z' hz'
      have hml : m < its.length := by simpa using hm
      rw [← hmap, List.getElem?_map, List.getElem?_eq_getElem hml] at hz'
      have e1 : SeqAt.readOf s.heap its[m] = z' := Option.some.inj (show some (SeqAt.readOf s.heap its[m]) = some z' from hz')
      simpa using e1
    refine call_meets PySem.F.slot_tuple_index ⟨_, ho, rfl⟩ PySem.F.entry_tuple_index (PySem.F.args_tuple_index_2 _ _)
      (TI.tuple_indexAt a its.toArray n dd sls uy (fun u => PyData.eqv (SeqAt.readOf s.heap u) d) j hj ?_ ?_) ⟨ho, SeqAt.items_eqAt (vs := its.toArray) (show ReadsAll s.heap its.toArray.toList ds as from h4) r1 hxs (SeqAt.canLay_of_shaped sd) hroom, ?_⟩
    · show PyData.eqv (SeqAt.readOf s.heap its.toArray[j]) d = true
      rw [at_ j hj z hz]
      exact hzj
    · intro m hm hmj
      have hmd : m < ds.length := by omega
      have hz' : ds[m]? = some ds[m] := List.getElem?_eq_getElem hmd
      show PyData.eqv (SeqAt.readOf s.heap its.toArray[m]) d = false
      rw [at_ m hm _ hz']
      exact hno m _ hmj hz'
    · exact ⟨.int (j : Nat), H, I.tok _, ⟨_, rfl⟩, q⟩
end
end RL
/-! RLBlt2: sum, sorted, min, max. -/
namespace RL
open PySem PySem.Spec PyProof.Rows L2
section
variable {X : Cx}
/-- sum of a tuple of ints -/
theorem sumT_raw {prog : Program} {w : World} {A : Around} {E : Value → Shared → Prop} {s : Shared} {l : Addr} {its : List Value} {ns : List Int} {Q : Value → Shared → Prop} (hh : A.handled = none) (hl : s.heap.IsTuple l its.toArray) (hi : IntsAre its ns)
    (h : ∀ h' tk t', (∀ b o, s.heap.get? b = some o → h'.get? b = some o) → Q (.int ns.sum t') { s with heap := h', toks := tk }) : wpAny (model prog w) A (call (.builtin "sum") [.ref l]) Q E s := by
  obtain ⟨xs, e⟩ := hi.allInts.items
  have hn : numsOf (intItems xs).toList = ns := by rw [← e]; exact hi.numsOf
  rw [nums_intItems] at hn
  rw [e] at hl
  refine PySem.W.ktm_sumG hh hl fun h' tk t' hk => ?_
  have q := h h' tk t' hk
  have e2 : preSum (numAt xs) xs.size = ns.sum := by rw [preSum_eq, List.take_of_length_le (by simp), hn]
  rw [e2]; exact q
theorem call_sumG (hc : X.calm = true) : CallR X (.builtin "sum") (rF1 X.K .sum) := by
  intro pins s σ H xs us Q I r h
  obtain ⟨x, F, v, z, rfl, sF, hx, hb, k⟩ := h
  have fin : ∀ {w : V}, Dq X.K F w z → Q w H := fun hd => k _ F H (Ext.refl sF) hd
  cases v with
  | dat d =>
    have hx' := hx.rd
    cases d with
    | list ds =>
      have hb : (match intsOf ds with | some is => rI is.sum | none => none) = some z := hb
      cases q : intsOf ds with
      | none => rw [q] at hb; cases hb
      | some is =>
        rw [q] at hb
        cases ok_inj hb
        obtain ⟨a, vs, rfl, t1, r1⟩ := hx'.list sF
        obtain ⟨e1, _⟩ := DqAll.ints_inv r1 q
        subst e1
        exact cr_sum hc pins s σ H _ us Q I r ⟨a, is, rfl, .inl t1, fin (.int _)⟩
    | tuple ds =>
      have hb : (match intsOf ds with | some is => rI is.sum | none => none) = some z := hb
      cases q : intsOf ds with
      | none => rw [q] at hb; cases hb
      | some is =>
        rw [q] at hb
        cases ok_inj hb
        obtain ⟨a, vs, rfl, t1, _, r1⟩ := hx'.tup sF
        obtain ⟨e1, _⟩ := DqAll.ints_inv r1 q
        subst e1
        obtain ⟨its, rv, pl, _⟩ := I.tuple t1
        rw [Vals.ref1 r]
        exact sumT_raw (I.ok.hd hc) pl rv.ints fun h' tk t' hk => ⟨.int _, H, I.kept hk, ⟨_, rfl⟩, fin (.int _)⟩
    | _ => cases hb
  | _ => cases hb
/-! ### sorted -/
theorem each_zip {pins : List (Addr × Obj)} {σ : L2.St} {H F : Hp} {s : Shared} (I : Inv X pins σ H s) (sF : Same F H) : ∀ {vs : List V} {us : List Value} {ds : List D}, Vals vs us → DqAll X.K F vs ds →
    PySem.W.EachIs (fun (u : Value) (b : V × D) => RelV b.1 u) us (vs.zip ds) ∧ PySem.W.EachIs (fun (u : Value) (b : V × D) => ∃ as, Reads s.heap u b.2 as) us (vs.zip ds) ∧ (∀ b ∈ vs.zip ds, Dq X.K F b.1 b.2) ∧ (vs.zip ds).map (·.2) = ds
  | _, _, _, .nil, .nil => ⟨.nil, .nil, fun b hb => (by cases hb), rfl⟩
  | _, _, _, .cons r t, .cons d ds => by
    obtain ⟨h1, h2, h3, h4⟩ := each_zip I sF t ds
    refine ⟨.cons r h1, .cons (Dp.reads I _ _ _ (Dq.dp _ _ (Dq.mono sF _ _ d)) r) h2, fun b hb => ?_, by rw [List.zip_cons_cons, List.map_cons, h4]⟩
    rcases List.mem_cons.mp hb with e | e
    · subst e; exact d
    · exact h3 b e
theorem each_vals : ∀ {us : List Value} {bs : List (V × D)}, PySem.W.EachIs (fun (u : Value) (b : V × D) => RelV b.1 u) us bs → Vals (bs.map (·.1)) us
  | _, _, .nil => .nil
  | _, _, .cons r t => .cons r (each_vals t)
theorem dq_pairs {K : W.Frag} {F : Hp} : ∀ {bs : List (V × D)}, (∀ b ∈ bs, Dq K F b.1 b.2) → DqAll K F (bs.map (·.1)) (bs.map (·.2))
  | [], _ => .nil
  | b :: bs, h => .cons (h b List.mem_cons_self) (dq_pairs fun c hc => h c (List.mem_cons_of_mem _ hc))
theorem allAlike_ok {ds : List D} (h : allAlike ds = true) : PySem.W.AllAlike ds := fun d hd d' hd' => List.all_eq_true.mp (List.all_eq_true.mp h d hd) d' hd'
theorem sortable_ok {ds : List D} (h : (ds.all tupNe || ds.all plainK) = true) : PySem.W.Sortable ds := by
  rw [Bool.or_eq_true] at h
  rcases h with h | h
  · refine .inl fun d hd => ?_
    have := List.all_eq_true.mp h d hd
    unfold tupNe at this
    split at this
    · exact ⟨_, _, rfl⟩
    · cases this
  · refine .inr fun d hd => ?_
    have := List.all_eq_true.mp h d hd
    unfold plainK at this
    split at this
    · cases this
    · cases this
    · rename_i h1 h2; exact ⟨h1, h2⟩
section
open PySem.W
theorem sortsAt_unit {prog : Program} {w : World} {A : Around} {s : Shared} {vs : List Value} (e : EachIs (fun v d => ∃ as, Reads s.heap v d as) vs [.tuple []]) (hu : A.units + 1 < cLine) : SortsAt prog w A s (dataKind s.heap [.tuple []]) vs := by
  have hal : AllAlike [PyData.tuple []] := fun d hd d' hd' => by
    rw [List.mem_singleton.mp hd, List.mem_singleton.mp hd']
    simp [alike, alikeAll]
  have hl : vs.length = 1 := e.length
  refine ⟨fun v hv => ?_, tuples' true, ?_, fun h2 => absurd h2 (by omega)⟩
  · obtain ⟨d, hd, as, r⟩ := e.left v hv
    exact ⟨_, dataKind_some hal hd r⟩
  · intro E x y a b Q ha hb hq
    obtain ⟨d, as, hd, ra, rfl⟩ := dataKind_inv ha
    obtain ⟨d', as', hd', rb, rfl⟩ := dataKind_inv hb
    have ed := List.mem_singleton.mp hd
    have ed' := List.mem_singleton.mp hd'
    subst ed ed'
    have hq' : Q (dataLt (.tuple []) (.tuple [])) s := hq
    rw [dataLt_tuple] at hq'
    cases ra with
    | @tuple l o xs n _ _ h1 h2 h3 h4 =>
      cases rb with
      | @tuple l' o' xs' n' _ _ k1 k2 k3 k4 =>
        have n1 : xs.size = ([] : List PyData).length := by simpa using SeqAt.ReadsAll.length _ _ _ h4
        have n2 : xs'.size = ([] : List PyData).length := by simpa using SeqAt.ReadsAll.length _ _ _ k4
        refine kat_lt h1 h3 k1 k3 (katLex_alike [] [] 0 _ _ _ _ h4 k4 (by simp [alikeAll]) (by simp [PyData.depthAll]; omega) (fun hb _ x r t ex => by cases ex) (by rw [n1, n2]) hq')
theorem sorted_dataG {β : Type} {enc : β → PyData} {R : Value → β → Prop} {prog : Program} {w : World} {A : Around} {E : Value → Shared → Prop} {s : Shared} {vs : List Value} {bs : List β} {l : Addr} {Q : Value → Shared → Prop} (hl : s.heap.IsList l vs.toArray) (e : EachIs R vs bs) (er : EachIs (fun v b => ∃ as, Reads s.heap v (enc b) as) vs bs) (hal : AllAlike (bs.map enc)) (hk : sortable (bs.map enc) = true) (hL : bs.length ≤ sizeLine)
    (hu : ∀ b, b ∈ bs → A.units + 2 + (enc b).depth < cLine) (h : ∀ out, out.length = bs.length → EachIs R out (bs.mergeSort (dataLe false enc)) → Q (.ref (s.heap.objs.size + 1)) { s with heap := sortedAll s.heap vs (List.toArray out) }) :
    wpAny (model prog w) A (call (.builtin "sorted") [.ref l]) Q E s := by
  unfold sortable at hk
  rw [Bool.or_eq_true] at hk
  rcases hk with hk | hk
  · exact sorted_data hl e er hal (sortable_ok hk) hL hu h
  · have hk : bs.map enc = [.tuple []] := by
      unfold unitL at hk
      split at hk
      · assumption
      · cases hk
    have er' : EachIs (fun v b => ∃ as, Reads (PySem.W.sortingHeap (copyHeap s.heap vs) (s.heap.objs.size + 1) vs) v (enc b) as) vs bs := er.mono fun _ _ ⟨as, r⟩ => ⟨as, PyProof.Rows.Reads.keeps (fun _ _ => sorting_copy_old) r⟩
    have er2 := each_map (R := fun v d => ∃ as, Reads (PySem.W.sortingHeap (copyHeap s.heap vs) (s.heap.objs.size + 1) vs) v d as) enc er'
    have hu' := bound_map (A := A.in1.in1) (fun b hb => hu b hb)
    rw [hk] at er2 hu'
    have hd := hu' _ List.mem_cons_self
    have sa := sortsAt_unit (prog := prog) (w := w) (A := A.in1.in1) (s := { s with heap := PySem.W.sortingHeap (copyHeap s.heap vs) (s.heap.objs.size + 1) vs }) er2 hd
    rw [← hk] at sa
    exact sorted_vals hl sa (by rw [e.length]; exact hL) (h _ (by rw [sortVals_length false rfl]; exact e.length) (sortVals_data false e er' hal))
end
theorem kdl_raw {prog : Program} {w : World} {d : Addr} {es : Array DictEntry} {ep : Nat} (lo : (d == sysModules) = false) : W.KdlSrc prog w "dict" d d es.size (fun i v => ∃ h : i < es.size, v = es[i].key) (fun h => h.DictRaw d es ep) where
  type := fun _ hm => hm.typeIs
  there := fun _ hm => by obtain ⟨o, ho, _⟩ := hm; exact ⟨Heap.lt_size ho, Heap.lt_size ho⟩
  keep := fun _ _ hm hk => hm.at fun o e => hk d (.inl rfl) o e
  notList := by decide
  notTuple := by decide
  hint := fun _ _ _ _ hm hq => W.kdl_hint_dict hm.typeIs hq
  iter := fun _ _ hh hm => ⟨_, _, (fun _ _ hq => wpAny_pyIter_dict_raw lo hm hq), Walks.rawKeys hh _ d (by obtain ⟨o, ho, _⟩ := hm; exact Nat.ne_of_lt (Heap.lt_size ho)) es ep, ⟨⟨_, Heap.get?_push_size _ rfl, rfl, rfl⟩, hm.at fun o e => Heap.get?_push_of_some _ e⟩⟩
theorem dT_all {K : W.Frag} {F : Hp} : ∀ {kvs : List (List Int × D)} {xs : List (List Key × Addr × Value)}, Paired (EnT K F) kvs xs → DqAll K F (xs.map fun x => V.ref x.2.1) (kvs.map fun p => .tuple (p.1.map .int)) ∧ Vals (xs.map fun x => V.ref x.2.1) (xs.map fun x => Value.ref x.2.1)
  | _, _, .nil => ⟨.nil, .nil⟩
  | _, _, .cons r t => ⟨.cons r.2.1 (dT_all t).1, .cons rfl (dT_all t).2⟩
theorem sorted_dT (hc : X.calm = true) (hu : X.A.units + 70 < cLine) {pins : List (Addr × Obj)} {s : Shared} {σ : L2.St} {F H : Hp} {a : Addr} {xs : List (List Key × Addr × Value)} {kvs : List (List Int × D)} {ys : List D} {ep0 : Nat} {Q : VK} (I : Inv X pins σ H s) (sF : Same F H)
    (ha : H a = some (.ext (dPhi a xs ep0))) (c : Paired (EnT X.K F) kvs xs) (ht : (kvs.map fun p => PyData.tuple (p.1.map .int)).all tupNe = true) (hs : sortD (kvs.map fun p => .tuple (p.1.map .int)) = some ys) (k : Wants X.K F H (.list ys) Q) :
    wpAny (model X.prog X.w) X.A (call (.builtin "sorted") [.ref a]) (EP X pins σ Q) X.xe s := by
  obtain ⟨g, q1⟩ := grd_ok hs
  cases ok_inj q1
  simp only [Bool.and_eq_true] at g
  obtain ⟨⟨⟨g1, g2⟩, _⟩, g4⟩ := g
  obtain ⟨dd, hz, lo⟩ := dT_at I sF ha c
  obtain ⟨es, ep, raw, hsz, hat⟩ := dd.raw
  obtain ⟨hq0, hv0⟩ := dT_all c
  have hlen : kvs.length = xs.length := Paired.length c
  refine Calls.call_function_entry kind_sorted plain_sorted entry_sorted (args_sorted1 _) ?_
  unfold Builtin.«sorted»
  refine wpAny_bind (m := checkCount "sorted" 1 1 _) (wpAny_pure ?_)
  refine wpAny_bind (PySem.W.kdu_collect (A := X.A.in1) (kdl_raw (ep := ep) lo) (I.ok.hd hc) raw (by rw [hsz]; exact hz) fun h' tk acc hk hacc => ?_)
  have hv : acc.toList = xs.map fun x => Value.ref x.2.1 := by
    apply List.ext_getElem?
    intro i
    by_cases hi : i < xs.length
    · have h1 : i < es.size := by rw [hsz]; exact hi
      have h2 : i < acc.size := by rw [hacc.1]; exact h1
      obtain ⟨_, e⟩ := hacc.2 i acc[i] (Array.getElem?_eq_getElem h2)
      obtain ⟨y, e1, e2, _⟩ := hat i h1
      rw [Array.getElem?_toList, Array.getElem?_eq_getElem h2, e, e2, List.getElem?_map, e1]
      rfl
    · rw [List.getElem?_eq_none (by rw [Array.length_toList, hacc.1, hsz]; omega), List.getElem?_eq_none (by rw [List.length_map]; omega)]
  rw [hv]
  have I1 : Inv X pins σ H { s with heap := h', toks := tk } := I.kept hk
  obtain ⟨e1, e2, e3, e4⟩ := each_zip I1 sF hv0 hq0
  have hzl : ((xs.map fun x => V.ref x.2.1).zip (kvs.map fun p => PyData.tuple (p.1.map .int))).length = xs.length := by simp [hlen]
  refine wpAny_bind (wpAny_newList ?_ (by rw [List.length_map]; exact hz))
  have hoL : (h'.push (seqObj "list" (xs.map fun x => Value.ref x.2.1).toArray 0)).get? h'.objs.size = some (seqObj "list" (xs.map fun x => Value.ref x.2.1).toArray 0) := Heap.get?_push_size _ rfl
  have old : ∀ b o, h'.get? b = some o → (PySem.W.sortingHeap (h'.push (seqObj "list" (xs.map fun x => Value.ref x.2.1).toArray 0)) h'.objs.size (xs.map fun x => Value.ref x.2.1)).get? b = some o := fun b o q =>
    PySem.W.sortingHeap_old (Nat.ne_of_lt (Heap.lt_size q)) (Heap.get?_push_of_some _ q)
  have er' : PySem.W.EachIs (fun (u : Value) (b : V × D) => ∃ as, Reads (PySem.W.sortingHeap (h'.push (seqObj "list" (xs.map fun x => Value.ref x.2.1).toArray 0)) h'.objs.size (xs.map fun x => Value.ref x.2.1)) u b.2 as) (xs.map fun x => Value.ref x.2.1) ((xs.map fun x => V.ref x.2.1).zip (kvs.map fun p => PyData.tuple (p.1.map .int))) :=
    e2.mono fun _ _ ⟨as, r⟩ => ⟨as, PyProof.Rows.Reads.keeps old r⟩
  have hal : PySem.W.AllAlike (((xs.map fun x => V.ref x.2.1).zip (kvs.map fun p => PyData.tuple (p.1.map .int))).map fun b : V × D => b.2) := by rw [e4]; exact allAlike_ok g1
  have hsk : PySem.W.Sortable (((xs.map fun x => V.ref x.2.1).zip (kvs.map fun p => PyData.tuple (p.1.map .int))).map fun b : V × D => b.2) := by rw [e4]; exact sortable_ok (by rw [ht]; rfl)
  have hub : ∀ d, d ∈ (((xs.map fun x => V.ref x.2.1).zip (kvs.map fun p => PyData.tuple (p.1.map .int))).map fun b : V × D => b.2) → X.A.in1.in1.units + d.depth < cLine := fun d hd => by
    rw [e4] at hd
    have := SeqAt.depth_of_shaped (List.all_eq_true.mp g2 _ hd)
    show X.A.units + 1 + 1 + d.depth < cLine
    omega
  refine wpAny_bind (wpAny_holding (wpAny_call_entry slot_list_sort ⟨_, hoL, rfl⟩ entry_list_sort (PySem.W.list_sort_vals (κ := PySem.W.dataKind (PySem.W.sortingHeap (h'.push (seqObj "list" (xs.map fun x => Value.ref x.2.1).toArray 0)) h'.objs.size (xs.map fun x => Value.ref x.2.1)) (((xs.map fun x => V.ref x.2.1).zip (kvs.map fun p => PyData.tuple (p.1.map .int))).map fun b : V × D => b.2)) hoL (PySem.W.SortsAt.data (s := { s with heap := PySem.W.sortingHeap (h'.push (seqObj "list" (xs.map fun x => Value.ref x.2.1).toArray 0)) h'.objs.size (xs.map fun x => Value.ref x.2.1), toks := tk }) (PySem.W.each_map (R := fun v d => ∃ as, Reads (PySem.W.sortingHeap (h'.push (seqObj "list" (xs.map fun x => Value.ref x.2.1).toArray 0)) h'.objs.size (xs.map fun x => Value.ref x.2.1)) v d as) (fun b : V × D => b.2) er') hal hsk hub) (by rw [List.length_map]; exact hz) ⟨.none, rfl, ?_⟩) (args_list_sort _)))
  have eo := PySem.W.sortVals_data (enc := fun b : V × D => b.2) false e1 er' hal
  generalize PySem.W.sortVals (PySem.W.dataKind (PySem.W.sortingHeap (h'.push (seqObj "list" (xs.map fun x => Value.ref x.2.1).toArray 0)) h'.objs.size (xs.map fun x => Value.ref x.2.1)) (((xs.map fun x => V.ref x.2.1).zip (kvs.map fun p => PyData.tuple (p.1.map .int))).map fun b : V × D => b.2)) false (xs.map fun x => Value.ref x.2.1) (xs.map fun x => Value.ref x.2.1) = out at eo ⊢
  obtain ⟨cc, hcc⟩ := sortedHeap_at (vs := xs.map fun x => Value.ref x.2.1) (out := out.toArray) hoL
  have hv' := each_vals eo
  have hq : DqAll X.K F (((xs.map fun x => V.ref x.2.1).zip (kvs.map fun p => PyData.tuple (p.1.map .int))).mergeSort (PySem.W.dataLe false fun b : V × D => b.2) |>.map (·.1)) ((kvs.map fun p => PyData.tuple (p.1.map .int)).mergeSort leD) := by
    have e5 : (((xs.map fun x => V.ref x.2.1).zip (kvs.map fun p => PyData.tuple (p.1.map .int))).mergeSort (PySem.W.dataLe false fun b : V × D => b.2)).map (·.2) = (kvs.map fun p => PyData.tuple (p.1.map .int)).mergeSort leD := by
      rw [List.map_mergeSort (r := PySem.W.dataLe false fun b : V × D => b.2) (s := leD) (f := fun b : V × D => b.2) (fun a _ b _ => rfl), e4]
    rw [← e5]
    exact dq_pairs fun b hb => e3 b (List.mem_mergeSort.mp hb)
  have hl2 : (((xs.map fun x => V.ref x.2.1).zip (kvs.map fun p => PyData.tuple (p.1.map .int))).mergeSort (PySem.W.dataLe false fun b : V × D => b.2) |>.map (·.1)).length ≤ sizeLine := by
    rw [List.length_map, List.length_mergeSort, hzl]; exact hz
  have np := I1.hok.fresh (Nat.le_refl h'.objs.size)
  refine wpAny_pure ⟨_, rfl, .ref h'.objs.size, _, I1.laid (t' := tk) (o := .lst (((xs.map fun x => V.ref x.2.1).zip (kvs.map fun p => PyData.tuple (p.1.map .int))).mergeSort (PySem.W.dataLe false fun b : V × D => b.2) |>.map (·.1))) (fun b o q => ?_) (Nat.le_refl _) ⟨hl2, out, cc, hv', hcc⟩, rfl, k _ _ _ (Ext.laid sF np) (lay_list sF np hq)⟩
  have hlt := Heap.lt_size q
  show (sortedHeap (h'.push (seqObj "list" (xs.map fun x => Value.ref x.2.1).toArray 0)) h'.objs.size (xs.map fun x => Value.ref x.2.1) out.toArray).get? b = some o
  rw [sortedHeap_old (Nat.ne_of_lt hlt) (by rw [Heap.size_push]; exact Nat.lt_succ_of_lt hlt)]
  exact Heap.get?_push_of_some _ q
theorem call_sortedG (hc : X.calm = true) (hu : X.A.units + 70 < cLine) : CallR X (.builtin "sorted") (rF1 X.K .sorted) := by
  intro pins s σ H xs us Q I r h
  obtain ⟨x, F, v, z, rfl, sF, hx, hb, k⟩ := h
  cases v with
  | dat d =>
    have hx' := hx.rd
    cases d with
    | list ds =>
      obtain ⟨ys, q1, q2⟩ := bind_ok (show (sortD ds).bind (fun ys => some (PyData.list ys)) = some z from hb)
      cases ok_inj q2
      obtain ⟨g, q1⟩ := grd_ok q1
      cases ok_inj q1
      simp only [Bool.and_eq_true] at g
      obtain ⟨⟨⟨g1, g2⟩, g3⟩, g4⟩ := g
      obtain ⟨a, vs, rfl, t1, r1⟩ := hx'.list sF
      obtain ⟨its, rv, pl, hz⟩ := I.list (.inl t1)
      rw [Vals.ref1 r]
      obtain ⟨h1, h2, h3, h4⟩ := each_zip I sF rv r1
      have hlen : (vs.zip ds).length = ds.length := by rw [← List.length_map (f := fun b : V × D => b.2), h4]
      refine sorted_dataG (enc := fun b : V × D => b.2) pl.isList h1 h2 (by rw [h4]; exact allAlike_ok g1) (by rw [h4]; exact g3) (by rw [hlen]; exact szOk_le g4) (fun b hb => ?_) fun out ho eo => ?_
      · have hm : b.2 ∈ ds := by rw [← h4]; exact List.mem_map_of_mem hb
        have := SeqAt.depth_of_shaped (List.all_eq_true.mp g2 _ hm)
        omega
      · have hv := each_vals eo
        have hq : DqAll X.K F ((vs.zip ds).mergeSort (PySem.W.dataLe false fun b : V × D => b.2) |>.map (·.1)) (ds.mergeSort leD) := by
          have e1 : ((vs.zip ds).mergeSort (PySem.W.dataLe false fun b : V × D => b.2)).map (·.2) = ds.mergeSort leD := by
            rw [List.map_mergeSort (r := PySem.W.dataLe false fun b : V × D => b.2) (s := leD) (f := fun b : V × D => b.2) (fun a _ b _ => rfl), h4]
          rw [← e1]
          exact dq_pairs fun b hb => h3 b (List.mem_mergeSort.mp hb)
        obtain ⟨ep, he'⟩ := PyProof.Rows.sortedAll_at s.heap its out.toArray
        have hl2 : ((vs.zip ds).mergeSort (PySem.W.dataLe false fun b : V × D => b.2) |>.map (·.1)).length ≤ sizeLine := by
          rw [List.length_map, List.length_mergeSort, hlen]; exact szOk_le g4
        have np := I.hok.fresh (Nat.le_succ s.heap.objs.size)
        exact ⟨.ref _, _, I.laid (t' := s.toks) (o := .lst ((vs.zip ds).mergeSort (PySem.W.dataLe false fun b : V × D => b.2) |>.map (·.1))) (fun _ _ => PyProof.Rows.sortedAll_old) (Nat.le_succ _) ⟨hl2, out, ep, hv, he'⟩, rfl, k _ _ _ (Ext.laid sF np) (lay_list sF np hq)⟩
    | _ => cases hb
  | dT kvs =>
    obtain ⟨g0, hb⟩ := grd_ok (show grdO ((kvs.map fun p => PyData.tuple (p.1.map .int)).all tupNe) ((sortD (kvs.map fun p => .tuple (p.1.map .int))).bind fun ys => some (PyData.list ys)) = some z from hb)
    obtain ⟨ys, q1, q2⟩ := bind_ok hb
    cases ok_inj q2
    obtain ⟨a, xs, ep0, rfl, ha, c⟩ := hx.dT sF
    rw [Vals.ref1 r]
    exact sorted_dT hc hu I sF ha c g0 q1 k
  | _ => cases hb
/-! ### .count -/
theorem mt_count : MtR X "list.count" (fun x xs H Q => ∃ (a : Addr) (ns : List Int) (k : Int), x = V.ref a ∧ xs = [.int k] ∧ Rd H a (.lst (ns.map V.int)) ∧ Q (.int (ns.count k : Nat)) H) := by
  intro pins s σ H x xs v us Q I rx rxs h
  obtain ⟨a, ns, k, rfl, rfl, hs, q⟩ := h
  cases rx
  cases rxs with
  | cons ry rt =>
    cases rt
    obtain ⟨t, rfl⟩ := ry
    obtain ⟨its, rv, pl, hz⟩ := I.list (.inl hs)
    exact count_list_ints pl.isList rv.ints ⟨.int _, H, I.tok _, ⟨_, rfl⟩, q⟩
/-! ### min, max -/
theorem depthAll_le : ∀ {ds : List D}, ds.all SeqAt.shaped = true → PyData.depthAll ds ≤ 64
  | [], _ => Nat.zero_le _
  | d :: ds, h => by
    rw [List.all_cons, Bool.and_eq_true] at h
    have h1 := SeqAt.depth_of_shaped h.1
    have h2 := depthAll_le h.2
    exact Nat.max_le.mpr ⟨h1, h2⟩
theorem best_ok {ds : List D} (h : bestOk ds = true) : PySem.W.AlikeAll ds ∧ PyData.depthAll ds ≤ 64 := by
  unfold bestOk at h
  simp only [Bool.and_eq_true] at h
  refine ⟨⟨allAlike_ok h.1.1, fun x hx => ?_⟩, depthAll_le h.1.2⟩
  have := List.all_eq_true.mp h.2 x hx
  intro e
  subst e
  cases this
theorem fold_mem {f : D → D → Bool} : ∀ (xs : List D) (x : D), xs.foldl (fun a y => if f y a then y else a) x ∈ x :: xs
  | [], x => List.mem_cons_self
  | y :: xs, x => by
    have := fold_mem (f := f) xs (if f y x then y else x)
    rw [List.foldl_cons]
    rcases List.mem_cons.mp this with e | e
    · rw [e]
      split
      · exact List.mem_cons_of_mem _ List.mem_cons_self
      · exact List.mem_cons_self
    · exact List.mem_cons_of_mem _ (List.mem_cons_of_mem _ e)
theorem minD_mem (x : D) (xs : List D) : PySem.W.minD x xs ∈ x :: xs := fold_mem (f := PySem.W.dataLt) xs x
theorem maxD_mem (x : D) (xs : List D) : PySem.W.maxD x xs ∈ x :: xs := fold_mem (f := fun y a => PySem.W.dataLt a y) xs x
theorem Vals.at_ : ∀ {vs : List V} {us : List Value} {i : Nat} {u : Value}, Vals vs us → us[i]? = some u → ∃ w, vs[i]? = some w ∧ RelV w u
  | _, _, _, _, .nil, e => by simp at e
  | _, _, 0, _, .cons r _, e => by simp at e; subst e; exact ⟨_, rfl, r⟩
  | _, _, i + 1, u, .cons _ t, e => by
    obtain ⟨w, h1, h2⟩ := Vals.at_ (i := i) (u := u) t (by simpa using e)
    exact ⟨w, by simpa using h1, h2⟩
theorem best_at {pins : List (Addr × Obj)} {σ : L2.St} {H F : Hp} {s : Shared} {vs : List V} {its : List Value} {ds : List D} {m : D} {i : Nat} {u : Value} {h' : Heap} {tk : Nat} {bs : List Addr} {G : Prop} (I : Inv X pins σ H s) (sF : Same F H) (rv : Vals vs its) (r1 : DqAll X.K F vs ds)
    (ha : PySem.W.AlikeAll ds) (hm : m ∈ ds) (hv : its.toArray[i]? = some u) (rd : Reads h' u m bs) (hk : ∀ b o, s.heap.get? b = some o → h'.get? b = some o)
    (g : ∀ w, Dq X.K F w m → RelV w u → Inv X pins σ H { s with heap := h', toks := tk } → G) : G := by
  have hv : its[i]? = some u := by simpa using hv
  obtain ⟨w, e1, e2⟩ : ∃ w, vs[i]? = some w ∧ RelV w u := by
    have hi : i < its.length := (List.getElem?_eq_some_iff.mp hv).1
    have hl := rv.length
    exact RL.Vals.at_ rv hv
  obtain ⟨d, e3, e4⟩ := r1.get' e1
  have hd : d ∈ ds := List.mem_of_getElem? e3
  obtain ⟨as, r2⟩ := Dp.reads I _ _ _ (Dq.dp _ _ (Dq.mono sF _ _ e4)) e2
  have e5 := PySem.W.alike_unique d m u as bs (ha.1 d hd m hm) (PyProof.Rows.Reads.keeps hk r2) rd
  subst e5
  exact g w e4 e2 (I.kept hk)
theorem call_minG (hc : X.calm = true) (hu : X.A.units + 70 < cLine) : CallR X (.builtin "min") (rF1 X.K .min) := by
  intro pins s σ H xs us Q I r h
  obtain ⟨x, F, v, z, rfl, sF, hx, hb, k⟩ := h
  cases v with
  | dat d =>
    have hx' := hx.rd
    cases d with
    | list ds =>
      cases ds with
      | nil => cases hb
      | cons y ds =>
        obtain ⟨g, hb⟩ := grd_ok hb
        cases ok_inj hb
        obtain ⟨g1, g2⟩ := best_ok g
        obtain ⟨a, vs, rfl, t1, r1⟩ := hx'.list sF
        obtain ⟨its, rv, pl, hz⟩ := I.list (.inl t1)
        rw [Vals.ref1 r]
        obtain ⟨as, hr⟩ := Dp.readsAll I _ _ its (DqAll.dp _ _ (DqAll.mono sF _ _ r1)) rv
        exact PySem.W.min_list_data (I.ok.hd hc) pl.isList hr g1 (by omega) fun i u h' tk bs hv rd hk => best_at I sF rv r1 g1 (minD_mem y ds) hv rd hk (fun w hw rw' J => ⟨w, H, J, rw', k _ F H (Ext.refl sF) hw⟩)
    | tuple ds =>
      cases ds with
      | nil => cases hb
      | cons y ds =>
        obtain ⟨g, hb⟩ := grd_ok hb
        cases ok_inj hb
        obtain ⟨g1, g2⟩ := best_ok g
        obtain ⟨a, vs, rfl, t1, _, r1⟩ := hx'.tup sF
        obtain ⟨its, rv, pl, hz⟩ := I.tuple t1
        rw [Vals.ref1 r]
        obtain ⟨as, hr⟩ := Dp.readsAll I _ _ its (DqAll.dp _ _ (DqAll.mono sF _ _ r1)) rv
        exact PySem.W.min_tuple_data (I.ok.hd hc) pl hr g1 (by omega) fun i u h' tk bs hv rd hk => best_at I sF rv r1 g1 (minD_mem y ds) hv rd hk (fun w hw rw' J => ⟨w, H, J, rw', k _ F H (Ext.refl sF) hw⟩)
    | _ => cases hb
  | _ => cases hb
theorem call_maxG (hc : X.calm = true) (hu : X.A.units + 70 < cLine) : CallR X (.builtin "max") (rF1 X.K .max) := by
  intro pins s σ H xs us Q I r h
  obtain ⟨x, F, v, z, rfl, sF, hx, hb, k⟩ := h
  cases v with
  | dat d =>
    have hx' := hx.rd
    cases d with
    | list ds =>
      cases ds with
      | nil => cases hb
      | cons y ds =>
        obtain ⟨g, hb⟩ := grd_ok hb
        cases ok_inj hb
        obtain ⟨g1, g2⟩ := best_ok g
        obtain ⟨a, vs, rfl, t1, r1⟩ := hx'.list sF
        obtain ⟨its, rv, pl, hz⟩ := I.list (.inl t1)
        rw [Vals.ref1 r]
        obtain ⟨as, hr⟩ := Dp.readsAll I _ _ its (DqAll.dp _ _ (DqAll.mono sF _ _ r1)) rv
        exact PySem.W.max_list_data (I.ok.hd hc) pl.isList hr g1 (by omega) fun i u h' tk bs hv rd hk => best_at I sF rv r1 g1 (maxD_mem y ds) hv rd hk (fun w hw rw' J => ⟨w, H, J, rw', k _ F H (Ext.refl sF) hw⟩)
    | tuple ds =>
      cases ds with
      | nil => cases hb
      | cons y ds =>
        obtain ⟨g, hb⟩ := grd_ok hb
        cases ok_inj hb
        obtain ⟨g1, g2⟩ := best_ok g
        obtain ⟨a, vs, rfl, t1, _, r1⟩ := hx'.tup sF
        obtain ⟨its, rv, pl, hz⟩ := I.tuple t1
        rw [Vals.ref1 r]
        obtain ⟨as, hr⟩ := Dp.readsAll I _ _ its (DqAll.dp _ _ (DqAll.mono sF _ _ r1)) rv
        exact PySem.W.max_tuple_data (I.ok.hd hc) pl hr g1 (by omega) fun i u h' tk bs hv rd hk => best_at I sF rv r1 g1 (maxD_mem y ds) hv rd hk (fun w hw rw' J => ⟨w, H, J, rw', k _ F H (Ext.refl sF) hw⟩)
    | _ => cases hb
  | _ => cases hb
end
end RL
/-! RLSet: set(list), sorted(set(list)). -/
namespace RL
open PySem PySem.Spec PyProof.Rows L2
abbrev sOb (w : World) : Obj := { cls := .type "set", dict := none, data := .set #[] 0 (.fresh 0 0 (!w.params.followText "set-order")) }
abbrev iOb (l : Addr) : Obj := { cls := .type "list_iterator", data := .fields #[.ref l, .int 0 0] }
section
variable {P : Program} {w : World} {A : Around} {E : Value → Shared → Prop} {s : Shared}
/-- set(xs) of a list: what is left to show is the loop of set.update -/
theorem set_of_list {l : Addr} {items : Array Value} {Q : Value → Shared → Prop} (Ψ : Heap → Prop) (hl : s.heap.IsList l items)
    (loop : ∀ (R : Result → Shared → Prop), (∀ s', Moved [s.heap.objs.size, s.heap.objs.size + 1] (fun g g' => g' = g) { s with heap := (s.heap.push (sOb w)).push (iOb l) } s' → Ψ s'.heap → (∀ b o, s.heap.get? b = some o → s'.heap.get? b = some o) → R (.ok (.ret .none)) s') →
      codeAny (model P w) A.in1.in1 (.builtin "set.update.loop" ⟨[.ref s.heap.objs.size, .ref (s.heap.objs.size + 1)], []⟩) R { s with heap := (s.heap.push (sOb w)).push (iOb l) })
    (fin : ∀ (h' : Heap) (tk : Nat), Ψ h' → (∀ b o, s.heap.get? b = some o → h'.get? b = some o) → Q (.ref s.heap.objs.size) { s with heap := h', toks := tk }) :
    wpAny (model P w) A (call (.type "set") [.ref l]) Q E s := by
  obtain ⟨_, _, m1⟩ := F.called_set.mro; have m2 := F.called_set.made; have m3 := F.called_set.sub
  refine wpAny_call (codeAny_of_tree (show wpAny _ _ (callAny (.type "set") _) _ _ _ from ?_))
  refine wpAny_pure ⟨Code.quiet_builtin _ (by decide +kernel), codeAny_builtin F.entry_type_call (by
    rw [Around.under_plain (weight_type_call_type "set" [.ref l] []) rfl]
    have m4 := F.called_set.notType; have m5 := F.called_set.canCreate; have m6 := F.typeCall_set_1 (.ref l)
    repeat (any_goals (first | assumption | wp_step | fail))
    refine codeAny_mono (code_set_led1 (.ref l) (E := E) (Q₁ := fun ob t => ob = .ref s.heap.objs.size ∧ t = { s with heap := s.heap.push (sOb w) }) ⟨rfl, rfl⟩) fun r t hr => ?_
    match r, hr with
    | .error e, hr => exact hr
    | .ok (.ret ob), hr =>
      obtain ⟨rfl, rfl⟩ := hr
      have got : (s.heap.push (sOb w)).get? s.heap.objs.size = some (sOb w) := Heap.get?_push_size _ rfl
      have ty : Shared.TypeIs { s with heap := s.heap.push (sOb w) } (.ref s.heap.objs.size) "set" := ⟨_, got, rfl⟩
      have m7 := F.called_set.init.lookup; have m8 := F.called_set.init.bind (.ref s.heap.objs.size)
      repeat (any_goals (first | assumption | wp_step | fail))
      refine codeAny_mono (codeAny_call_builtin (R := wants (fun r t => r = .none ∧ ∃ h' tk, t = { s with heap := h', toks := tk } ∧ Ψ h' ∧ ∀ b o, s.heap.get? b = some o → h'.get? b = some o) E) F.called_set.init.plain F.entry_set_init (check_set_init_1 ty ?_)) fun r2 t2 hr2 => ?_
      · obtain ⟨ol, hol, hc, nl, hd⟩ := hl
        obtain ⟨c0, d0, a0, sl0⟩ := ol
        simp only at hc hd; subst hc; subst hd
        have hol' : (s.heap.push (sOb w)).get? l = some { cls := .type "list", dict := d0, data := .seq items nl, slots := sl0 } := Heap.get?_push_of_some _ hol
        have g1 := F.sub_list_set; have g2 := F.sub_list_frozenset; have g3 : (Value.type "list" == Value.type "dict") = false := by decide
        have hl1 : (s.heap.push (sOb w)).IsList l items := ⟨_, hol', rfl, nl, rfl⟩
        unfold Builtin.«set.__init__» noKeywords Builtin.Frozenset.updateFrom; generalize gp : pyIter = PI
        wp_walk
        subst gp
        refine wpAny_pyIter_list hl1 (wpAny_bind (wpAny_runValue ?_))
        have hz : (s.heap.push (sOb w)).objs.size = s.heap.objs.size + 1 := Heap.size_push ..
        rw [hz]
        refine loop _ fun s' hm hΨ hk => ?_
        obtain ⟨h', g', d', tk', os'⟩ := s'
        have q1 : g' = s.gens := hm.gens
        have q2 : d' = s.drawn := hm.drawn
        have q3 : os' = s.os := hm.os
        subst q1; subst q2; subst q3
        exact show wpAny _ _ _ _ _ _ from wpAny_pure (show wpAny _ _ (PySem.ret Value.none) _ _ _ from wpAny_pure ⟨rfl, h', tk', rfl, hΨ, hk⟩)
      · match r2, hr2 with
        | .error e, hr2 => exact hr2
        | .ok (.ret r), hr2 =>
          obtain ⟨rfl, h', tk, rfl, hΨ, hk⟩ := hr2
          repeat (any_goals (first | assumption | wp_step | fail))
          exact fin h' tk hΨ hk
        | .ok .next, hr2 => exact hr2.elim
        | .ok .brk, hr2 => exact hr2.elim
        | .ok .cont, hr2 => exact hr2.elim
    | .ok .next, hr => exact hr.elim
    | .ok .brk, hr => exact hr.elim
    | .ok .cont, hr => exact hr.elim)⟩
end
end RL
/-! RLSet2: set(list) of ints, of tuples of ints with few different ones. -/
namespace RL
open PySem PySem.Spec PyProof.Rows L2
section
variable {P : Program} {w : World} {A : Around} {E : Value → Shared → Prop} {s : Shared}
theorem two_new {l : Addr} {w : World} {h : Heap} : ((h.push (sOb w)).push (iOb l)).get? h.objs.size = some (sOb w) := Heap.get?_push_of_some _ (Heap.get?_push_size _ rfl)
theorem iter_new {l : Addr} {w : World} {h : Heap} : ((h.push (sOb w)).push (iOb l)).get? (h.objs.size + 1) = some (iOb l) := by
  have hz : (h.push (sOb w)).objs.size = h.objs.size + 1 := Heap.size_push ..
  rw [← hz]; exact Heap.get?_push_size _ rfl
theorem keeps2 {l : Addr} {w : World} {s s' : Shared} (hm : Moved [s.heap.objs.size, s.heap.objs.size + 1] (fun g g' => g' = g) { s with heap := (s.heap.push (sOb w)).push (iOb l) } s') : ∀ b o, s.heap.get? b = some o → s'.heap.get? b = some o := fun b o e => by
  have lt : @LT.lt Nat _ b s.heap.objs.size := Heap.lt_size e
  exact hm.heap b o (fun z => by
    rcases List.mem_cons.mp z with q | q
    · exact absurd lt (by rw [q]; exact Nat.lt_irrefl _)
    · rw [List.mem_singleton.mp q] at lt; exact absurd lt (by omega)) (Heap.get?_push_of_some _ (Heap.get?_push_of_some _ e))
theorem set_of_ints {l : Addr} {items : Array Value} {ns : List Int} {Q : Value → Shared → Prop} (hh : A.handled = none) (hl : s.heap.IsList l items) (hi : IntsAre items.toList ns) (hb : ns.length + 1 < scanBound)
    (fin : ∀ (h' : Heap) (tk c : Nat), SetR w h' s.heap.objs.size (fun j => decide (j ∈ ns)) c → c ≤ ns.length → (∀ b o, s.heap.get? b = some o → h'.get? b = some o) → Q (.ref s.heap.objs.size) { s with heap := h', toks := tk }) :
    wpAny (model P w) A (call (.type "set") [.ref l]) Q E s := by
  have sz : items.size = ns.length := by rw [← Array.length_toList]; exact IntsAre.length hi
  obtain ⟨ol, hol, _⟩ := id hl
  have lt : @LT.lt Nat _ l s.heap.objs.size := Heap.lt_size hol
  have n1 : l ≠ s.heap.objs.size + 1 := Nat.ne_of_lt (by omega)
  have n2 : s.heap.objs.size ∉ [s.heap.objs.size + 1, l] := fun z => by
    rcases List.mem_cons.mp z with q | q
    · exact absurd q (Nat.ne_of_lt (Nat.lt_succ_self _))
    · exact absurd (List.mem_singleton.mp q) (Nat.ne_of_gt lt)
  refine set_of_list (fun h' => ∃ c, SetR w h' s.heap.objs.size (fun j => decide (j ∈ ns)) c ∧ c ≤ ns.length) hl (fun R k => ?_) fun h' tk ⟨c, h1, h2⟩ h3 => fin h' tk c h1 h2 h3
  have W : Walks P w A.in1.in1.in1 (s.heap.objs.size + 1) [s.heap.objs.size + 1, l] [s.heap.objs.size + 1] items.size (fun i v => items[i]? = some v) (fun i h => h.IsListIter (s.heap.objs.size + 1) l i ∧ h.IsList l items) := Walks.list (by simp [hh]) _ l n1 items
  refine set_update_ints W.toS s.heap.objs.size n2 ns sz hb (fun i v hv => ?_) items.size 0 _ (by omega) (Nat.zero_le _) ⟨⟨_, iter_new, rfl, rfl⟩, (hl.push _).push _⟩ ⟨0, Nat.le_refl 0, setR_new_at two_new⟩ fun s' c hm hc hS => k s' hm ⟨c, hS, by omega⟩ (keeps2 hm)
  have lt2 : i < ns.length := by rw [← sz]; exact (Array.getElem?_eq_some_iff.mp hv).1
  obtain ⟨t, e⟩ := IntsAre.int_at hi i v (by rw [Array.getElem?_toList]; exact hv)
  exact ⟨ns[i], t, List.getElem?_eq_getElem lt2, by rw [e, List.getD_eq_getElem?_getD, List.getElem?_eq_getElem lt2]; rfl⟩
/-- what the set holds after i of the tuples -/
structure Hold (ks : List (Addr × List Int)) (i : Nat) (L : List (Addr × List Int)) : Prop where
  sub : ∀ p ∈ L, p ∈ ks
  all : ∀ p ∈ ks.take i, p.2 ∈ L.map (·.2)
theorem upd_tups {I : Addr} {fp wr : List Addr} {G : Array GenState → Array GenState → Prop} {n : Nat} {Pv : Nat → Value → Prop} {St : Nat → Shared → Prop} {R : Result → Shared → Prop}
    (W : WalksS P w A.in1 I fp wr G n Pv St) (S : Addr) (hSf : S ∉ fp) (ks : List (Addr × List Int)) (hn : n = ks.length) (few : ∀ M : List (List Int), M.Nodup → (∀ k ∈ M, k ∈ ks.map (·.2)) → M.length + 1 < 64) (hval : ∀ i v, Pv i v → ∃ p, ks[i]? = some p ∧ v = .ref p.1)
    (h0 : Heap) (hk : ∀ p ∈ ks, IsT P w h0 p.2 p.1) (new : h0.get? S = none) (nwr : ∀ b ∈ wr, h0.get? b = none) (hu : A.in1.units < cLine) :
    ∀ (m i : Nat) (s : Shared), n - i = m → i ≤ n → St i s → (∀ b o, h0.get? b = some o → s.heap.get? b = some o) → (∃ L es ep t, SetTR P w s.heap S L es ep t ∧ Hold ks i L) →
      (∀ s' L es ep t, Moved (S :: wr) G s s' → SetTR P w s'.heap S L es ep t → Hold ks n L → R (.ok (.ret .none)) s') →
      codeAny (model P w) A (.builtin "set.update.loop" ⟨[.ref S, .ref I], []⟩) R s := by
  have nw : S ∉ wr := fun z => hSf (W.sub _ z)
  have up : ∀ b ∈ wr, b ∈ S :: wr := fun b z => List.mem_cons_of_mem _ z
  have stay : ∀ {s s' : Shared}, Moved wr G s s' → (∀ b o, h0.get? b = some o → s.heap.get? b = some o) → ∀ b o, h0.get? b = some o → s'.heap.get? b = some o := fun hm q b o e =>
    hm.heap b o (fun z => by rw [nwr b z] at e; exact nomatch e) (q b o e)
  intro m
  induction m with
  | zero =>
    intro i s e1 e2 st old ⟨L, es, ep, t, hS, g⟩ k
    have ein : i = n := by omega
    subst ein
    refine codeAny_builtin F.entry_set_update_loop (by
      rw [Around.under_plainId F.plain_set_update_loop _]
      refine show wpAny _ A.in1 (pyNext (.ref I) >>= _) _ _ s from wpAny_bind (W.done s _ _ st fun s' hm => ?_)
      refine show wpAny _ A.in1 (PySem.ret Value.none) _ _ s' from wpAny_pure (k s' L es ep t (hm.mono up) ?_ g)
      exact hS.keep (fun o e => hm.heap S o nw e) fun p hp => isT_keep (hk p (g.sub p hp)) (stay hm old))
  | succ m ih =>
    intro i s e1 e2 st old ⟨L, es, ep, t, hS, g⟩ k
    have lt : i < n := by omega
    refine codeAny_builtin F.entry_set_update_loop (by
      rw [Around.under_plainId F.plain_set_update_loop _]
      refine show wpAny _ A.in1 (pyNext (.ref I) >>= _) _ _ s from wpAny_bind (W.item i s _ _ lt st fun v s' hP st' hm => ?_)
      obtain ⟨p, hp, rfl⟩ := hval i v hP
      have old' := stay hm old
      have hS' : SetTR P w s'.heap S L es ep t := hS.keep (fun o e => hm.heap S o nw e) fun q hq => isT_keep (hk q (g.sub q hq)) old'
      have pm : p ∈ ks := List.mem_of_getElem? hp
      have px : IsT P w s'.heap p.2 p.1 := isT_keep (hk p pm) old'
      have fw := few (L.map (·.2)) hS.nd fun x hx => by
        obtain ⟨q, hq, rfl⟩ := List.mem_map.mp hx
        exact List.mem_map.mpr ⟨q, g.sub q hq, rfl⟩
      rw [List.length_map] at fw
      refine show wpAny _ A.in1 (holding [Value.ref p.1] (setAdd S (.ref p.1)) >>= _) _ _ s' from wpAny_bind (wpAny_holding ?_)
      unfold setAdd
      refine wpAny_holding (wpAny_bind (wpAny_pyHash_tuple hu px ?_))
      refine add_at (s := { s' with toks := s'.toks + (p.2.length + 1) }) hS' px hu fw fun b h' L' es' ep' t' sb hS2 c1 c2 => ?_
      have tk : ks.take (i + 1) = ks.take i ++ [p] := by rw [List.take_add_one, hp]; rfl
      have g' : Hold ks (i + 1) L' := by
        by_cases c : p.2 ∈ L.map (·.2)
        · rw [c1 c]
          refine ⟨g.sub, fun q hq => ?_⟩
          rw [tk] at hq
          rcases List.mem_append.mp hq with z | z
          · exact g.all q z
          · rw [List.mem_singleton.mp z]; exact c
        · have pe := c2 c
          refine ⟨fun q hq => ?_, fun q hq => ?_⟩
          · rcases List.mem_cons.mp (pe.mem_iff.mp hq) with z | z
            · rw [z]; exact pm
            · exact g.sub q z
          · rw [(pe.map (·.2)).mem_iff, List.map_cons]
            rw [tk] at hq
            rcases List.mem_append.mp hq with z | z
            · exact List.mem_cons_of_mem _ (g.all q z)
            · rw [List.mem_singleton.mp z]; exact List.mem_cons_self
      have old2 : ∀ b o, h0.get? b = some o → h'.get? b = some o := fun b o e => (sb.2 b (fun z => by rw [z, new] at e; exact nomatch e)).trans (old' b o e)
      refine wpAny_pure ⟨plainId_quiet F.plain_set_update_loop _, ih (i + 1) _ (by omega) lt (W.frame _ s' _ _ st' (Nat.le_add_right _ _) fun b hb o e => ?_) old2 ⟨L', es', ep', t', hS2, g'⟩ fun s2 L2 es2 ep2 t2 hm2 hS3 g2 => ?_⟩
      · rw [sb.2 b (fun z : b = S => hSf (z ▸ hb))]; exact e
      · refine k s2 L2 es2 ep2 t2 (Moved.trans W.gtrans ((hm.mono up).then_heap (Nat.le_add_right _ _) fun b o hb e => ?_) hm2) hS3 g2
        rw [sb.2 b (fun z : b = S => hb (z ▸ List.mem_cons_self))]; exact e)
theorem set_of_tups {l : Addr} {items : Array Value} (ks : List (Addr × List Int)) {Q : Value → Shared → Prop} (hh : A.handled = none) (hl : s.heap.IsList l items) (hit : items.toList = ks.map fun p => Value.ref p.1)
    (hk : ∀ p ∈ ks, IsT P w s.heap p.2 p.1) (few : ∀ M : List (List Int), M.Nodup → (∀ k ∈ M, k ∈ ks.map (·.2)) → M.length + 1 < 64) (hu : A.units + 3 < cLine)
    (fin : ∀ (h' : Heap) (tk : Nat) L es ep t, SetTR P w h' s.heap.objs.size L es ep t → Hold ks ks.length L → (∀ b o, s.heap.get? b = some o → h'.get? b = some o) → Q (.ref s.heap.objs.size) { s with heap := h', toks := tk }) :
    wpAny (model P w) A (call (.type "set") [.ref l]) Q E s := by
  have sz : items.size = ks.length := by
    have := congrArg List.length hit
    simpa using this
  obtain ⟨ol, hol, _⟩ := id hl
  have lt : @LT.lt Nat _ l s.heap.objs.size := Heap.lt_size hol
  have n1 : l ≠ s.heap.objs.size + 1 := Nat.ne_of_lt (by omega)
  have n2 : s.heap.objs.size ∉ [s.heap.objs.size + 1, l] := fun z => by
    rcases List.mem_cons.mp z with q | q
    · exact absurd q (Nat.ne_of_lt (Nat.lt_succ_self _))
    · exact absurd (List.mem_singleton.mp q) (Nat.ne_of_gt lt)
  have non : ∀ b, s.heap.objs.size ≤ b → s.heap.get? b = none := fun b hb => by
    cases q : s.heap.get? b with
    | none => rfl
    | some o => exact absurd (Nat.lt_of_lt_of_le (Heap.lt_size q) hb) (Nat.lt_irrefl _)
  refine set_of_list (fun h' => ∃ L es ep t, SetTR P w h' s.heap.objs.size L es ep t ∧ Hold ks ks.length L) hl (fun R k => ?_) fun h' tk ⟨L, es, ep, t, h1, h2⟩ h3 => fin h' tk L es ep t h1 h2 h3
  have W : Walks P w A.in1.in1.in1 (s.heap.objs.size + 1) [s.heap.objs.size + 1, l] [s.heap.objs.size + 1] items.size (fun i v => items[i]? = some v) (fun i h => h.IsListIter (s.heap.objs.size + 1) l i ∧ h.IsList l items) := Walks.list (by simp [hh]) _ l n1 items
  have hz : Hold ks 0 [] := ⟨fun p z => (List.not_mem_nil z).elim, fun p z => by rw [List.take_zero] at z; exact (List.not_mem_nil z).elim⟩
  refine upd_tups W.toS s.heap.objs.size n2 ks sz few (fun i v hv => ?_) s.heap hk (non _ (Nat.le_refl _)) (fun b hb => non b (by rw [List.mem_singleton.mp hb]; exact Nat.le_succ _)) hu items.size 0 _ (by omega) (Nat.zero_le _) ⟨⟨_, iter_new, rfl, rfl⟩, (hl.push _).push _⟩ (fun b o e => Heap.get?_push_of_some _ (Heap.get?_push_of_some _ e)) ⟨[], #[], 0, _, setTR_fresh two_new, hz⟩ fun s' L es ep t hm hS g => k s' hm ⟨L, es, ep, t, hS, by rw [← sz]; exact g⟩ (keeps2 hm)
  have q : items.toList[i]? = some v := by rw [Array.getElem?_toList]; exact hv
  rw [hit, List.getElem?_map] at q
  cases hq : ks[i]? with
  | none => rw [hq] at q; exact nomatch q
  | some p => rw [hq] at q; exact ⟨p, rfl, (Option.some.inj q).symm⟩
end
end RL
/-! RLSet3: the rules of set(list) and sorted(set(list)). -/
namespace RL
open PySem PySem.Spec PyProof.Rows L2
section
variable {X : Cx} {K : W.Frag} {F : Hp}
theorem sub_lenS {α : Type} [DecidableEq α] : ∀ (l m : List α), l.Nodup → (∀ x ∈ l, x ∈ m) → l.length ≤ m.length
  | [], _, _, _ => Nat.zero_le _
  | a :: l, m, h, hs => by
    have h2 := List.nodup_cons.mp h
    have ha : a ∈ m := hs a List.mem_cons_self
    have := sub_lenS l (m.erase a) h2.2 fun x hx => (List.mem_erase_of_ne (fun z : x = a => h2.1 (z ▸ hx))).mpr (hs x (List.mem_cons_of_mem _ hx))
    rw [List.length_erase_of_mem ha] at this
    have hp : 0 < m.length := List.length_pos_of_mem ha
    rw [List.length_cons]; omega
theorem keys_inv : ∀ {ks : List (List Int)} {ds : List D} {vs : List V}, DqAll K F vs ds → keysOf ds = some ks → ∃ kp : List (Addr × List Int), vs = kp.map (fun p => V.ref p.1) ∧ kp.map (·.2) = ks ∧ ∀ p ∈ kp, TupG K F p.1 (p.2.map V.int)
  | ks, [], vs, h, e => by
    cases h
    have : ks = [] := (Option.some.inj e).symm
    subst this
    exact ⟨[], rfl, rfl, fun _ z => (List.not_mem_nil z).elim⟩
  | ks, d :: ds, vs, h, e => by
    cases h with
    | @cons v vs _ _ h1 h2 =>
      obtain ⟨k, e1, e⟩ := bind_ok (show (keyT d).bind (fun k => (keysOf ds).bind fun ks => some (k :: ks)) = some ks from e)
      obtain ⟨ks', e2, e⟩ := bind_ok e
      cases ok_inj e
      obtain ⟨kp, q1, q2, q3⟩ := keys_inv h2 e2
      cases d with
      | tuple xs =>
        cases h1 with
        | @tup a ys _ t1 t2 =>
          obtain ⟨r1, _⟩ := t2.ints_inv (show intsOf xs = some k from e1)
          subst r1
          refine ⟨(a, k) :: kp, by rw [q1]; rfl, by rw [← q2]; rfl, fun p hp => ?_⟩
          rcases List.mem_cons.mp hp with z | z
          · rw [z]; exact t1
          · exact q3 p z
      | _ => exact nomatch e1
/-- what a set object holds, and the data of sorted(it) -/
def SetFor (K : W.Frag) (P : Program) (w : World) (F : Hp) (a : Addr) (o : HO) (z : D) : Prop :=
  (∃ (is : List Int) (n : Nat), o = SetO w a (fun j => decide (j ∈ is)) n ∧ n < 64 ∧ (∀ i ∈ is, 0 ≤ i ∧ i < 64) ∧ z = .list (setI is)) ∨
    ∃ L : List (Addr × List Int), o = SetTO P w a L ∧ (∀ p ∈ L, TupG K F p.1 (p.2.map V.int) ∧ p.2 ∈ sixK) ∧ z = .list (setK (L.map (·.2)))
def rS1 (K : W.Frag) (P : Program) (w : World) : List V → Hp → VK → Prop := fun xs H Q => ∃ x F v z, xs = [x] ∧ Same F H ∧ RV K F H x v ∧ fn1D .sortedSet v = some z ∧ ∀ a o, H a = none → SetFor K P w F a o z → Q (.ref a) (upd H a o)
def rS2 (K : W.Frag) (P : Program) (w : World) : List V → Hp → VK → Prop := fun xs H Q => ∃ F H0 a o z, xs = [.ref a] ∧ H = upd H0 a o ∧ Same F H0 ∧ H0 a = none ∧ SetFor K P w F a o z ∧ Wants K F H0 z Q
theorem call_set2 (hc : X.calm = true) (hu : X.A.units + 64 < cLine) : CallR X (.type "set") (rS1 X.K X.prog X.w) := by
  intro pins s σ H xs us Q I r h
  obtain ⟨x, F, v, z, rfl, sF, hx, hb, k⟩ := h
  cases v with
  | dat d =>
    have hx' := hx.rd
    cases d with
    | list ds =>
      have hb : sdSet ds = some z := hb
      obtain ⟨a, vs, rfl, t1, r1⟩ := hx'.list sF
      obtain ⟨its, rv, pl, hz⟩ := I.list (.inl t1)
      rw [Vals.ref1 r]
      have hn : H s.heap.objs.size = none := I.hok.fresh (Nat.le_refl _)
      unfold sdSet at hb
      cases e1 : intsOf ds with
      | some is =>
        rw [e1] at hb
        obtain ⟨g, hb⟩ := grd_ok hb
        cases ok_inj hb
        simp only [Bool.and_eq_true, decide_eq_true_eq, List.all_eq_true] at g
        obtain ⟨g1, g2⟩ := g
        obtain ⟨rfl, _⟩ := r1.ints_inv e1
        refine set_of_ints (ns := is) (I.ok.hd hc) pl.isList (by simpa using rv.ints) (by unfold scanBound; omega) fun h' tk c hS hc2 hk => ?_
        exact ⟨.ref _, upd H s.heap.objs.size (SetO X.w s.heap.objs.size (fun j => decide (j ∈ is)) c), I.laid (t' := tk) hk (Nat.le_refl _) (setO_new hS), rfl, k _ _ hn (.inl ⟨is, c, rfl, by omega, g2, rfl⟩)⟩
      | none =>
        rw [e1] at hb
        cases e2 : keysOf ds with
        | none => rw [e2] at hb; exact nomatch hb
        | some ks =>
          rw [e2] at hb
          obtain ⟨g, hb⟩ := grd_ok hb
          cases ok_inj hb
          simp only [List.all_eq_true, decide_eq_true_eq] at g
          obtain ⟨kp, q1, q2, q3⟩ := keys_inv r1 e2
          subst q1
          refine set_of_tups kp (I.ok.hd hc) pl.isList (by simpa using refs_of_vals rv) (fun p hp => I.isT (sqT_mono sF (q3 p hp).sq)) (fun M hM hs => ?_) (by omega) fun h' tk L es ep t R hd hk => ?_
          · have := sub_lenS M sixK hM fun x hx => g x (by rw [← q2]; exact hs x hx)
            have e6 : sixK.length = 6 := rfl
            omega
          · refine ⟨.ref _, upd H s.heap.objs.size (SetTO X.prog X.w s.heap.objs.size L), I.laid (t' := tk) hk (Nat.le_refl _) (setTO_new R.t0), rfl, k _ _ hn (.inr ⟨L, rfl, fun p hp => ⟨q3 p (hd.sub p hp), g _ (by rw [← q2]; exact List.mem_map_of_mem (hd.sub p hp))⟩, ?_⟩)⟩
            unfold setK
            congr 2
            refine List.filter_congr fun x _ => ?_
            rw [decide_eq_decide, ← q2]
            constructor
            · intro hx
              obtain ⟨p, hp, rfl⟩ := List.mem_map.mp hx
              exact hd.all p (by rw [List.take_length]; exact hp)
            · intro hx
              obtain ⟨p, hp, rfl⟩ := List.mem_map.mp hx
              exact List.mem_map_of_mem (hd.sub p hp)
    | _ => exact nomatch hb
  | _ => exact nomatch hb
theorem dq_ints : ∀ ns : List Int, DqAll K F (ns.map V.int) (ns.map PyData.int)
  | [] => .nil
  | n :: ns => .cons (.int n) (dq_ints ns)
theorem dq_tups : ∀ L : List (Addr × List Int), (∀ p ∈ L, TupG K F p.1 (p.2.map V.int)) → DqAll K F (L.map fun q => V.ref q.1) ((L.map (·.2)).map fun k => PyData.tuple (k.map .int))
  | [], _ => .nil
  | p :: L, h => .cons (.tup (h p List.mem_cons_self) (dq_ints p.2)) (dq_tups L fun q hq => h q (List.mem_cons_of_mem _ hq))
theorem sixK_ok : ∀ k ∈ sixK, k.length = 3 ∧ TS.Bd 3 k := by
  intro k hk
  unfold sixK at hk
  simp only [List.mem_cons, List.not_mem_nil, or_false] at hk
  rcases hk with rfl | rfl | rfl | rfl | rfl | rfl
  all_goals
    refine ⟨rfl, fun m hm => ?_⟩
    simp only [List.mem_cons, List.not_mem_nil, or_false] at hm
    omega
theorem sixK_code : sixK.Pairwise fun q r => TS.code 3 q ≤ TS.code 3 r := by decide +kernel
theorem sixK_inj : ∀ q ∈ sixK, ∀ r ∈ sixK, TS.code 3 q ≤ TS.code 3 r → TS.code 3 r ≤ TS.code 3 q → q = r := by decide +kernel
theorem sixK_nodup : sixK.Nodup := by decide +kernel
theorem asc_eq {ns is : List Int} (h1 : ns.Pairwise (· < ·)) (h2 : ∀ k, k ∈ ns ↔ decide (k ∈ is) = true) (h3 : ∀ i ∈ is, 0 ≤ i ∧ i < 64) : ns.map PyData.int = setI is := by
  unfold setI
  have e : (((List.range 64).filter fun (i : Nat) => decide ((i : Int) ∈ is)).map fun (i : Nat) => PyData.int (i : Int)) = (((List.range 64).filter fun (i : Nat) => decide ((i : Int) ∈ is)).map fun (i : Nat) => (i : Int)).map PyData.int := by rw [List.map_map]; rfl
  rw [e]
  congr 1
  have p2 : (((List.range 64).filter fun (i : Nat) => decide ((i : Int) ∈ is)).map fun (i : Nat) => (i : Int)).Pairwise (· < ·) := by
    rw [List.pairwise_map]
    refine (List.pairwise_lt_range.filter _).imp fun {a b} hab => ?_
    omega
  have nd1 : ns.Nodup := h1.imp fun {a b} hab z => by omega
  have nd2 : (((List.range 64).filter fun (i : Nat) => decide ((i : Int) ∈ is)).map fun (i : Nat) => (i : Int)).Nodup := p2.imp fun {a b} hab z => by omega
  refine List.Perm.eq_of_pairwise (le := (· < ·)) (fun a b _ _ x y => by omega) h1 p2 ((List.perm_ext_iff_of_nodup nd1 nd2).mpr fun k => ?_)
  rw [h2, decide_eq_true_eq, List.mem_map]
  constructor
  · intro hk
    have := h3 k hk
    refine ⟨k.toNat, List.mem_filter.mpr ⟨List.mem_range.mpr (by omega), ?_⟩, by omega⟩
    rw [decide_eq_true_eq, show ((k.toNat : Nat) : Int) = k by omega]; exact hk
  · rintro ⟨i, hi, rfl⟩
    have := (List.mem_filter.mp hi).2
    simpa using this
theorem call_sorted2 (hc : X.calm = true) : CallR X (.builtin "sorted") (rS2 X.K X.prog X.w) := by
  intro pins s σ H xs us Q I r h
  obtain ⟨F, H0, a, o, z, rfl, rfl, sF, hn, hs, k⟩ := h
  have ex1 := Ext.free (o := o) sF hn
  rcases hs with ⟨is, n, rfl, h64, hi, rfl⟩ | ⟨L, rfl, hL, rfl⟩
  · refine cr_sortedSet hc pins s σ _ _ us Q I r ⟨a, _, n, rfl, upd_same, h64, fun ns p h1 h2 h3 hp => ?_⟩
    have e := asc_eq h1 h2 hi
    refine k _ _ _ (ex1.trans (Ext.laid ex1.sub hp)) ?_
    rw [← e]
    exact lay_list ex1.sub hp (dq_ints ns)
  · refine cr_sortedT hc pins s σ _ _ us Q I r ⟨a, L, 3, 3, rfl, upd_same, fun p hp => sqT_mono ex1.sub (hL p hp).1.sq, by decide, fun p hp => sixK_ok _ (hL p hp).2, fun L' p pm nd few pw hp => ?_⟩
    refine k _ _ _ (ex1.trans (Ext.laid ex1.sub hp)) ?_
    have hm : ∀ q ∈ L', q ∈ L := fun q hq => pm.mem_iff.mp hq
    have e : L'.map (·.2) = sixK.filter fun k => decide (k ∈ L.map (·.2)) := by
      refine List.Perm.eq_of_pairwise (le := fun q r => TS.code 3 q ≤ TS.code 3 r) (fun x y hx hy => ?_) (List.pairwise_map.mpr pw) (sixK_code.filter _) ((List.perm_ext_iff_of_nodup nd (sixK_nodup.filter _)).mpr fun x => ?_)
      · obtain ⟨q, hq, rfl⟩ := List.mem_map.mp hx
        exact sixK_inj _ (hL q (hm q hq)).2 _ (List.mem_filter.mp hy).1
      · rw [List.mem_filter, decide_eq_true_eq, (pm.map (·.2)).mem_iff]
        constructor
        · intro hx
          obtain ⟨q, hq, rfl⟩ := List.mem_map.mp hx
          exact ⟨(hL q hq).2, hx⟩
        · exact fun hx => hx.2
    unfold setK
    rw [← e]
    exact lay_list ex1.sub hp (dq_tups L' fun q hq => (hL q (hm q hq)).1)
end
end RL
/-! RLChk: does an expression of the small language say what an expression of the text says? -/
namespace RL
open PySem PySem.Spec PyProof.Rows L2

/-- names by number: defs, constants of the module, exception classes -/
structure Tab where
  fns : List (Option Str)
  glo : List (Option Str)
  cls : List (Option Str)
  mks : List (Option Str) := []
  dus : List (Option Str) := []

def visB (sc : Scope) (x : Str) : Bool := match sc.names.lookup x with
  | some .local => true
  | some .cell => true
  | some .free => true
  | _ => false
def glB (sc : Scope) (x : Str) : Bool := match sc.names.lookup x with
  | some .globalImplicit => true
  | _ => false
def locB (sc : Scope) (x : Str) : Bool := match sc.names.lookup x with
  | some .local => true
  | _ => false
def celB (sc : Scope) (x : Str) : Bool := match sc.names.lookup x with
  | some .cell => true
  | _ => false
def nmB (x : Str) : Bool := !(x == ("__debug__" : Str)) && !(x == ("__classdict__" : Str)) && !decide (x = ("__name__" : Str))
def isSlice : Expr → Bool
  | .Slice _ _ _ _ => true
  | _ => false
def isStar : Expr → Bool
  | .Starred _ _ => true
  | _ => false
/-- isTrue looks at the value alone -/
def plainT : Expr → Bool
  | .UnaryOp .Not _ _ => false
  | .BoolOp _ _ _ => false
  | .IfExp _ _ _ _ => false
  | .Compare _ _ _ _ => false
  | _ => true
def isCall0 : Expr → Bool
  | .Call _ [] [] _ => true
  | _ => false
def isSet : Expr → Bool
  | .Set _ _ _ => true
  | _ => false
def constB : D → Const → Bool
  | .none, .none => true
  | .bool b, .bool c => b == c
  | .int i, .int j => decide (i = j)
  | .str x, .str y => decide (x = y)
  | _, _ => false
mutual
def chkTg (N : List Str) (sc : Scope) (strict : Bool) : Tg → Expr → Bool
  | .one i, .Name x _ => decide (N[i]? = some x) && (locB sc x || (!strict && celB sc x))
  | .many l, .Tuple es _ _ => chkTgs N sc strict l es
  | _, _ => false
def chkTgs (N : List Str) (sc : Scope) (strict : Bool) : List Tg → List Expr → Bool
  | [], [] => true
  | t :: l, e :: es => chkTg N sc strict t e && chkTgs N sc strict l es
  | _, _ => false
end
def f1Str : F1 → Str
  | .len => "len"
  | .tuple => "tuple"
  | .list => "list"
  | .chars => "list"
  | .listRange => "list"
  | .sorted => "sorted"
  | .sortedSet => "sorted"
  | .sum => "sum"
  | .min => "min"
  | .max => "max"
  | .int => "int"
  | .str => "str"
/-- the calls that have a rule so far -/
def f1Ok : F1 → Bool
  | .len => true
  | .tuple => true
  | .list => true
  | .int => true
  | .sum => true
  | .sorted => true
  | .min => true
  | .max => true
  | .str => true
  | .chars => true
  | _ => false
/-- the place of self -/
def isCN : Ex → Bool
  | .con .none => true
  | _ => false
def isSS : F1 → Bool
  | .sortedSet => true
  | _ => false
def isLR : F1 → Bool
  | .listRange => true
  | _ => false
def setArg : Expr → Option (Str × Expr)
  | .Call (.Name y _) [q] [] _ => some (y, q)
  | _ => none
def f2Str : F2 → Str
  | .min => "min"
  | .max => "max"
def mtStr : Mt → Str
  | .index => "index"
  | .sindex => "index"
  | .count => "count"
  | .join => "join"
  | .split => "split"
def mtOk : Mt → Bool
  | .index => true
  | .count => true
  | .join => true
  | .split => true
  | .sindex => true
def tyStr (T : Tab) : Ty → Option Str
  | .int => some "int"
  | .bool => some "bool"
  | .tuple => some "tuple"
  | .list => some "list"
  | .str => some "str"
  | .cls _ => none
def ownP (N : List Str) (own : List Nat) : List (Str × Nat) := own.map fun i => (N.getD i "", i)
def cmpMark (o : CmpOp) (e : Expr) : Bool := behindInMarks o e
/-- the method's call stands on one line -/
def lineB (apos pos : Pos) : Bool := apos.endLine == pos.line

def restE (op : BoolOp) (y : Expr) (rest : List Expr) (pos : Pos) : Expr := match rest with
  | [] => y
  | _ => .BoolOp op (y :: rest) pos
mutual
def tgSlots : Tg → List Nat
  | .one i => [i]
  | .many l => tgsSlots l
def tgsSlots : List Tg → List Nat
  | [] => []
  | t :: l => tgSlots t ++ tgsSlots l
end
def tgIn (own : List Nat) (t : Tg) : Bool := (tgSlots t).all fun i => own.contains i
def bNone : Ex → Bool
  | .con .none => true
  | _ => false
def isMany : Tg → Bool
  | .many _ => true
  | _ => false
def isZip : Sk → Bool
  | .zip => true
  | .enm => true
  | _ => false
/-- what is walked -/
def srcC (sc : Scope) (ca cb : Expr → Bool) (b0 many : Bool) : Sk → Expr → Bool
  | .items, it => ca it && b0
  | .rg1, .Call (.Name x _) [p] [] _ => decide (x = ("range" : Str)) && glB sc x && !isStar p && ca p && b0
  | .rg2, .Call (.Name x _) [p, q] [] _ => decide (x = ("range" : Str)) && glB sc x && !isStar p && !isStar q && ca p && cb q
  | .zip, .Call (.Name x _) [p, q] [] _ => decide (x = ("zip" : Str)) && glB sc x && !isStar p && !isStar q && ca p && cb q && many
  | .enm, .Call (.Name x _) [p] [] _ => decide (x = ("enumerate" : Str)) && glB sc x && !isStar p && ca p && b0 && many
  | _, _ => false
/-- {y} in an f-string -/
def fmtE : Expr → Option Expr
  | .FormattedValue y c none _ => if c = -1 then some y else none
  | _ => none
def isStrC : Ex → Bool
  | .con (.str _) => true
  | _ => false
mutual
def chkE (T : Tab) (N : List Str) : Ex → Scope → Expr → Bool
  | .var i, sc, .Name x _ => decide (N[i]? = some x) && visB sc x && nmB x
  | .con d, _, .Constant c _ _ => constB d c
  | .glo g, sc, .Name x _ => decide (T.glo[g]? = some (some x)) && glB sc x && nmB x
  | .bin o a b, sc, .BinOp l op r _ => decide (op = opOf o) && chkE T N a sc l && chkE T N b sc r
  | .neg a, sc, .UnaryOp .USub x _ => chkE T N a sc x
  | .cmp o a b, sc, .Compare l [op] [r] _ => decide (op = copOf o) && !cmpMark op r && chkE T N a sc l && chkE T N b sc r
  | .chn o p a b c, sc, .Compare l [op, op'] [m, r] _ => decide (op = copOf o) && decide (op' = copOf p) && !cmpMark op m && !cmpMark op' r && chkE T N a sc l && chkE T N b sc m && chkE T N c sc r
  | .isn pos a, sc, .Compare l [op] [.Constant .none _ _] _ => decide (op = if pos then .Is else .IsNot) && chkE T N a sc l
  | .and a b, sc, .BoolOp .And (x :: y :: rest) pos => chkE T N a sc x && chkE T N b sc (restE .And y rest pos)
  | .or a b, sc, .BoolOp .Or (x :: y :: rest) pos => chkE T N a sc x && chkE T N b sc (restE .Or y rest pos)
  | .not a, sc, .UnaryOp .Not x _ => chkE T N a sc x
  | .ite c a b, sc, .IfExp t x y _ => chkE T N c sc t && chkE T N a sc x && chkE T N b sc y
  | .tup es, sc, .Tuple xs _ _ => chkEs T N es sc xs
  | .lst es, sc, .List xs _ => chkEs T N es sc xs
  | .idx a i, sc, .Subscript x y _ => !isSlice y && chkE T N a sc x && chkE T N i sc y
  | .slf a lo, sc, .Subscript x (.Slice (some l) none none _) _ => chkE T N a sc x && chkE T N lo sc l
  | .slt a hi, sc, .Subscript x (.Slice none (some h) none _) _ => chkE T N a sc x && chkE T N hi sc h
  | .slb a lo hi, sc, .Subscript x (.Slice (some l) (some h) none _) _ => chkE T N a sc x && chkE T N lo sc l && chkE T N hi sc h
  | .rev a, sc, .Subscript x (.Slice none none (some (.UnaryOp .USub (.Constant (.int 1) _ _) _)) _) _ => chkE T N a sc x
  | .cpr own tg k a b elt, sc, .ListComp e [⟨t, iter, [], 0⟩] scope _ =>
      blkC N sc scope (ownP N own) && chkTg N (relS scope sc) true tg t && tgIn own tg && !isSet iter && srcC sc (chkE T N a sc) (chkE T N b sc) (bNone b) (isMany tg) k iter && chkE T N elt (relS scope sc) e
  | .cpi own tg k a b c elt, sc, .ListComp e [⟨t, iter, [i], 0⟩] scope _ =>
      blkC N sc scope (ownP N own) && chkTg N (relS scope sc) true tg t && tgIn own tg && !isSet iter && srcC sc (chkE T N a sc) (chkE T N b sc) (bNone b) (isMany tg) k iter && chkE T N elt (relS scope sc) e && chkE T N c (relS scope sc) i
  | .call f es, sc, .Call (.Name x _) args [] _ => cond (decide (T.mks[f]? = some (some x))) (glB sc x && nmB x && (match es with
      | e0 :: es' => isCN e0 && (!args.isEmpty && chkEs T N es' sc args)
      | [] => false)) (decide (T.fns[f]? = some (some x)) && glB sc x && nmB x && chkEs T N es sc args)
  | .call f es, sc, .Call (.Attribute (.Call (.Name x _) args [] _) m apos) [] [] pos => decide (T.dus[f]? = some (some x)) && decide (m = ("undo" : Str)) && glB sc x && nmB x && lineB apos pos && !args.isEmpty && chkEs T N es sc args
  | .fn1 f a, sc, .Call (.Name x _) [p] [] _ => cond (isSS f) (decide (x = ("sorted" : Str)) && glB sc x && !isStar p && (match setArg p with
      | some (y, q) => decide (y = ("set" : Str)) && glB sc y && !isStar q && chkE T N a sc q
      | none => false)) (cond (isLR f) (decide (x = ("list" : Str)) && glB sc x && !isStar p && (match setArg p with
      | some (y, q) => decide (y = ("range" : Str)) && glB sc y && !isStar q && chkE T N a sc q
      | none => false)) (f1Ok f && decide (x = f1Str f) && glB sc x && !isStar p && chkE T N a sc p))
  | .fn2 f a b, sc, .Call (.Name x _) [p, q] [] _ => decide (x = f2Str f) && glB sc x && !isStar p && !isStar q && chkE T N a sc p && chkE T N b sc q
  | .mt m a b, sc, .Call (.Attribute o x apos) [p] [] pos => mtOk m && decide (x = mtStr m) && lineB apos pos && !isCall0 o && !isStar p && chkE T N a sc o && chkE T N b sc p
  | .isi a t, sc, .Call (.Name x _) [p, .Name y _] [] _ => decide (x = ("isinstance" : Str)) && glB sc x && !isStar p && decide (tyStr T t = some y) && glB sc y && chkE T N a sc p
  | .dc1 kx v, sc, .Dict [some q] [w] _ => chkE T N kx sc q && chkE T N v sc w
  | .dc0, _, .Dict [] [] _ => true
  | .fst es, sc, .JoinedStr (v :: v' :: vs) _ => chkFs T N es sc (v :: v' :: vs)
  | _, _, _ => false
def chkEs (T : Tab) (N : List Str) : List Ex → Scope → List Expr → Bool
  | [], _, [] => true
  | e :: es, sc, x :: xs => !isStar x && chkE T N e sc x && chkEs T N es sc xs
  | _, _, _ => false
/-- the parts of an f-string -/
def chkFs (T : Tab) (N : List Str) : List Ex → Scope → List Expr → Bool
  | [], _, [] => true
  | e :: es, sc, x :: xs => (match fmtE x with
    | some y => chkE T N e sc y
    | none => isStrC e && chkE T N e sc x) && chkFs T N es sc xs
  | _, _, _ => false
end
end RL
/-! RLPost: what a def promises by the evaluator, and how a reading follows the evaluator. -/
namespace RL
open PySem PySem.Spec PyProof.Rows L2

/-- an exception of class c with the field p, as it lies behind a raise -/
def Xr (T : Tab) (K : W.Frag) (mg : Str → Option Value) (c : Nat) (p : Option D) (cls : Value) (dd : Option Addr) (H : Hp) : Prop :=
  ∃ x a, T.cls[c]? = some (some x) ∧ mg x = some (.ref a) ∧ cls = .ref a ∧ (match p with
    | none => dd = none
    | some q => ∃ b v, dd = some b ∧ H b = some (.xd [("line", v)]) ∧ ∀ F, Dq K F v q)

/-- the end of a call, by the evaluator -/
def CkP (T : Tab) (K : W.Frag) (mg : Str → Option Value) (F H : Hp) (Q : VK) (E : XK) : Res Vl → Prop
  | .ok v => ∀ x F' H', Ext F H F' H' → Frep K F' x v → Q x H'
  | .exc c p => ∀ F' H' cls d, Ext F H F' H' → Xr T K mg c p cls d H' → E cls d H'
  | .bad => False
/-- a def's promise: by its end at data -/
def spF (T : Tab) (K : W.Frag) (mg : Str → Option Value) (n : Nat) (ck : List D → Res Vl) : Sp := fun vs H Q E => ∃ F ds, Same F H ∧ DqAll K F vs ds ∧ ds.length = n ∧ CkP T K mg F H Q E (ck ds)

/-- the promise of an __init__ that raises; self's place is told as None -/
def spM (T : Tab) (K : W.Frag) (mg : Str → Option Value) (n : Nat) (ck : List D → Res Vl) : Sp := fun vs H Q E => ∃ F y vs' ds c p, vs = y :: vs' ∧ Same F H ∧ DqAll K F vs' ds ∧ ds.length + 1 = n ∧ ck (.none :: ds) = .exc c p ∧ CkP T K mg F H Q E (.exc c p)
def bltNames : List Str := ["len", "tuple", "list", "sorted", "sum", "min", "max", "int", "str", "bool", "isinstance", "range", "zip", "enumerate", "set", "ValueError"]

/-- the classes below ValueError -/
def mroV : List Value := [.type "ValueError", .type "Exception", .type "BaseException", .type "object"]
/-- an own class of exceptions; own: it has its own __init__ -/
structure ClsK (K : W.Frag) (a : Addr) (own : Bool) : Prop where
  kp : W.keepIn K (.ref a) = true
  exc : ExcC K a
  ty : W.typeIn K (.ref a) = some (.type "type")
  raw : own = false → W.excIn K a mroV "ValueError.__new__" = true
  vl : W.kitOne K (.ref a) (.type "ValueError") = some true
/-- the class of exceptions at a whose __init__ at fI calls that of the class at b and keeps a field -/
structure PeC (K : W.Frag) (mg : Str → Option Value) (a b fI : Addr) : Prop where
  ox : OexC K a
  ini : W.findIn K (.ref a) "__init__" = some (some (.ref fI))
  ty : W.typeIn K (.ref fI) = some (.type "function")
  no : W.findIn K (.ref a) "line" = some none
  lb : mg "LabelError" = some (.ref b)
  rd : W.readsIn K b (.type "type") = true
  ga : W.specialIn K (.ref b) "__getattribute__" = some (some (.builtin "type.__getattribute__"))
  fc : W.findCls K (.ref b) (.type "type") "__init__" = some (.val (.builtin "ValueError.__init__"))
/-- what that __init__ promises -/
def spPe (C : Addr) : Sp := fun vs H Q _ => ∃ a v, vs = [.ref a, v] ∧ H a = some (exo a C none) ∧ ∀ dx, H dx = none → dx ≠ a → Q .non (upd (upd H dx (exd dx [("line", v)])) a (exo a C (some dx)))
/-! ### desks -/
/-- the fields of a desk -/
def DF (vg : V) (s : Addr) : List (Str × V) := [("graph", vg), ("steps", .ref s), ("kept", .int 0)]
theorem DF_g {vg : V} {s : Addr} : (DF vg s).lookup ("graph" : Str) = some vg := rfl
theorem DF_s {vg : V} {s : Addr} : (DF vg s).lookup ("steps" : Str) = some (V.ref s) := rfl
theorem DF_k {vg : V} {s : Addr} : (DF vg s).lookup ("kept" : Str) = some (V.int 0) := rfl
structure DkC (K : W.Frag) (Ca : Addr) : Prop where
  cls : Cls K Ca
  ng : NoAttr K Ca "graph"
  ns : NoAttr K Ca "steps"
  nk : NoAttr K Ca "kept"
structure Dk where
  y : Addr
  s : Addr
  g : D
  st : List D
def DkAt (K : W.Frag) (Ca : Addr) (F H : Hp) (d : Dk) : Prop := ∃ dy vg vs, H d.y = some (.ins Ca dy (DF vg d.s)) ∧ Dq K F vg d.g ∧ H d.s = some (.lst vs) ∧ DqAll K F vs d.st ∧ F d.y = none ∧ F d.s = none
/-- what __init__ promises: ck is check_labels -/
def spI (T : Tab) (K : W.Frag) (mg : Str → Option Value) (Ca : Addr) (ck : List D → Res Vl) : Sp := fun vs H Q E => ∃ F y dy v1 v2 d1 d2, vs = [.ref y, v1, v2] ∧ Same F H ∧ F y = none ∧ H y = some (.ins Ca dy []) ∧ Dq K F v1 d1 ∧ Dq K F v2 d2 ∧ (match ck [d1, d2] with
  | .ok _ => ∀ F' H1 H2 s, Ext F H F' H1 → H1 s = none → H2 y = some (.ins Ca dy (DF v1 s)) → H2 s = some (.lst [v2]) → (∀ b, b ≠ y → b ≠ s → H2 b = H1 b) → Q .non H2
  | .exc c p => ∀ F' H' cls d, Ext F H F' H' → Xr T K mg c p cls d H' → E cls d H'
  | .bad => False)
/-- what undo promises -/
def spU (T : Tab) (K : W.Frag) (mg : Str → Option Value) (Ca : Addr) : Sp := fun vs H Q E => ∃ F d, vs = [.ref d.y] ∧ Same F H ∧ DkAt K Ca F H d ∧
  ((d.st.length ≤ 1 ∧ ∀ F' H' cls dd, Ext F H F' H' → Xr T K mg 15 none cls dd H' → E cls dd H') ∨ (1 < d.st.length ∧ ∃ v, d.st.dropLast.getLast? = some v ∧ ∀ F' H' x vs2, Ext F H F' H' → DqAll K F' vs2 d.st.dropLast → Dq K F' x v → Q x (upd H' d.s (.lst vs2))))
/-- what the module gives: defs, constants, classes; k: the level of the defs -/
structure Wd (T : Tab) (k : Nat) (C : Cfg) (P : Program) (w : World) (K : W.Frag) (mg : Str → Option Value) (base : Heap) : Prop where
  fns : ∀ (f : Nat) x, T.fns[f]? = some (some x) → ∃ a fd ps, mg x = some (.ref a) ∧ W.keepIn K (.ref a) = true ∧ Binds K fd ps [] ∧ FnOk P w K mg base (L2.CX P w) (k + 8) a fd ps (spF T K mg ps.length (C.ck f)) ∧ ∀ ds, C.ck f ds ≠ .bad → ds.length = ps.length
  glo : ∀ (g : Nat) x, T.glo[g]? = some (some x) → ∃ u v, mg x = some u ∧ RelV v u ∧ ∀ d, C.gv g = some d → ∀ F, Dq K F v d
  blt : ∀ x ∈ bltNames, mg x = none
  cls : ∀ (c : Nat) x, T.cls[c]? = some (some x) → ∃ a, mg x = some (.ref a) ∧ ClsK K a (decide (c = 1))
  sub : ∀ (c d : Nat) x y a b, T.cls[c]? = some (some x) → T.cls[d]? = some (some y) → mg x = some (.ref a) → mg y = some (.ref b) → W.exmOne K (.ref a) (.ref b) = some (C.sub c d) ∧ W.kitOne K (.ref a) (.ref b) = some (C.sub c d)
  mks : ∀ (f : Nat) x, T.mks[f]? = some (some x) → ∃ Ca, mg x = some (.ref Ca) ∧ W.keepIn K (.ref Ca) = true ∧ (∀ ds v, C.ck f ds ≠ .ok v) ∧ ((∀ ds, C.ck f ds = .bad) ∨ ∃ j a fd ps ck', k = j + 1 ∧ Mk K Ca a ∧ Binds K fd ps [] ∧ FnOk P w K mg base (L2.CX P w) (j + 8) a fd ps (spM T K mg ps.length ck') ∧ ∀ ds c p, C.ck f ds = .exc c p → ck' ds = .exc c p ∧ ds.length = ps.length)
  pe : ∀ x, T.cls[1]? = some (some x) → ∃ a b fI fd ps, mg x = some (.ref a) ∧ PeC K mg a b fI ∧ Binds K fd ps [] ∧ FnOk P w K mg base CX0 1 fI fd ps (spPe a)
  s16 : ∀ (c : Nat) x, T.cls[c]? = some (some x) → C.sub c 16 = true
  dus : ∀ (f : Nat) x, T.dus[f]? = some (some x) → ∃ Ca, mg x = some (.ref Ca) ∧ W.keepIn K (.ref Ca) = true ∧ ((∀ ds, C.ck f ds = .bad) ∨ ∃ j aI fdI psI aU fdU psU ck, k = j + 2 ∧ Mk K Ca aI ∧ DkC K Ca ∧ Meth K Ca "undo" aU ∧ Binds K fdI psI [] ∧ Binds K fdU psU [] ∧
    FnOk P w K mg base (L2.CX P w) (j + 9) aI fdI psI (spI T K mg Ca ck) ∧ FnOk P w K mg base (L2.CX P w) (j + 9) aU fdU psU (spU T K mg Ca) ∧
    ∀ ds, C.ck f ds = .bad ∨ ∃ d1 d2, ds = [d1, d2] ∧ ((∃ c p, ck [d1, d2] = .exc c p ∧ C.ck f ds = .exc c p) ∨ ∃ v, ck [d1, d2] = .ok v ∧ C.ck f ds = .exc 15 none))

structure Ok (T : Tab) (N : List Str) (k : Nat) (C : Cfg) (sc : Scope) (X : Cx) (W : WX) : Prop where
  n : X.N = N
  nd : N.Nodup
  sc : X.env.scope = sc
  calm : X.calm = true
  room : Room (k + 8) X.A
  tk : Takes X W
  wd : Wd T k C X.prog X.w X.K X.mg X.base

section
variable {T : Tab} {X : Cx} {C : Cfg} {W : WX} {σ : L2.St} {ρ : Env} {Q : VK} {F H F' H' : Hp}
/-- what is wanted of the evaluator's end -/
def Post (T : Tab) (X : Cx) (W : WX) (σ : L2.St) (F H : Hp) {β : Type} (R : Hp → Hp → β → Prop) : Res β → Prop
  | .ok r => ∀ F' H', Ext F H F' H' → R F' H' r
  | .exc c p => ∀ F' H' cls d, Ext F H F' H' → Xr T X.K X.mg c p cls d H' → W cls d σ H'
  | .bad => False
/-- of a value -/
def RV1 (X : Cx) (σ : L2.St) (ρ : Env) (Q : VK) : Hp → Hp → Bool × Vl → Prop := fun F' H' r => ∀ x, VR X.K F' σ ρ x r → Q x H'
def tE (T : Tab) (X : Cx) (C : Cfg) (W : WX) (e : Ex) : TE := fun σ H Q => ∃ F ρ, Rel X.K F σ H ρ ∧ Post T X W σ F H (RV1 X σ ρ Q) (ev C ρ e)

theorem Post.mono {β : Type} {R : Hp → Hp → β → Prop} {r : Res β} (e : Ext F H F' H') (h : Post T X W σ F H R r) : Post T X W σ F' H' R r := by
  cases r with
  | ok v => exact fun F2 H2 e2 => h F2 H2 (e.trans e2)
  | exc c p => exact fun F2 H2 cls d e2 => h F2 H2 cls d (e.trans e2)
  | bad => exact h
/-- an expression first -/
theorem tE_bind {β : Type} {a : Ex} {f : Bool × Vl → Res β} {R : Hp → Hp → β → Prop} {Q' : VK} (rel : Rel X.K F σ H ρ) (h : Post T X W σ F H R ((ev C ρ a).bind f))
    (k : ∀ r x F1 H1, ev C ρ a = .ok r → Ext F H F1 H1 → Rel X.K F1 σ H1 ρ → VR X.K F1 σ ρ x r → Post T X W σ F1 H1 R (f r) → Q' x H1) : tE T X C W a σ H Q' := by
  refine ⟨F, ρ, rel, ?_⟩
  cases e : ev C ρ a with
  | ok r =>
    rw [e] at h
    exact fun F1 H1 e1 x v => k r x F1 H1 e e1 (rel.ext e1) v (Post.mono e1 (show Post T X W σ F H R (f r) from h))
  | exc c p => rw [e] at h; exact h
  | bad => rw [e] at h; exact h.elim
theorem opt_post {α β : Type} {o : Option α} {f : α → Res β} {R : Hp → Hp → β → Prop} (h : Post T X W σ F H R (opt o f)) : ∃ x, o = some x ∧ Post T X W σ F H R (f x) := by
  cases o with
  | none => exact h.elim
  | some x => exact ⟨x, rfl, h⟩
/-- the value is told -/
theorem ret_post {d : D} (h : Post T X W σ F H (RV1 X σ ρ Q) (ret d)) : Wants X.K F H d Q := fun v F' H' e hd => h F' H' e v hd
theorem PE.imp {e : Expr} {t t' : TE} (h : PE X e t) (hi : ∀ σ H Q, t' σ H Q → t σ H Q) : PE X e t' := ⟨fun pins s σ H Q I hw => h.run pins s σ H Q I (hi σ H Q hw)⟩
theorem PT.imp {e : Expr} {t t' : TT} (h : PT X e t) (hi : ∀ σ H Q, t' σ H Q → t σ H Q) : PT X e t' := ⟨fun pins s σ H Q I hw => h.run pins s σ H Q I (hi σ H Q hw)⟩
theorem PA.imp {es : List Expr} {t t' : TA} (h : PA X es t) (hi : ∀ σ H Q, t' σ H Q → t σ H Q) : PA X es t' := ⟨fun pos pins s σ H Q I hw => h.run pos pins s σ H Q I (hi σ H Q hw)⟩

/-- arguments -/
def tEs (T : Tab) (X : Cx) (C : Cfg) (W : WX) (es : List Ex) : TA := fun σ H Q => ∃ F ρ, Rel X.K F σ H ρ ∧ Post T X W σ F H (fun F' H' ds => ∀ vs, DqAll X.K F' vs ds → Q vs H') (evs C ρ es)
theorem tEs_bind {β : Type} {es : List Ex} {f : List D → Res β} {R : Hp → Hp → β → Prop} {Q' : List V → Hp → Prop} (rel : Rel X.K F σ H ρ) (h : Post T X W σ F H R ((evs C ρ es).bind f))
    (k : ∀ ds vs F1 H1, evs C ρ es = .ok ds → Ext F H F1 H1 → Rel X.K F1 σ H1 ρ → DqAll X.K F1 vs ds → Post T X W σ F1 H1 R (f ds) → Q' vs H1) : tEs T X C W es σ H Q' := by
  refine ⟨F, ρ, rel, ?_⟩
  cases e : evs C ρ es with
  | ok r =>
    rw [e] at h
    exact fun F1 H1 e1 vs v => k r vs F1 H1 e e1 (rel.ext e1) v (Post.mono e1 (show Post T X W σ F H R (f r) from h))
  | exc c p => rw [e] at h; exact h
  | bad => rw [e] at h; exact h.elim

/-- a test -/
def tT (T : Tab) (X : Cx) (C : Cfg) (W : WX) (e : Ex) : TT := fun σ H Q => ∃ F ρ, Rel X.K F σ H ρ ∧ Post T X W σ F H (fun _ H' b => Q b H') (evT C ρ e)
theorem tT_bind {β : Type} {a : Ex} {f : Bool → Res β} {R : Hp → Hp → β → Prop} {Q' : Bool → Hp → Prop} (rel : Rel X.K F σ H ρ) (h : Post T X W σ F H R ((evT C ρ a).bind f))
    (k : ∀ b F1 H1, evT C ρ a = .ok b → Ext F H F1 H1 → Rel X.K F1 σ H1 ρ → Post T X W σ F1 H1 R (f b) → Q' b H1) : tT T X C W a σ H Q' := by
  refine ⟨F, ρ, rel, ?_⟩
  cases e : evT C ρ a with
  | ok r =>
    rw [e] at h
    exact fun F1 H1 e1 => k r F1 H1 e e1 (rel.ext e1) (Post.mono e1 (show Post T X W σ F H R (f r) from h))
  | exc c p => rw [e] at h; exact h
  | bad => rw [e] at h; exact h.elim
end

/-! ### names and stars -/
theorem visB_ok {sc : Scope} {x : Str} (h : visB sc x = true) : Vis sc x := by
  unfold visB at h
  unfold Vis
  split at h <;> first | (rename_i e; simp [e]; done) | cases h
theorem glB_ok {X : Cx} {sc : Scope} {x : Str} (hs : X.env.scope = sc) (h : glB sc x = true) : Gl X x := by
  unfold glB at h
  split at h
  · rename_i e
    show X.env.scope.names.lookup x = _
    rw [hs]; exact e
  · cases h
theorem nmB_ok {x : Str} (h : nmB x = true) : (x == ("__debug__" : Str)) = false ∧ (x == ("__classdict__" : Str)) = false ∧ x ≠ "__name__" := by
  unfold nmB at h
  simp only [Bool.and_eq_true, Bool.not_eq_true', decide_eq_false_iff_not] at h
  exact ⟨h.1.1, h.1.2, h.2⟩
theorem star_cons {e : Expr} {es : List Expr} {env : PySem.Env} (h : isStar e = false) : starEach (e :: es) env = (false, eval e env) :: starEach es env := by
  cases e <;> first | rfl | cases h
theorem plain_ix {e : Expr} (h : isSlice e = false) : PlainIx e := by
  intro o i
  cases e <;> first | rfl | cases h
theorem fold_ix {e : Expr} {env : PySem.Env} (h : isSet e = false) : ∀ x, foldedSetIterable e env x = pure x := by
  intro x
  cases e <;> first | rfl | cases h
theorem base_ix {e : Expr} {name : Str} {env : PySem.Env} (h : isCall0 e = false) : attributeBase e name env (eval e env) = eval e env := by
  unfold attributeBase
  split
  · cases h
  · rfl
theorem plainT_ok {e : Expr} {env : PySem.Env} (h : plainT e = true) : ∀ whole, isTrue e env whole = (do let v ← whole; standAt e.pos; holding [v] (PySem.truthy v)) := by
  intro whole
  cases e with
  | UnaryOp op a p => cases op <;> first | rfl | cases h
  | BoolOp _ _ _ => cases h
  | IfExp _ _ _ _ => cases h
  | Compare _ _ _ _ => cases h
  | _ => rfl
theorem chkEs_star {T : Tab} {N : List Str} {sc : Scope} {env : PySem.Env} {pos : Pos} : ∀ {es : List Ex} {xs : List Expr}, chkEs T N es sc xs = true → (backTo pos (starEach xs env)).any (·.1) = false
  | [], [], _ => rfl
  | e :: es, x :: xs, h => by
    rw [chkEs] at h
    simp only [Bool.and_eq_true, Bool.not_eq_true'] at h
    have ih := chkEs_star (pos := pos) (env := env) h.2
    rw [star_cons h.1.1]
    show (false || (backTo pos (starEach xs env)).any (·.1)) = false
    rw [ih]; rfl
  | [], _ :: _, h => by rw [chkEs] at h; cases h; all_goals (intros; simp_all)
  | _ :: _, [], h => by rw [chkEs] at h; cases h; all_goals (intros; simp_all)
end RL
/-! RLMk: a class is called and its __init__ raises. -/
namespace RL
open PySem PySem.Spec PyProof.Rows L2
section
variable {X : Cx} {CX : CXT} {k : Nat} {f Ca : Addr} {fd : FuncData} {ps : List Str} {sp : Sp} {E : L2.St → XK} {x : Str} {p pos : Pos} {e : Expr} {es : List Expr} {t : TA}
theorem run_mkS {pins : List (Addr × Obj)} {σ : L2.St} {H : Hp} {s : Shared} {Q : VK} {us : List Value} {vs : List V} (M : Mk X.K Ca f) (F : FnOk X.prog X.w X.K X.mg X.base CX k f fd ps sp) (room : Room (k + 1) X.A) (hb : Binds X.K fd ps []) (hx : PassesAt CX X σ (E σ))
    (I : Inv X pins σ H s) (r : Vals vs us) (h : ∀ y dy, H y = none → H dy = none → dy ≠ y → sp (.ref y :: vs) (upd (upd H dy (.own y)) y (.ins Ca dy [])) (fun _ _ => False) (E σ)) :
    wpAny (model X.prog X.w) X.A (call (.ref Ca) us) (EP X pins σ Q) X.xe s := by
  have hq := h (s.heap.objs.size + 1) s.heap.objs.size (I.hok.fresh (Nat.le_succ _)) (I.hok.fresh (Nat.le_refl _)) (Nat.ne_of_lt (Nat.lt_succ_self _))
  have I2 := Inv.made (C := Ca) I
  have r2 : Vals (V.ref (s.heap.objs.size + 1) :: vs) (Value.ref (s.heap.objs.size + 1) :: us) := .cons rfl r
  have hl : (Value.ref (s.heap.objs.size + 1) :: us).length = ps.length := by rw [← r2.length]; exact F.len _ _ _ _ hq
  have b := hb { s with heap := (s.heap.push PySem.W.emptyDict).push (PySem.W.instObj Ca s.heap.objs.size) } (Value.ref (s.heap.objs.size + 1) :: us) I2.kIn (by rw [List.append_nil]; exact hl)
  rw [List.append_nil] at b
  refine wpAny_call (make_map (f := f) I.kIn M.makes M.init (beq_iff_eq.mp M.fn) (codeAny_mono (F.run _ X.stack _ _ ⟨Value.ref (s.heap.objs.size + 1) :: us, []⟩ (Value.ref (s.heap.objs.size + 1) :: us) _ _ (E σ) (room.make Ca us []) (I2.env0.make Ca us []) b r2 hq) fun r s' hq' => ?_))
  match r, hq' with
  | .error e, hq' => exact hx pins _ _ e s' I2 hq'
  | .ok (.ret u), hq' =>
    obtain ⟨v, H', I3, rv, no⟩ := I2.after hq'
    exact no.elim
  | .ok .next, hq' => exact hq'.elim
  | .ok .brk, hq' => exact hq'.elim
  | .ok .cont, hq' => exact hq'.elim
/-- C(..), its __init__ ends or raises -/
theorem run_mk2 {pins : List (Addr × Obj)} {σ : L2.St} {H : Hp} {s : Shared} {Q : VK} {us : List Value} {vs : List V} (M : Mk X.K Ca f) (F : FnOk X.prog X.w X.K X.mg X.base CX k f fd ps sp) (room : Room (k + 1) X.A) (hb : Binds X.K fd ps []) (hx : PassesAt CX X σ (E σ))
    (I : Inv X pins σ H s) (r : Vals vs us) (h : ∀ y dy, H y = none → H dy = none → dy ≠ y → sp (.ref y :: vs) (upd (upd H dy (.own y)) y (.ins Ca dy [])) (fun v H2 => v = .non ∧ Q (.ref y) H2) (E σ)) :
    wpAny (model X.prog X.w) X.A (call (.ref Ca) us) (EP X pins σ Q) X.xe s := by
  have hq := h (s.heap.objs.size + 1) s.heap.objs.size (I.hok.fresh (Nat.le_succ _)) (I.hok.fresh (Nat.le_refl _)) (Nat.ne_of_lt (Nat.lt_succ_self _))
  have I2 := Inv.made (C := Ca) I
  have r2 : Vals (V.ref (s.heap.objs.size + 1) :: vs) (Value.ref (s.heap.objs.size + 1) :: us) := .cons rfl r
  have hl : (Value.ref (s.heap.objs.size + 1) :: us).length = ps.length := by rw [← r2.length]; exact F.len _ _ _ _ hq
  have b := hb { s with heap := (s.heap.push PySem.W.emptyDict).push (PySem.W.instObj Ca s.heap.objs.size) } (Value.ref (s.heap.objs.size + 1) :: us) I2.kIn (by rw [List.append_nil]; exact hl)
  rw [List.append_nil] at b
  refine wpAny_call (make_map (f := f) I.kIn M.makes M.init (beq_iff_eq.mp M.fn) (codeAny_mono (F.run _ X.stack _ _ ⟨Value.ref (s.heap.objs.size + 1) :: us, []⟩ (Value.ref (s.heap.objs.size + 1) :: us) _ _ (E σ) (room.make Ca us []) (I2.env0.make Ca us []) b r2 hq) fun r s' hq' => ?_))
  match r, hq' with
  | .error e, hq' => exact hx pins _ _ e s' I2 hq'
  | .ok (.ret u), hq' =>
    obtain ⟨v, H', I3, rv, ev, q3⟩ := I2.after hq'
    subst ev
    exact ⟨rv, ⟨V.ref (s.heap.objs.size + 1), H', I3, rfl, q3⟩⟩
  | .ok .next, hq' => exact hq'.elim
  | .ok .brk, hq' => exact hq'.elim
  | .ok .cont, hq' => exact hq'.elim
def tMk2 (Ca : Addr) (sp : Sp) (E : L2.St → XK) (t : TA) : TE := fun σ H Q => t σ H fun vs H1 => ∀ y dy, H1 y = none → H1 dy = none → dy ≠ y → sp (.ref y :: vs) (upd (upd H1 dy (.own y)) y (.ins Ca dy [])) (fun v H2 => v = .non ∧ Q (.ref y) H2) (E σ)
theorem pe_mk2 (M : Mk X.K Ca f) (F : FnOk X.prog X.w X.K X.mg X.base CX k f fd ps sp) (room : Room (k + 1) X.A) (hg : Gl X x) (hm : X.mg x = some (.ref Ca)) (hb : Binds X.K fd ps []) (hx : ∀ σ, PassesAt CX X σ (E σ)) (ha : PA X (e :: es) t)
    (hdb : (x == ("__debug__" : Str)) = false) (he : starEach (e :: es) X.env = (false, eval e X.env) :: starEach es X.env) (hpl : (backTo pos (starEach es X.env)).any (·.1) = false) : PE X (.Call (.Name x p) (e :: es) [] pos) (tMk2 Ca sp E t) := by
  refine ⟨fun pins s σ H Q I h => wpAny_Call_Name_kw (ld_glob I hg hm ?_ hdb)⟩
  exact PySem.W.callWith_K (h₀ := X.base) I.ok.mod.kin M.kp (thn (ha.run pos pins s σ H _ I h) fun us s1 ⟨vs, H1, I1, r, q⟩ => ⟨I1.kIn, run_mk2 M F room hb (hx σ) I1 r q⟩) he hpl
/-- o.m(), what it raises told by the slots -/
theorem pe_methS0 {Cc : Addr} {m : Str} {o : Expr} {ta : TE} {apos : Pos} {pl : Sem Bool} (he : PE X o ta) (c : Cls X.K Cc) (hm : Meth X.K Cc m f) (F : FnOk X.prog X.w X.K X.mg X.base CX k f fd ps sp) (hr : Room k X.A) (hb : Binds X.K fd ps []) (hx : ∀ σ, PassesAt CX X σ (E σ))
    (ht : eval (.Call (.Attribute o m apos) [] [] pos) X.env = (do
      let ov ← eval o X.env
      standAt apos.atName
      let (f, first) ← holding [ov] (getMethod ov m pl)
      callWith pos f first (backTo pos (starEach [] X.env)) (backToKw pos (keywordEach [] X.env)))) :
    PE X (.Call (.Attribute o m apos) [] [] pos) (fun σ H Q => ta σ H fun x H1 => ∃ a dx fs, x = .ref a ∧ H1 a = some (.ins Cc dx fs) ∧ fs.lookup m = none ∧ sp [x] H1 Q (E σ)) := by
  refine ⟨fun pins s σ H Q I h => ?_⟩
  refine PySem.W.methodCall_KW (pl := pl) (thn (he.run pins s σ H _ I h) fun u s1 ⟨x, H1, I1, rx, a, dx, fs, ex, ea, l, q⟩ => ?_) ht
  subst ex
  obtain rfl : u = Value.ref a := rx
  refine getmeth_ok I1 ea c hm l ?_
  exact PySem.W.callWith_K0 (first := [.ref a]) I1.kIn hm.kp (run_fnS (us := [.ref a]) (vs := [.ref a]) F hr hb (hx σ) I1 (.cons rfl .nil) q)
def tMkS (Ca : Addr) (sp : Sp) (E : L2.St → XK) (t : TA) : TE := fun σ H _ => t σ H fun vs H1 => ∀ y dy, H1 y = none → H1 dy = none → dy ≠ y → sp (.ref y :: vs) (upd (upd H1 dy (.own y)) y (.ins Ca dy [])) (fun _ _ => False) (E σ)
theorem pe_mkS (M : Mk X.K Ca f) (F : FnOk X.prog X.w X.K X.mg X.base CX k f fd ps sp) (room : Room (k + 1) X.A) (hg : Gl X x) (hm : X.mg x = some (.ref Ca)) (hb : Binds X.K fd ps []) (hx : ∀ σ, PassesAt CX X σ (E σ)) (ha : PA X (e :: es) t)
    (hdb : (x == ("__debug__" : Str)) = false) (he : starEach (e :: es) X.env = (false, eval e X.env) :: starEach es X.env) (hpl : (backTo pos (starEach es X.env)).any (·.1) = false) : PE X (.Call (.Name x p) (e :: es) [] pos) (tMkS Ca sp E t) := by
  refine ⟨fun pins s σ H Q I h => wpAny_Call_Name_kw (ld_glob I hg hm ?_ hdb)⟩
  exact PySem.W.callWith_K (h₀ := X.base) I.ok.mod.kin M.kp (thn (ha.run pos pins s σ H _ I h) fun us s1 ⟨vs, H1, I1, r, q⟩ => ⟨I1.kIn, run_mkS M F room hb (hx σ) I1 r q⟩) he hpl
/-- the arguments' end cannot come -/
theorem pe_mkB (hk : PySem.W.keepIn X.K (.ref Ca) = true) (hg : Gl X x) (hm : X.mg x = some (.ref Ca)) (ha : PA X (e :: es) t)
    (hdb : (x == ("__debug__" : Str)) = false) (he : starEach (e :: es) X.env = (false, eval e X.env) :: starEach es X.env) (hpl : (backTo pos (starEach es X.env)).any (·.1) = false) : PE X (.Call (.Name x p) (e :: es) [] pos) (fun σ H _ => t σ H fun _ _ => False) := by
  refine ⟨fun pins s σ H Q I h => wpAny_Call_Name_kw (ld_glob I hg hm ?_ hdb)⟩
  exact PySem.W.callWith_K (h₀ := X.base) I.ok.mod.kin hk (thn (ha.run pos pins s σ H _ I h) fun us s1 ⟨vs, H1, I1, r, q⟩ => q.elim) he hpl
end
end RL
/-! RLIter: what a loop or a comprehension walks; targets. -/
namespace RL
open PySem PySem.Spec PyProof.Rows L2

/-- an item: frozen data, or a new pair of data -/
def Iw (K : W.Frag) (F H : Hp) (x : V) (d : D) : Prop := Dq K F x d ∨ ∃ a vs ds, x = .ref a ∧ d = .tuple ds ∧ H a = some (.tup vs) ∧ DqAll K F vs ds
/-- the iterator yields these items while B stands -/
structure JOk (K : W.Frag) (z : Bool) (J : It) (F B : Hp) (its : List D) : Prop where
  go : ∀ (i : Nat) H, Same B H → i < its.length → J.go i H
  stop : ∀ (i : Nat) H, Same B H → its.length ≤ i → J.stop i H
  yld : ∀ (i : Nat) H x H', Same B H → i < its.length → J.yld i H x H' → ∃ d, its[i]? = some d ∧ Same H H' ∧ (Dq K F x d ∨ z = true ∧ Iw K F H' x d)
section
variable {K : W.Frag} {F B : Hp} {a : Addr} {vs : List V} {ds : List D} {z : Bool}
theorem jok_list (h : Rd B a (.lst vs)) (r : DqAll K F vs ds) : JOk K z (Itl K a) F B ds where
  go := fun i H s hi => by
    obtain ⟨v, e, _⟩ := r.get (List.getElem?_eq_getElem hi)
    exact ⟨vs, v, .inl (Rd.mono s h), e⟩
  stop := fun i H s hi => ⟨vs, .inl (Rd.mono s h), by rw [r.length]; exact hi⟩
  yld := fun i H x H' s hi y => by
    obtain ⟨rfl, y⟩ := y
    obtain ⟨d, e, q⟩ := r.get' (y vs (.inl (Rd.mono s h)))
    exact ⟨d, e, Same.refl _, .inl q⟩
theorem jok_tup (h : SqT K B a vs) (r : DqAll K F vs ds) : JOk K z (Itt K a) F B ds where
  go := fun i H s hi => by
    obtain ⟨v, e, _⟩ := r.get (List.getElem?_eq_getElem hi)
    exact ⟨vs, v, sqT_mono s h, e⟩
  stop := fun i H s hi => ⟨vs, sqT_mono s h, by rw [r.length]; exact hi⟩
  yld := fun i H x H' s hi y => by
    obtain ⟨rfl, y⟩ := y
    obtain ⟨d, e, q⟩ := r.get' (y vs (sqT_mono s h))
    exact ⟨d, e, Same.refl _, .inl q⟩
theorem jok_range (lo : Int) (n : Nat) : JOk K z (Itr lo n) F B ((List.range n).map fun i => .int (lo + (i : Nat))) where
  go := fun i H s hi => by
    have : i < n := by simpa using hi
    exact this
  stop := fun i H s hi => by
    have : n ≤ i := by simpa using hi
    exact this
  yld := fun i H x H' s hi y => by
    obtain ⟨rfl, rfl⟩ := y
    have hi' : i < n := by simpa using hi
    exact ⟨.int (lo + i), by simp [hi'], Same.refl _, .inl (.int _)⟩
theorem get_zip {α β : Type} {xs : List α} {ys : List β} {i : Nat} {x : α} {y : β} (h1 : xs[i]? = some x) (h2 : ys[i]? = some y) : (xs.zip ys)[i]? = some (x, y) := by
  rw [List.getElem?_zip_eq_some]; exact ⟨h1, h2⟩
theorem jok_zipT {b : Addr} {us : List V} {es : List D} (h : SqT K B a vs) (r : DqAll K F vs ds) (h' : SqT K B b us) (r' : DqAll K F us es) : JOk K true (RZ.ItzT K a b) F B ((ds.zip es).map fun p => .tuple [p.1, p.2]) where
  go := fun i H s hi => by
    have hi' : i < ds.length ∧ i < es.length := by simpa [Nat.lt_min] using hi
    obtain ⟨v, e, _⟩ := r.get (List.getElem?_eq_getElem hi'.1)
    obtain ⟨v2, e2, _⟩ := r'.get (List.getElem?_eq_getElem hi'.2)
    exact ⟨vs, us, v, v2, sqT_mono s h, sqT_mono s h', e, e2⟩
  stop := fun i H s hi => by
    refine ⟨vs, us, sqT_mono s h, sqT_mono s h', ?_⟩
    have : min ds.length es.length ≤ i := by simpa using hi
    rw [r.length, r'.length]; omega
  yld := fun i H x H' s hi y => by
    obtain ⟨T, x1, y1, rfl, hn, rfl, hx, hy⟩ := y
    obtain ⟨d, e1, q1⟩ := r.get' (hx vs (sqT_mono s h))
    obtain ⟨d2, e2, q2⟩ := r'.get' (hy us (sqT_mono s h'))
    refine ⟨.tuple [d, d2], by rw [List.getElem?_map, get_zip e1 e2]; rfl, same_upd hn, .inr ⟨rfl, .inr ⟨T, _, _, rfl, rfl, upd_same, .cons q1 (.cons q2 .nil)⟩⟩⟩
theorem jok_zipL {b : Addr} {us : List V} {es : List D} (h : Rd B a (.lst vs)) (r : DqAll K F vs ds) (h' : Rd B b (.lst us)) (r' : DqAll K F us es) : JOk K true (Itz K a b) F B ((ds.zip es).map fun p => .tuple [p.1, p.2]) where
  go := fun i H s hi => by
    have hi' : i < ds.length ∧ i < es.length := by simpa [Nat.lt_min] using hi
    obtain ⟨v, e, _⟩ := r.get (List.getElem?_eq_getElem hi'.1)
    obtain ⟨v2, e2, _⟩ := r'.get (List.getElem?_eq_getElem hi'.2)
    exact ⟨vs, us, v, v2, .inl (Rd.mono s h), .inl (Rd.mono s h'), e, e2⟩
  stop := fun i H s hi => by
    refine ⟨vs, us, .inl (Rd.mono s h), .inl (Rd.mono s h'), ?_⟩
    have : min ds.length es.length ≤ i := by simpa using hi
    rw [r.length, r'.length]; omega
  yld := fun i H x H' s hi y => by
    obtain ⟨T, x1, y1, rfl, hn, rfl, hx, hy⟩ := y
    obtain ⟨d, e1, q1⟩ := r.get' (hx vs (.inl (Rd.mono s h)))
    obtain ⟨d2, e2, q2⟩ := r'.get' (hy us (.inl (Rd.mono s h')))
    refine ⟨.tuple [d, d2], by rw [List.getElem?_map, get_zip e1 e2]; rfl, same_upd hn, .inr ⟨rfl, .inr ⟨T, _, _, rfl, rfl, upd_same, .cons q1 (.cons q2 .nil)⟩⟩⟩
end

/-- a dict's keys -/
def ItD (a : Addr) (xs : List (List Key × Addr × Value)) (ep : Nat) : It :=
  ⟨fun i H => H a = some (.ext (dPhi a xs ep)) ∧ i < xs.length, fun i H x H' => H' = H ∧ ∃ y, xs[i]? = some y ∧ x = .ref y.2.1, fun i H => H a = some (.ext (dPhi a xs ep)) ∧ xs.length ≤ i⟩
theorem turn_dictT {P : Program} {w : World} {K : PySem.W.Frag} {tg : Expr} (a it : Addr) (xs : List (List Key × Addr × Value)) (ep : Nat) : Turn P w K tg (ItD a xs ep) [it] it (fun i h => h.IsKeyIter it a i xs.length ep) where
  mem := by simp
  obj := fun i h st b hb => by
    have e : b = it := by simpa using hb
    subst e
    obtain ⟨o, e, c, d⟩ := st
    exact ⟨o, e, fun v z => by rw [d] at z; cases z⟩
  keep := fun i h h' st k => st.at fun o e => k it (by simp) o e
  item := by
    intro X hP hw hK hc i pins s σ H E I hf st hg
    subst hP hw hK
    obtain ⟨ha, hi⟩ := hg
    obtain ⟨o, es, h1, h2, h3, h4, h5⟩ := dT_raw I ha
    have hsz : es.size = xs.length := by rw [← Array.length_toList, h4, List.length_map]
    have hlt : i < es.size := by rw [hsz]; exact hi
    have hkey : es[i].key = .ref xs[i].2.1 := by
      have e1 : es.toList[i]? = some es[i] := by rw [Array.getElem?_toList, Array.getElem?_eq_getElem hlt]
      rw [h4, List.getElem?_map, List.getElem?_eq_getElem hi] at e1
      have e2 := Option.some.inj e1
      rw [← e2]
    obtain ⟨f0, f1, f2, f3, f4, f5⟩ := hf it (by simp)
    refine wpAny_pyNext_keys_item_raw (es := es) (ep := ep) (by rw [hsz]; exact st) ⟨o, h1, h2, h3⟩ hlt fun h' st' sb => ?_
    rw [hsz] at st'
    have I1 : Inv X pins σ H { s with heap := h' } := I.turned (t' := s.toks) (fun b o hb e => (sb.2 b hb).trans e) f0 f1 f3 f4 f5
    obtain ⟨oi, e, c, d⟩ := id st'
    rw [hkey]
    exact ⟨_, rfl, go_of (s := { s with heap := h' }) e c d (by decide) ⟨.ref xs[i].2.1, H, I1, rfl, ⟨rfl, xs[i], List.getElem?_eq_getElem hi, rfl⟩, st', fun b hb => (hf b hb).1⟩⟩
  done := by
    intro X hP hw hK hc i pins s σ H E I hf st hg
    subst hP hw hK
    obtain ⟨ha, hi⟩ := hg
    obtain ⟨o, es, h1, h2, h3, h4, h5⟩ := dT_raw I ha
    have hsz : es.size = xs.length := by rw [← Array.length_toList, h4, List.length_map]
    obtain ⟨f0, f1, f2, f3, f4, f5⟩ := hf it (by simp)
    exact wpAny_pyNext_keys_end_raw (es := es) (ep := ep) (I.ok.hd hc) (by rw [hsz]; exact st) ⟨o, h1, h2, h3⟩ (by omega) fun h' eb => ⟨rfl, I.turned (t' := s.toks) (fun b o hb e => eb b o hb e) f0 f1 f3 f4 f5⟩
  self := fun _ _ _ _ _ st h => wpAny_pyIter_keyiter st h
theorem paired_at {α β : Type} {P : α → β → Prop} : ∀ {l : List α} {m : List β} {i : Nat} {y : β}, Paired P l m → m[i]? = some y → ∃ x, l[i]? = some x ∧ P x y
  | _, _, _, _, .nil, e => by simp at e
  | _, _, 0, _, .cons r _, e => by simp at e; subst e; exact ⟨_, rfl, r⟩
  | _, _, i + 1, y, .cons _ t, e => by
    obtain ⟨u, h1, h2⟩ := paired_at (i := i) (y := y) t (by simpa using e)
    exact ⟨u, by simpa using h1, h2⟩
theorem jok_dict {K : W.Frag} {F B : Hp} {a : Addr} {z : Bool} {xs : List (List Key × Addr × Value)} {ep : Nat} {kvs : List (List Int × D)} (h : B a = some (.ext (dPhi a xs ep))) (r : Paired (EnT K F) kvs xs) : JOk K z (ItD a xs ep) F B (kvs.map fun p => .tuple (p.1.map .int)) where
  go := fun i H s hi => ⟨s _ _ h, by rw [List.length_map, Paired.length r] at hi; exact hi⟩
  stop := fun i H s hi => ⟨s _ _ h, by rw [List.length_map, Paired.length r] at hi; exact hi⟩
  yld := fun i H x H' s hi y => by
    obtain ⟨rfl, y, e1, rfl⟩ := y
    obtain ⟨kv, e2, q1, q2, _⟩ := paired_at r e1
    exact ⟨_, by rw [List.getElem?_map, e2]; rfl, Same.refl _, .inl q2⟩
/-- a sequence is walked, a list or a tuple, or a dict -/
theorem pi_seq {X : Cx} {tg l : Expr} {tl : TE} (hl : PE X l tl) : PI X tg l (fun σ H R => tl σ H fun x H1 => ∃ a, x = .ref a ∧ ((∃ xs, SqL X.K H1 a xs) ∧ R (Itl X.K a) H1 ∨ (∃ xs, SqT X.K H1 a xs) ∧ R (Itt X.K a) H1 ∨ ∃ xs ep, H1 a = some (.ext (dPhi a xs ep)) ∧ R (ItD a xs ep) H1)) := by
  refine ⟨fun pins s σ H R I h => ?_⟩
  refine thn (hl.run pins s σ H _ I h) fun v s1 ⟨x, H1, I1, r1, q1⟩ => ?_
  obtain ⟨a, e, q1⟩ := q1
  subst e
  cases r1
  rcases q1 with ⟨⟨xs, hq⟩, q⟩ | ⟨⟨xs, hq⟩, q⟩ | ⟨xs, ep, hq, q⟩
  · obtain ⟨its, rv, p, hz⟩ := I1.list hq
    refine wpAny_pyIter_list p.isList ?_
    refine ⟨s1.heap.objs.size, [s1.heap.objs.size], _, _, H1, rfl, I1.kept (t' := s1.toks) fun b o e => Heap.get?_push_of_some _ e, turn_list a _, ⟨_, Heap.get?_push_size _ rfl, rfl, rfl⟩, fun b hb => ?_, q⟩
    have e : b = s1.heap.objs.size := by simpa using hb
    subst e
    exact I1.fpOk (Nat.le_refl _) (I1.hok.fresh (Nat.le_refl _))
  · obtain ⟨its, rv, p, hz⟩ := I1.tuple hq
    refine wpAny_pyIter_tuple (show s1.heap.IsTuple a its.toArray from p) ?_
    refine ⟨s1.heap.objs.size, [s1.heap.objs.size], _, _, H1, rfl, I1.kept (t' := s1.toks) fun b o e => Heap.get?_push_of_some _ e, turn_tuple a _, ⟨_, Heap.get?_push_size _ rfl, rfl, rfl⟩, fun b hb => ?_, q⟩
    have e : b = s1.heap.objs.size := by simpa using hb
    subst e
    exact I1.fpOk (Nat.le_refl _) (I1.hok.fresh (Nat.le_refl _))
  · obtain ⟨o, es, h1, h2, h3, h4, h5⟩ := dT_raw I1 hq
    have hsz : es.size = xs.length := by rw [← Array.length_toList, h4, List.length_map]
    refine wpAny_pyIter_dict_raw (es := es) (ep := ep) h5 ⟨o, h1, h2, h3⟩ ?_
    refine ⟨s1.heap.objs.size, [s1.heap.objs.size], _, _, H1, rfl, I1.kept (t' := s1.toks) fun b o e => Heap.get?_push_of_some _ e, turn_dictT a _ xs ep, ⟨_, Heap.get?_push_size _ rfl, rfl, by rw [hsz]; rfl⟩, fun b hb => ?_, q⟩
    have e : b = s1.heap.objs.size := by simpa using hb
    subst e
    exact I1.fpOk (Nat.le_refl _) (I1.hok.fresh (Nat.le_refl _))

/-- what is walked, by the evaluator: the items, while B stands (the frozen part, or all where a slot's own list is walked) -/
def tS (T : Tab) (X : Cx) (C : Cfg) (W : WX) (k : Sk) (a b : Ex) : TI := fun σ H R => ∃ F ρ, Rel X.K F σ H ρ ∧
  Post T X W σ F H (fun F' H' (r : Bool × List D) => ∀ J, JOk X.K (isZip k) J F' (if r.1 then H' else F') r.2 → R J H') ((ev C ρ a).bind fun x => (ev C ρ b).bind fun y => opt (itemsOf k x.2 y.2) fun its => .ok (x.1 || y.1, its))
theorem PI.imp {X : Cx} {tg e : Expr} {t t' : TI} (h : PI X tg e t) (hi : ∀ σ H Q, t' σ H Q → t σ H Q) : PI X tg e t' := ⟨fun pins s σ H Q I hw => h.run pins s σ H Q I (hi σ H Q hw)⟩

section
variable {T : Tab} {X : Cx} {C : Cfg} {W : WX} {a b : Ex} {N : List Str} {k : Nat} {sc : Scope}
/-- a slot's own list, or a frozen one, stands in B -/
theorem VR.listB {F H : Hp} {σ : L2.St} {ρ : Env} {x : V} {r : Bool × Vl} {ds : List D} (rel : Rel X.K F σ H ρ) (h : VR X.K F σ ρ x r) (e : r.2 = .dat (.list ds)) (c : Bool) :
    ∃ p vs, x = .ref p ∧ Rd (if r.1 || c then H else F) p (.lst vs) ∧ DqAll X.K F vs ds := by
  obtain ⟨o, v⟩ := r
  simp only at e
  subst e
  cases o with
  | false =>
    cases h with
    | lst hs ha =>
      refine ⟨_, _, rfl, ?_, ha⟩
      cases c with
      | false => exact hs
      | true => exact Rd.mono rel.sub hs
  | true =>
    rcases (VR.rv rel h).rd with q | ⟨p, vs, ds', e1, e2, e3, e4⟩
    · cases q with
      | lst hs ha => exact ⟨_, _, rfl, Rd.mono rel.sub hs, ha⟩
    · cases e2
      exact ⟨p, vs, e1, .inl e3, e4⟩
theorem VR.tupB {F H : Hp} {σ : L2.St} {ρ : Env} {x : V} {r : Bool × Vl} {ds : List D} (rel : Rel X.K F σ H ρ) (h : VR X.K F σ ρ x r) (e : r.2 = .dat (.tuple ds)) (c : Bool) :
    ∃ p vs, x = .ref p ∧ SqT X.K (if c then H else F) p vs ∧ DqAll X.K F vs ds := by
  have q := VR.rv rel h
  rw [e] at q
  obtain ⟨p, vs, e1, _, e3, e4⟩ := q.rd.tup rel.sub
  refine ⟨p, vs, e1, ?_, e4⟩
  cases c with
  | false => exact e3.sq
  | true => exact sqT_mono rel.sub e3.sq

theorem pi_items {tg it : Expr} (ha : PE X it (tE T X C W a)) : PI X tg it (tS T X C W .items a (.con .none)) := by
  refine PI.imp (pi_seq ha) fun σ H R ⟨F, ρ, rel, h⟩ => ?_
  refine tE_bind rel h fun r x F1 H1 e e1 rel1 v h1 => ?_
  obtain ⟨its, hi, h2⟩ := opt_post (show Post T X W σ F1 H1 _ (opt (itemsOf .items r.2 (.dat .none)) fun its => .ok (r.1 || false, its)) from h1)
  have h2 := h2 F1 H1 (Ext.refl rel1.sub)
  cases q : r.2 with
  | dat d =>
    rw [q] at hi
    cases d with
    | list xs =>
      cases ok_inj hi
      obtain ⟨p, vs, rfl, h3, h4⟩ := VR.listB rel1 v q false
      refine ⟨p, rfl, .inl ⟨⟨vs, ?_⟩, h2 _ (jok_list h3 h4)⟩⟩
      cases e5 : r.1 || false with
      | true => rw [e5] at h3; exact .inl h3
      | false => rw [e5] at h3; exact .inl (Rd.mono rel1.sub h3)
    | tuple xs =>
      cases ok_inj hi
      obtain ⟨p, vs, rfl, h3, h4⟩ := VR.tupB rel1 v q (r.1 || false)
      refine ⟨p, rfl, .inr (.inl ⟨⟨vs, ?_⟩, h2 _ (jok_tup h3 h4)⟩)⟩
      cases e5 : r.1 || false with
      | true => rw [e5] at h3; exact h3
      | false => rw [e5] at h3; exact sqT_mono rel1.sub h3
    | _ => cases hi
  | dI kvs => rw [q] at hi; cases hi
  | dT kvs =>
    rw [q] at hi
    cases ok_inj hi
    obtain ⟨rb, rv⟩ := r
    simp only at q
    subst q
    cases rb with
    | false =>
      obtain ⟨a, o, rfl, hF, c⟩ := v
      cases o with
      | ext φ =>
        obtain ⟨xs, ep, rfl, pr⟩ := c
        exact ⟨a, rfl, .inr (.inr ⟨xs, ep, rel1.sub _ _ hF, h2 _ (jok_dict hF pr)⟩)⟩
      | _ => exact c.elim
    | true =>
      obtain ⟨i, o1, o2⟩ := v
      obtain ⟨a, o, e1, e2, e3, c⟩ := rel1.own i _ o1
      rw [o2] at e1
      cases e1
      cases o with
      | ext φ =>
        obtain ⟨xs, ep, rfl, pr⟩ := c
        exact ⟨a, rfl, .inr (.inr ⟨xs, ep, e3, h2 _ (jok_dict e3 pr)⟩)⟩
      | _ => exact c.elim
  | exn c p => rw [q] at hi; cases hi

theorem rng_ok {n : Int} (h : rngOk n = true) : -(2 ^ 62) ≤ n ∧ n < 2 ^ 62 := by
  unfold rngOk at h
  simp only [Bool.and_eq_true, decide_eq_true_eq] at h
  exact ⟨Int.le_trans (by decide) h.1, Int.lt_of_le_of_lt h.2 (by decide)⟩
theorem pi_rg1 (ok : Ok T N k C sc X W) {tg p : Expr} {np pos : Pos} (hg : glB sc "range" = true) (hs : isStar p = false) (ha : PE X p (tE T X C W a)) : PI X tg (.Call (.Name "range" np) [p] [] pos) (tS T X C W .rg1 a (.con .none)) := by
  refine PI.imp (pi_range1 (glB_ok ok.sc hg) (ok.wd.blt _ (by simp [bltNames])) (pa_cons ha pa_nil (star_cons hs)) (star_cons hs)) fun σ H R ⟨F, ρ, rel, h⟩ => ?_
  refine tE_bind rel h fun r x F1 H1 e e1 rel1 v h1 => ?_
  obtain ⟨its, hi, h2⟩ := opt_post (show Post T X W σ F1 H1 _ (opt (itemsOf .rg1 r.2 (.dat .none)) fun its => .ok (r.1 || false, its)) from h1)
  have h2 := h2 F1 H1 (Ext.refl rel1.sub)
  cases q : r.2 with
  | dat d =>
    rw [q] at hi
    cases d with
    | int n =>
      obtain ⟨g, hi⟩ := grd_ok hi
      cases ok_inj hi
      have g := rng_ok g
      have z := VR.rv rel1 v
      rw [q] at z
      have ex := z.rd.int
      subst ex
      refine ⟨n, rfl, g.1, g.2, h2 _ ?_⟩
      have j := jok_range (z := isZip .rg1) (K := X.K) (F := F1) (B := if (r.1 || false) then H1 else F1) 0 n.toNat
      simpa using j
    | _ => cases hi
  | _ => rw [q] at hi; cases hi
theorem pi_rg2 (ok : Ok T N k C sc X W) {tg p q : Expr} {np pos : Pos} (hg : glB sc "range" = true) (hs : isStar p = false) (hs2 : isStar q = false) (ha : PE X p (tE T X C W a)) (hb : PE X q (tE T X C W b)) :
    PI X tg (.Call (.Name "range" np) [p, q] [] pos) (tS T X C W .rg2 a b) := by
  refine PI.imp (pi_range2 (glB_ok ok.sc hg) (ok.wd.blt _ (by simp [bltNames])) (pa_cons ha (pa_cons hb pa_nil (star_cons hs2)) (star_cons hs)) (by rw [star_cons hs, star_cons hs2]; rfl) (by rw [star_cons hs2]; rfl)) fun σ H R ⟨F, ρ, rel, h⟩ => ?_
  refine tE_bind rel h fun r x F1 H1 e e1 rel1 v h1 => ?_
  refine tE_bind rel1 h1 fun r2 y F2 H2 e2 e3 rel2 v2 h2 => ?_
  obtain ⟨its, hi, h3⟩ := opt_post h2
  have h3 := h3 F2 H2 (Ext.refl rel2.sub)
  have v := VR.mono e3 v
  cases q : r.2 with
  | dat d =>
    cases q2 : r2.2 with
    | dat d2 =>
      rw [q, q2] at hi
      cases d with
      | int m =>
        cases d2 with
        | int n =>
          obtain ⟨g, hi⟩ := grd_ok hi
          cases ok_inj hi
          rw [Bool.and_eq_true] at g
          have g1 := rng_ok g.1
          have g2 := rng_ok g.2
          have z := VR.rv rel2 v
          rw [q] at z
          have ex := z.rd.int
          have z2 := VR.rv rel2 v2
          rw [q2] at z2
          have ey := z2.rd.int
          subst ex ey
          exact ⟨m, n, rfl, ⟨g1.1, g1.2, g2.1, g2.2⟩, h3 _ (jok_range _ _)⟩
        | _ => cases hi
      | _ => cases d2 <;> cases hi
    | _ => rw [q, q2] at hi; cases d <;> cases hi
  | _ => rw [q] at hi; cases hi
theorem pi_zipG (ok : Ok T N k C sc X W) {p q : Expr} {elts : List Expr} {kk : Nat} {tpos np pos : Pos} (hg : glB sc "zip" = true) (hs : isStar p = false) (hs2 : isStar q = false) (ha : PE X p (tE T X C W a)) (hb : PE X q (tE T X C W b)) :
    PI X (.Tuple elts kk tpos) (.Call (.Name "zip" np) [p, q] [] pos) (tS T X C W .zip a b) := by
  refine PI.imp (RZ.pi_zipA (glB_ok ok.sc hg) (ok.wd.blt _ (by simp [bltNames])) (pa_cons ha (pa_cons hb pa_nil (star_cons hs2)) (star_cons hs)) (star_cons hs) (by rw [star_cons hs2]; rfl)) fun σ H R ⟨F, ρ, rel, h⟩ => ?_
  refine tE_bind rel h fun r x F1 H1 e e1 rel1 v h1 => ?_
  refine tE_bind rel1 h1 fun r2 y F2 H2 e2 e3 rel2 v2 h2 => ?_
  obtain ⟨its, hi, h3⟩ := opt_post h2
  have h3 := h3 F2 H2 (Ext.refl rel2.sub)
  have v := VR.mono e3 v
  cases q : r.2 with
  | dat d =>
    cases q2 : r2.2 with
    | dat d2 =>
      rw [q, q2] at hi
      cases d with
      | list xs =>
        cases d2 with
        | list ys =>
          cases ok_inj hi
          obtain ⟨p1, vs, rfl, t1, d1⟩ := VR.listB rel2 v q r2.1
          obtain ⟨p2, us, rfl, t2, d2⟩ := VR.listB rel2 v2 q2 r.1
          rw [Bool.or_comm] at t2
          refine ⟨p1, p2, vs, us, rfl, .inl ⟨?_, ?_, h3 _ (jok_zipL t1 d1 t2 d2)⟩⟩
          · cases e5 : r.1 || r2.1 with
            | true => rw [e5] at t1; exact .inl t1
            | false => rw [e5] at t1; exact .inl (Rd.mono rel2.sub t1)
          · cases e5 : r.1 || r2.1 with
            | true => rw [e5] at t2; exact .inl t2
            | false => rw [e5] at t2; exact .inl (Rd.mono rel2.sub t2)
        | _ => cases hi
      | tuple xs =>
        cases d2 with
        | tuple ys =>
          cases ok_inj hi
          obtain ⟨p1, vs, rfl, t1, d1⟩ := VR.tupB rel2 v q (r.1 || r2.1)
          obtain ⟨p2, us, rfl, t2, d2⟩ := VR.tupB rel2 v2 q2 (r.1 || r2.1)
          refine ⟨p1, p2, vs, us, rfl, .inr ⟨?_, ?_, h3 _ (jok_zipT t1 d1 t2 d2)⟩⟩
          · cases e5 : r.1 || r2.1 with
            | true => rw [e5] at t1; exact t1
            | false => rw [e5] at t1; exact sqT_mono rel2.sub t1
          · cases e5 : r.1 || r2.1 with
            | true => rw [e5] at t2; exact t2
            | false => rw [e5] at t2; exact sqT_mono rel2.sub t2
        | _ => cases hi
      | _ => cases d2 <;> cases hi
    | _ => rw [q, q2] at hi; cases d <;> cases hi
  | _ => rw [q] at hi; cases hi
end
end RL
/-! RLEnum: enumerate of a list or a tuple. -/
namespace RL
open PySem PySem.Spec PyProof.Rows L2
theorem meets_enumT (l : Addr) (items : Array Value) (n : Nat) (dct : Option Addr) (sl : Array (Option Value)) :
    Meets (Builtin.«enumerate.__new__» ⟨[.type "enumerate", .ref l], []⟩) (fun _ R s => s.heap.get? l = some { cls := .type "tuple", dict := dct, data := .seq items n, slots := sl } ∧
      R (.ok (.ret (.ref (s.heap.push { cls := .type "tuple_iterator", data := .fields #[.ref l, .int 0 0] }).objs.size)))
        { s with heap := (s.heap.push { cls := .type "tuple_iterator", data := .fields #[.ref l, .int 0 0] }).push { cls := .type "enumerate", data := .fields #[.none, .bool false, .ref s.heap.objs.size, rawInt 0, .none, .none] } }) :=
  .of_wp fun prog w A R s h => by
    obtain ⟨hp, g, d, tk, os⟩ := s; obtain ⟨hl, h⟩ := h
    have hsub := sub_enumerate
    have hL : Heap.IsTuple (Shared.heap ⟨hp, g, d, tk, os⟩) l items := ⟨_, hl, rfl, n, rfl⟩
    wp_walk using AutoSeq1.wpAny_loadPart' hl
    refine wpAny_stack_any fun st => wpAny_pure ?_
    split
    · rename_i c _ _ _ _ _
      cases (c == Value.type "enumerate")
      · wp_walk using AutoSeq1.wpAny_loadPart' hl, wpAny_pyIter_tuple hL
        exact ⟨_, rfl, h⟩
      · wp_walk using AutoSeq1.wpAny_loadPart' hl, wpAny_pyIter_tuple hL
        exact ⟨_, rfl, h⟩
    · wp_walk using AutoSeq1.wpAny_loadPart' hl, wpAny_pyIter_tuple hL
      exact ⟨_, rfl, h⟩
theorem call_enumT {prog : Program} {w : World} {A : Around} {E : Value → Shared → Prop} {s : Shared} {l : Addr} {items : Array Value} {Q : Value → Shared → Prop} (hL : s.heap.IsTuple l items)
    (h : ∀ h', IsEnum h' (s.heap.objs.size + 1) s.heap.objs.size 0 .none → h'.IsTupleIter s.heap.objs.size l 0 → h'.objs.size = s.heap.objs.size + 2 →
      (∀ b o, s.heap.get? b = some o → h'.get? b = some o) → Q (.ref (s.heap.objs.size + 1)) { s with heap := h' }) :
    wpAny (model prog w) A (call (.type "enumerate") [.ref l]) Q E s := by
  obtain ⟨⟨c, dct, dt, sl⟩, hl, hc, n, hd⟩ := hL
  replace hc : c = .type "tuple" := hc
  replace hd : dt = .seq items n := hd
  subst hc hd
  refine callType_new F.called_enumerate (by decide) (F.typeCall_enumerate_1 _) (F.newCall_enumerate_1 _) (fun obj => F.args_object_init_2 obj _) F.entry_enumerate_new
    (meets_enumT l items n dct sl) ⟨hl, ?_⟩
  have hz : (s.heap.push { cls := .type "tuple_iterator", data := .fields #[.ref l, .int 0 0] }).objs.size = s.heap.objs.size + 1 := Heap.size_push ..
  show _ ∧ _
  rw [hz]
  have he : IsEnum ((s.heap.push { cls := .type "tuple_iterator", data := .fields #[.ref l, .int 0 0] }).push
      { cls := .type "enumerate", data := .fields #[.none, .bool false, .ref s.heap.objs.size, rawInt 0, .none, .none] }) (s.heap.objs.size + 1) s.heap.objs.size 0 .none := by
    have := Heap.get?_push_size (s.heap.push { cls := .type "tuple_iterator", data := .fields #[.ref l, .int 0 0] })
      (o := { cls := .type "enumerate", data := .fields #[.none, .bool false, .ref s.heap.objs.size, rawInt 0, .none, .none] }) rfl
    rw [hz] at this; exact this
  refine ⟨⟨_, he, rfl⟩, h _ he ⟨_, Heap.get?_push_of_some _ (Heap.get?_push_size _ rfl), rfl, rfl⟩ (by rw [Heap.size_push, hz]) fun b o x => Heap.get?_push_of_some _ (Heap.get?_push_of_some _ x)⟩
theorem enumT_end {prog : Program} {w : World} {A : Around} {E : Value → Shared → Prop} {s : Shared} {e it t : Addr} {n : Nat} {items : Array Value} {i : Int} {old : Value} {Q : Option Value → Shared → Prop} (hh : A.handled = none)
    (he : IsEnum s.heap e it i old) (hit : s.heap.IsTupleIter it t n) (ht : s.heap.IsTuple t items) (hge : items[n]? = none)
    (hQ : ∀ h', Heap.ExtBut it s.heap h' → Q none { s with heap := h' }) : wpAny (model prog w) A (pyNext (.ref e)) Q E s := by
  have hT : s.TypeIs (.ref e) "enumerate" := ⟨_, he, rfl⟩
  unfold pyNext
  refine wpAny_bind (wpAny_attempt (wpAny_callSpecial?_slot (name := Str.ofString "__next__") hT F.slot_enumerate_next
    (wpAny_call_entry F.slot_enumerate_next hT F.entry_enumerate_next ?_ (F.args_enumerate_next_1 _))))
  show wpAny _ _ (field (.ref e) 2 >>= _) _ _ _
  refine wpAny_bind (wpAny_field he rfl (x := .ref it) rfl ?_)
  refine wpAny_bind (wpAny_nextOf_tuple_end hh hit ht hge fun h' x he' hx' => ?_)
  obtain ⟨o, ho, hc⟩ := hx'
  refine wpAny_bind (wpAny_isInstance (T := "StopIteration") (b := true) ⟨o, ho, hc⟩ isSubtype_stop ?_)
  exact wpAny_pure (hQ _ he')
/-- the tuple at a, each item in a new pair -/
def IteT (K : PySem.W.Frag) (a : Addr) : It :=
  ⟨fun i H => ∃ (xs : List V) (x : V), SqT K H a xs ∧ xs[i]? = some x, fun i H v H' => ∃ T x, v = .ref T ∧ H T = none ∧ H' = upd H T (.tup [.int (i : Nat), x]) ∧ ∀ xs, SqT K H a xs → xs[i]? = some x, fun i H => ∃ xs : List V, SqT K H a xs ∧ xs.length ≤ i⟩
theorem turn_enumT {P : Program} {w : World} {K : PySem.W.Frag} {elts : List Expr} {kk : Nat} {tpos : Pos} (a e it : Addr) :
    Turn P w K (.Tuple elts kk tpos) (IteT K a) [e, it] e (fun i h => (∃ old, IsEnum h e it ((i : Nat) : Int) old) ∧ h.IsTupleIter it a i ∧ e ≠ it) where
  mem := by simp
  obj := fun i h st b hb => by
    obtain ⟨⟨old, he⟩, ⟨o, ho, hc, hd⟩, _⟩ := st
    have e' : b = e ∨ b = it := by simpa using hb
    rcases e' with z | z
    · rw [z]; exact ⟨_, he, fun v q => nomatch q⟩
    · rw [z]; exact ⟨o, ho, fun v q => by rw [hd] at q; cases q⟩
  keep := fun i h h' st k => let ⟨⟨old, he⟩, hi, hne⟩ := st; ⟨⟨old, k e (by simp) _ he⟩, hi.at fun o q => k it (by simp) o q, hne⟩
  item := by
    intro X hP hw hK hc i pins s σ H E I hf st hg
    subst hP hw hK
    obtain ⟨⟨old, he⟩, hit, hne⟩ := st
    obtain ⟨xs, x, hq, hx⟩ := hg
    obtain ⟨its, rv, p, hz⟩ := I.tuple hq
    have p : s.heap.IsTuple a its.toArray := p
    obtain ⟨u, hu, ru⟩ := rv.get hx
    have hel : e < s.heap.objs.size := Heap.lt_size he
    have hil : it < s.heap.objs.size := by obtain ⟨_, q, _⟩ := hit; exact Heap.lt_size q
    have hai : a ≠ it := fun z => by
      obtain ⟨o1, q1, c1, _⟩ := p
      obtain ⟨o2, q2, c2, _⟩ := hit
      rw [z, q2] at q1
      cases q1
      rw [c2] at c1
      exact absurd c1 (by decide)
    have hae : e ≠ a := fun z => by
      obtain ⟨o1, q1, c1, _⟩ := p
      rw [← z, he] at q1
      cases q1
      have c1 : Value.type "enumerate" = Value.type "tuple" := c1
      exact absurd c1 (by decide)
    have hlen : i < its.toArray.size := by
      have : i < its.length := (List.getElem?_eq_some_iff.mp hu).1
      simpa using this
    have D := PySem.Draws.tuple (prog := X.prog) (w := X.w) (A := X.A.in1) (I.ok.hd hc) it a hai its.toArray
    refine wpAny_pyNext_enum_itemD D he ⟨hit, p⟩ hlen hne (by simp [hne, hae]) fun y h' tk hy ho hst hT hsz hk => ?_
    have ey : y = u := by
      have h1 : its[i]? = some y := by simpa using hy
      rw [hu] at h1
      cases h1; rfl
    subst ey
    refine ⟨_, rfl, wpAny_letOwnedTupleGo_enum (s := { s with heap := h', toks := tk + 1 }) ho fun h'' he' sb => ?_⟩
    have hT2 : h''.get? s.heap.objs.size = some { cls := .type "tuple", data := .seq #[.int i tk, y] } := (sb.2 _ (Nat.ne_of_gt hel)).trans hT
    have new : ObjOk X.prog X.w (upd H s.heap.objs.size (.tup [.int (i : Nat), x])) h'' s.heap.objs.size (.tup [.int (i : Nat), x]) :=
      ⟨by show 2 ≤ sizeLine; decide, [.int i tk, y], .cons ⟨_, rfl⟩ (.cons ru .nil), ⟨_, hT2, rfl, _, rfl⟩⟩
    have I1 : Inv X pins σ (upd H s.heap.objs.size (.tup [.int (i : Nat), x])) { s with heap := h'', toks := tk + 1 } :=
      I.turnedNew (ch := [e, it]) (fun b ob hb q => (sb.2 b (fun z => hb (by simp [z]))).trans (hk b ob (fun z => hb (by simp [z])) (fun z => hb (by simp [z])) q)) hf (Nat.le_refl _) new
    refine ⟨.ref s.heap.objs.size, _, I1, rfl, ⟨_, x, rfl, I.hok.fresh (Nat.le_refl _), rfl, fun ys hy => by rw [I.tuple_inj hy hq]; exact hx⟩, ⟨⟨y, ?_⟩, hst.1.at fun o q => (sb.2 it (Ne.symm hne)).trans q, hne⟩, fun b hb => ?_⟩
    · have e1 : ((i + 1 : Nat) : Int) = (i : Int) + 1 := by omega
      rw [e1]; exact he'
    · have hb' : b < s.heap.objs.size := by
        have e' : b = e ∨ b = it := by simpa using hb
        rcases e' with z | z
        · rw [z]; exact hel
        · rw [z]; exact hil
      rw [upd_ne (Nat.ne_of_lt hb')]
      exact (hf b hb).1
  done := by
    intro X hP hw hK hc i pins s σ H E I hf st hg
    subst hP hw hK
    obtain ⟨⟨old, he⟩, hit, hne⟩ := st
    obtain ⟨xs, hq, hx⟩ := hg
    obtain ⟨its, rv, p, hz⟩ := I.tuple hq
    have p : s.heap.IsTuple a its.toArray := p
    obtain ⟨f0, f1, f2, f3, f4, f5⟩ := hf it (by simp)
    have hl := rv.length
    exact enumT_end (I.ok.hd hc) he hit p (by simp; omega) fun h' eb => ⟨rfl, I.turned (t' := s.toks) (fun b o hb q => eb b o hb q) f0 f1 f3 f4 f5⟩
  self := fun A i s Q E st h => let ⟨⟨_, he⟩, _⟩ := st; wpAny_pyIter_enum he h

/-- enumerate of a list or a tuple -/
def iEnumA (K : PySem.W.Frag) (ta : TA) : TI := fun σ H R => ta σ H fun vs H1 => ∃ a xs, vs = [.ref a] ∧ (SqL K H1 a xs ∧ R (Ite K a) H1 ∨ SqT K H1 a xs ∧ R (IteT K a) H1)
theorem pi_enumA {X : Cx} {e : Expr} {ta : TA} {p pos tpos : Pos} {elts : List Expr} {kk : Nat} (hg : Gl X "enumerate") (hm : X.mg "enumerate" = none) (ha : PA X [e] ta) (hs : starEach [e] X.env = [(false, eval e X.env)] := by rfl) :
    PI X (.Tuple elts kk tpos) (.Call (.Name "enumerate" p) [e] [] pos) (iEnumA X.K ta) := by
  refine ⟨fun pins s σ H R I h => ?_⟩
  refine Call_ (ld_blt I hg hm boot_enumerate (PyProof.Rows.callWith_type1 (thn (ha.run pos pins s σ H _ I h) fun us s1 ⟨vs, H1, I1, r1, q1⟩ => ?_) hs rfl))
  obtain ⟨a, xs, ex, q1⟩ := q1
  subst ex
  cases r1 with
  | cons r rr =>
    cases rr
    cases r
    have fpo : ∀ b, b ∈ [s1.heap.objs.size + 1, s1.heap.objs.size] → s1.heap.objs.size ≤ b := fun b hb => by
      have e' : b = s1.heap.objs.size + 1 ∨ b = s1.heap.objs.size := by simpa using hb
      rcases e' with z | z
      · rw [z]; exact Nat.le_add_right _ _
      · rw [z]; exact Nat.le_refl _
    rcases q1 with ⟨hq, q⟩ | ⟨hq, q⟩
    · obtain ⟨its, rv, p', hz⟩ := I1.list hq
      refine call_enumerate_list p'.isList fun h' he hit hsz hk => wpAny_pyIter_enum he ?_
      have I2 : Inv X pins σ H1 { s1 with heap := h' } := I1.kept (t' := s1.toks) hk
      exact ⟨s1.heap.objs.size + 1, [s1.heap.objs.size + 1, s1.heap.objs.size], _, _, H1, rfl, I2, turn_enum a (s1.heap.objs.size + 1) s1.heap.objs.size, ⟨⟨.none, he⟩, hit, Nat.succ_ne_self _⟩, fun b hb => I1.fpOk (fpo b hb) (I1.hok.fresh (fpo b hb)), q⟩
    · obtain ⟨its, rv, p', hz⟩ := I1.tuple hq
      have p' : s1.heap.IsTuple a its.toArray := p'
      refine call_enumT p' fun h' he hit hsz hk => wpAny_pyIter_enum he ?_
      have I2 : Inv X pins σ H1 { s1 with heap := h' } := I1.kept (t' := s1.toks) hk
      exact ⟨s1.heap.objs.size + 1, [s1.heap.objs.size + 1, s1.heap.objs.size], _, _, H1, rfl, I2, turn_enumT a (s1.heap.objs.size + 1) s1.heap.objs.size, ⟨⟨.none, he⟩, hit, Nat.succ_ne_self _⟩, fun b hb => I1.fpOk (fpo b hb) (I1.hok.fresh (fpo b hb)), q⟩
section
variable {K : W.Frag} {F B : Hp} {a : Addr} {vs : List V} {ds : List D}
theorem get_enum {ds : List D} {i : Nat} {d : D} (h : ds[i]? = some d) : ((List.range ds.length).zip ds |>.map fun p => PyData.tuple [.int (p.1 : Nat), p.2])[i]? = some (.tuple [.int (i : Nat), d]) := by
  have hi : i < ds.length := (List.getElem?_eq_some_iff.mp h).1
  rw [List.getElem?_map, get_zip (List.getElem?_range hi) h]
  rfl
theorem enum_len {ds : List D} : ((List.range ds.length).zip ds |>.map fun p => PyData.tuple [.int (p.1 : Nat), p.2]).length = ds.length := by simp
theorem jok_enumL (h : Rd B a (.lst vs)) (r : DqAll K F vs ds) : JOk K true (Ite K a) F B ((List.range ds.length).zip ds |>.map fun p => .tuple [.int (p.1 : Nat), p.2]) where
  go := fun i H s hi => by
    rw [enum_len] at hi
    obtain ⟨v, e, _⟩ := r.get (List.getElem?_eq_getElem hi)
    exact ⟨vs, v, .inl (Rd.mono s h), e⟩
  stop := fun i H s hi => ⟨vs, .inl (Rd.mono s h), by rw [enum_len] at hi; rw [r.length]; exact hi⟩
  yld := fun i H x H' s hi y => by
    obtain ⟨T, x1, rfl, hn, rfl, hx⟩ := y
    obtain ⟨d, e, q⟩ := r.get' (hx vs (.inl (Rd.mono s h)))
    exact ⟨_, get_enum e, same_upd hn, .inr ⟨rfl, .inr ⟨T, _, _, rfl, rfl, upd_same, .cons (.int _) (.cons q .nil)⟩⟩⟩
theorem jok_enumT (h : SqT K B a vs) (r : DqAll K F vs ds) : JOk K true (IteT K a) F B ((List.range ds.length).zip ds |>.map fun p => .tuple [.int (p.1 : Nat), p.2]) where
  go := fun i H s hi => by
    rw [enum_len] at hi
    obtain ⟨v, e, _⟩ := r.get (List.getElem?_eq_getElem hi)
    exact ⟨vs, v, sqT_mono s h, e⟩
  stop := fun i H s hi => ⟨vs, sqT_mono s h, by rw [enum_len] at hi; rw [r.length]; exact hi⟩
  yld := fun i H x H' s hi y => by
    obtain ⟨T, x1, rfl, hn, rfl, hx⟩ := y
    obtain ⟨d, e, q⟩ := r.get' (hx vs (sqT_mono s h))
    exact ⟨_, get_enum e, same_upd hn, .inr ⟨rfl, .inr ⟨T, _, _, rfl, rfl, upd_same, .cons (.int _) (.cons q .nil)⟩⟩⟩
end
section
variable {T : Tab} {X : Cx} {C : Cfg} {W : WX} {a b : Ex} {N : List Str} {k : Nat} {sc : Scope}
theorem pi_enm (ok : Ok T N k C sc X W) {p : Expr} {elts : List Expr} {kk : Nat} {tpos np pos : Pos} (hg : glB sc "enumerate" = true) (hs : isStar p = false) (ha : PE X p (tE T X C W a)) :
    PI X (.Tuple elts kk tpos) (.Call (.Name "enumerate" np) [p] [] pos) (tS T X C W .enm a (.con .none)) := by
  refine PI.imp (pi_enumA (glB_ok ok.sc hg) (ok.wd.blt _ (by simp [bltNames])) (pa_cons ha pa_nil (star_cons hs)) (star_cons hs)) fun σ H R ⟨F, ρ, rel, h⟩ => ?_
  refine tE_bind rel h fun r x F1 H1 e e1 rel1 v h1 => ?_
  obtain ⟨its, hi, h2⟩ := opt_post (show Post T X W σ F1 H1 _ (opt (itemsOf .enm r.2 (.dat .none)) fun its => .ok (r.1 || false, its)) from h1)
  have h2 := h2 F1 H1 (Ext.refl rel1.sub)
  cases q : r.2 with
  | dat d =>
    rw [q] at hi
    cases d with
    | list xs =>
      cases ok_inj hi
      obtain ⟨p, vs, rfl, h3, h4⟩ := VR.listB rel1 v q false
      refine ⟨p, vs, rfl, .inl ⟨?_, h2 _ (jok_enumL h3 h4)⟩⟩
      cases e5 : r.1 || false with
      | true => rw [e5] at h3; exact .inl h3
      | false => rw [e5] at h3; exact .inl (Rd.mono rel1.sub h3)
    | tuple xs =>
      cases ok_inj hi
      obtain ⟨p, vs, rfl, h3, h4⟩ := VR.tupB rel1 v q (r.1 || false)
      refine ⟨p, vs, rfl, .inr ⟨?_, h2 _ (jok_enumT h3 h4)⟩⟩
      cases e5 : r.1 || false with
      | true => rw [e5] at h3; exact h3
      | false => rw [e5] at h3; exact sqT_mono rel1.sub h3
    | _ => cases hi
  | _ => rw [q] at hi; cases hi
end
end RL
/-! RLExpr: an expression that passes the check is read as the evaluator tells. -/
namespace RL
open PySem PySem.Spec PyProof.Rows L2

/-! ### slots and targets -/
section
variable {K : W.Frag} {F H : Hp} {σ : L2.St} {ρ : Env} {x : V} {v : Vl} {i : Nat}
theorem get_set {α : Type} {l : List α} {i j : Nat} {a b : α} (h : (l.set i a)[j]? = some b) : (j = i ∧ b = a ∧ i < l.length) ∨ (j ≠ i ∧ l[j]? = some b) := by
  by_cases e : j = i
  · subst e
    have hl : j < l.length := by
      have := (List.getElem?_eq_some_iff.mp h).1
      simpa using this
    rw [List.getElem?_set_self hl] at h
    exact .inl ⟨rfl, (Option.some.inj h).symm, hl⟩
  · rw [List.getElem?_set_ne (fun z => e z.symm)] at h
    exact .inr ⟨e, h⟩
theorem Rel.setVal (r : Rel K F σ H ρ) (h : Frep K F x v) (i : Nat) : Rel K F (σ.set i (some x)) H (ρ.set i (some (.val v))) where
  sub := r.sub
  len := by simp [r.len]
  val := fun j u hj => by
    rcases get_set hj with ⟨rfl, e, hl⟩ | ⟨hne, e⟩
    · cases e
      exact ⟨x, by rw [List.getElem?_set_self (by rw [r.len]; exact hl)], h⟩
    · rw [List.getElem?_set_ne (fun z => hne z.symm)]
      exact r.val j u e
  own := fun j u hj => by
    rcases get_set hj with ⟨rfl, e, hl⟩ | ⟨hne, e⟩
    · cases e
    · rw [List.getElem?_set_ne (fun z => hne z.symm)]
      exact r.own j u e
  dis := fun j k u w a hjk hj hk h1 => by
    rcases get_set hj with ⟨rfl, e, hl⟩ | ⟨hne, e⟩
    · cases e
    · rcases get_set hk with ⟨rfl, e2, hl⟩ | ⟨hne2, e2⟩
      · cases e2
      · rw [List.getElem?_set_ne (fun z => hne z.symm)] at h1
        rw [List.getElem?_set_ne (fun z => hne2 z.symm)]
        exact r.dis j k u w a hjk e e2 h1
end
/-- what a target's store leaves -/
structure TgP (sl : List Nat) (σ : L2.St) (ρ : Env) (σ' : L2.St) (ρ' : Env) : Prop where
  len : σ'.length = σ.length
  keep : ∀ j : Nat, j ∉ sl → σ'[j]? = σ[j]?
  own : ∀ (j : Nat) v, ρ'[j]? = some (some (.own v)) → ρ[j]? = some (some (.own v)) ∧ σ'[j]? = σ[j]?
theorem TgP.trans {s1 s2 : List Nat} {σ σ1 σ2 : L2.St} {ρ ρ1 ρ2 : Env} (a : TgP s1 σ ρ σ1 ρ1) (b : TgP s2 σ1 ρ1 σ2 ρ2) : TgP (s1 ++ s2) σ ρ σ2 ρ2 where
  len := b.len.trans a.len
  keep := fun j hj => by
    rw [List.mem_append, not_or] at hj
    exact (b.keep j hj.2).trans (a.keep j hj.1)
  own := fun j v h => by
    obtain ⟨h1, h2⟩ := b.own j v h
    obtain ⟨h3, h4⟩ := a.own j v h1
    exact ⟨h3, h2.trans h4⟩
/-- what a target asks of the item -/
def Ifor (K : W.Frag) (F H : Hp) (x : V) (d : D) : Tg → Prop
  | .one _ => Dq K F x d
  | .many _ => Iw K F H x d
theorem Ifor.of {K : W.Frag} {F H : Hp} {x : V} {d : D} (t : Tg) (h : Dq K F x d) : Ifor K F H x d t := by
  cases t with
  | one _ => exact h
  | many _ => exact .inl h
def tG (X : Cx) (t : Tg) : TG := fun v σ H Q => ∃ F ρ d ρ', Rel X.K F σ H ρ ∧ Ifor X.K F H v d t ∧ bindTg ρ d t = some ρ' ∧ ∀ σ', Rel X.K F σ' H ρ' → TgP (tgSlots t) σ ρ σ' ρ' → Q σ' H
def tGs (X : Cx) (l : List Tg) : TGs := fun vs σ H Q => ∃ F ρ ds ρ', Rel X.K F σ H ρ ∧ DqAll X.K F vs ds ∧ bindTgs ρ ds l = some ρ' ∧ ∀ σ', Rel X.K F σ' H ρ' → TgP (tgsSlots l) σ ρ σ' ρ' → Q σ' H
theorem PG.imp {X : Cx} {e : Expr} {t t' : TG} (h : PG X e t) (hi : ∀ v σ H Q, t' v σ H Q → t v σ H Q) : PG X e t' := ⟨fun pins s σ H v u Q I r hw => h.run pins s σ H v u Q I r (hi v σ H Q hw)⟩
theorem PGs.imp {X : Cx} {e : List Expr} {t t' : TGs} (h : PGs X e t) (hi : ∀ v σ H Q, t' v σ H Q → t v σ H Q) : PGs X e t' := ⟨fun pins s σ H v u Q I r hw => h.run pins s σ H v u Q I r (hi v σ H Q hw)⟩
theorem locB_ok {sc : Scope} {x : Str} (h : locB sc x = true) : sc.names.lookup x = some .local := by
  unfold locB at h
  split at h
  · assumption
  · cases h
theorem celB_ok {sc : Scope} {x : Str} (h : celB sc x = true) : sc.names.lookup x = some .cell := by
  unfold celB at h
  split at h
  · assumption
  · cases h
theorem bindTgs_len : ∀ {l : List Tg} {ds : List D} {ρ ρ' : Env}, bindTgs ρ ds l = some ρ' → ds.length = l.length
  | [], [], _, _, _ => rfl
  | [], _ :: _, _, _, h => by cases h
  | _ :: _, [], _, _, h => by cases h
  | t :: l, d :: ds, ρ, ρ', h => by
    obtain ⟨r1, _, e2⟩ := bind_ok (show (bindTg ρ d t).bind (fun r => bindTgs r ds l) = some ρ' from h)
    simp [bindTgs_len e2]
section
variable {X : Cx} {N : List Str} {sc : Scope} {strict : Bool}
mutual
theorem pg_ok (hn : X.N = N) (nd : N.Nodup) (hsc : X.env.scope = sc) (calm : X.calm = true) (fn : strict = false → ∀ x, X.fn x = true) : ∀ (t : Tg) (e : Expr), chkTg N sc strict t e = true → PG X e (tG X t)
  | .one i, e, h => by
    cases e with
    | Name x p =>
      have h : (decide (N[i]? = some x) && (locB sc x || (!strict && celB sc x))) = true := h
      rw [Bool.and_eq_true, decide_eq_true_eq, Bool.or_eq_true] at h
      have hl : Loc X.env.scope x ∧ (X.fn x = true ∨ X.env.scope.names.lookup x = some .local) := by
        rw [hsc]
        rcases h.2 with z | z
        · exact ⟨.inl (locB_ok z), .inr (locB_ok z)⟩
        · rw [Bool.and_eq_true] at z
          exact ⟨.inr (celB_ok z.2), .inl (fn (by simpa using z.1) x)⟩
      refine PG.imp (pg_name (i := i) (by rw [hn]; exact nd) (by rw [hn]; exact h.1) hl.1 hl.2) fun v σ H Q ⟨F, ρ, d, ρ', rel, iw, e1, q⟩ => ?_
      rw [bindTg] at e1
      cases ok_inj e1
      refine q _ (rel.setVal (v := .dat d) iw i) ⟨by simp, fun j hj => ?_, fun j u hj => ?_⟩
      · have : j ≠ i := fun z => hj (by simp [tgSlots, z])
        rw [List.getElem?_set_ne (fun z => this z.symm)]
      · rcases get_set hj with ⟨rfl, e, _⟩ | ⟨hne, e⟩
        · cases e
        · exact ⟨e, by rw [List.getElem?_set_ne (fun z => hne z.symm)]⟩
    | _ => exact absurd (show false = true from h) Bool.false_ne_true
  | .many l, e, h => by
    cases e with
    | Tuple es kk p =>
      have h : chkTgs N sc strict l es = true := h
      obtain ⟨h1, h2, h3⟩ := pgs_ok hn nd hsc calm fn l es h
      refine PG.imp (pg_tup calm h1 h2 h3) fun v σ H Q ⟨F, ρ, d, ρ', rel, iw, e1, q⟩ => ?_
      cases d with
      | tuple ds =>
        have e1 : bindTgs ρ ds l = some ρ' := e1
        have hl : ds.length = l.length := bindTgs_len e1
        rcases iw with iw | ⟨a, vs, ds', e2, e3, e4, e5⟩
        · cases iw with
          | tup hs ha => exact ⟨_, _, rfl, sqT_mono rel.sub hs.sq, by rw [ha.length]; exact hl, F, ρ, ds, ρ', rel, ha, e1, q⟩
        · cases e3
          exact ⟨a, vs, e2, SqT.of e4, by rw [e5.length]; exact hl, F, ρ, ds, ρ', rel, e5, e1, q⟩
      | _ => cases e1
    | _ => exact absurd (show false = true from h) Bool.false_ne_true
theorem pgs_ok (hn : X.N = N) (nd : N.Nodup) (hsc : X.env.scope = sc) (calm : X.calm = true) (fn : strict = false → ∀ x, X.fn x = true) : ∀ (l : List Tg) (es : List Expr), chkTgs N sc strict l es = true →
    PGs X es (tGs X l) ∧ (assignEach es X.env).length = l.length ∧ (assignEach es X.env).findIdx? (·.1) = none
  | [], es, h => by
    cases es with
    | nil =>
      refine ⟨PGs.imp pgs_nil fun v σ H Q ⟨F, ρ, ds, ρ', rel, iw, e1, q⟩ => ?_, rfl, rfl⟩
      cases ds with
      | nil =>
        cases iw
        cases ok_inj e1
        exact ⟨rfl, q σ rel ⟨rfl, fun _ _ => rfl, fun j v h => ⟨h, rfl⟩⟩⟩
      | cons _ _ => cases e1
    | cons _ _ => exact absurd (show false = true from h) Bool.false_ne_true
  | t :: l, es, h => by
    cases es with
    | nil => exact absurd (show false = true from h) Bool.false_ne_true
    | cons e es =>
      have h : (chkTg N sc strict t e && chkTgs N sc strict l es) = true := h
      rw [Bool.and_eq_true] at h
      have p1 := pg_ok hn nd hsc calm fn t e h.1
      obtain ⟨p2, p3, p4⟩ := pgs_ok hn nd hsc calm fn l es h.2
      have ne : assignEach (e :: es) X.env = (false, assign e X.env) :: assignEach es X.env := by
        cases e with
        | Starred _ _ => exact absurd (show false = true by cases t <;> exact h.1) Bool.false_ne_true
        | _ => rfl
      refine ⟨PGs.imp (pgs_cons p1 p2 (by rw [ne]; rfl)) fun v σ H Q ⟨F, ρ, ds, ρ', rel, iw, e1, q⟩ => ?_, by rw [ne]; simp [p3], by rw [ne]; simp [List.findIdx?_cons, p4]⟩
      cases ds with
      | nil => cases e1
      | cons d ds =>
        cases iw with
        | cons i1 i2 =>
          obtain ⟨r1, e2, e3⟩ := bind_ok (show (bindTg ρ d t).bind (fun r => bindTgs r ds l) = some ρ' from e1)
          refine ⟨_, _, rfl, F, ρ, d, r1, rel, Ifor.of t i1, e2, fun σ1 rel1 tp1 => ?_⟩
          exact ⟨F, r1, ds, ρ', rel1, i2, e3, fun σ2 rel2 tp2 => q σ2 rel2 (tp1.trans tp2)⟩
end
end

/-! ### wiping a comprehension's own slots -/
theorem wipe_len (r : Env) : ∀ vs : List Nat, (wipe r vs).length = r.length
  | [] => rfl
  | v :: vs => by unfold wipe; rw [List.length_set, wipe_len r vs]
theorem wipe_get {r : Env} {i : Nat} {x : Sl} : ∀ {vs : List Nat}, (wipe r vs)[i]? = some (some x) → r[i]? = some (some x) ∧ i ∉ vs
  | [], h => ⟨h, by simp⟩
  | v :: vs, h => by
    unfold wipe at h
    rcases get_set h with ⟨_, e, _⟩ | ⟨hne, e⟩
    · cases e
    · obtain ⟨h1, h2⟩ := wipe_get e
      exact ⟨h1, by simp only [List.mem_cons, not_or]; exact ⟨hne, h2⟩⟩
theorem wipeV_out {σ : L2.St} {i : Nat} : ∀ {vs : List Nat}, i ∉ vs → (L2.wipe σ vs)[i]? = σ[i]?
  | [], _ => rfl
  | v :: vs, h => by
    simp only [List.mem_cons, not_or] at h
    unfold L2.wipe
    rw [List.getElem?_set_ne (fun z => h.1 z.symm)]
    exact wipeV_out h.2
theorem wipeV_in {σ : L2.St} {i : Nat} : ∀ {vs : List Nat}, i ∈ vs → i < σ.length → (L2.wipe σ vs)[i]? = some none
  | [], h, _ => by cases h
  | v :: vs, h, hl => by
    unfold L2.wipe
    by_cases e : i = v
    · subst e
      rw [List.getElem?_set_self (by rw [L2.wipe_length]; exact hl)]
    · rw [List.getElem?_set_ne (fun z => e z.symm)]
      rcases List.mem_cons.mp h with z | z
      · exact absurd z e
      · exact wipeV_in z hl
theorem wipe_eq {σ σ' : L2.St} {vs : List Nat} (hl : σ'.length = σ.length) (h : ∀ j : Nat, j ∉ vs → σ'[j]? = σ[j]?) : L2.wipe σ' vs = L2.wipe σ vs := by
  apply List.ext_getElem?
  intro j
  by_cases hj : j ∈ vs
  · by_cases hlt : j < σ.length
    · rw [wipeV_in hj (by rw [hl]; exact hlt), wipeV_in hj hlt]
    · rw [List.getElem?_eq_none (by rw [L2.wipe_length, hl]; omega), List.getElem?_eq_none (by rw [L2.wipe_length]; omega)]
  · rw [wipeV_out hj, wipeV_out hj, h j hj]
theorem Rel.wiped {K : W.Frag} {F H : Hp} {σ : L2.St} {ρ : Env} (r : Rel K F σ H ρ) (vs : List Nat) : Rel K F (L2.wipe σ vs) H (wipe ρ vs) where
  sub := r.sub
  len := by rw [L2.wipe_length, wipe_len, r.len]
  val := fun i v h => by
    obtain ⟨h1, h2⟩ := wipe_get h
    rw [wipeV_out h2]
    exact r.val i v h1
  own := fun i v h => by
    obtain ⟨h1, h2⟩ := wipe_get h
    rw [wipeV_out h2]
    exact r.own i v h1
  dis := fun i j v u a hij hi hj h1 => by
    obtain ⟨a1, a2⟩ := wipe_get hi
    obtain ⟨b1, b2⟩ := wipe_get hj
    rw [wipeV_out a2] at h1
    rw [wipeV_out b2]
    exact r.dis i j v u a hij a1 b1 h1

/-! ### truth -/
theorem tru_of {K : W.Frag} {F H : Hp} {x : V} {v : Vl} {k : Bool} (sF : Same F H) (h : RV K F H x v) (e : truthy v = some k) : TruV K x H k := by
  cases v with
  | dat d =>
    have h' := h.rd
    cases d with
    | none => cases ok_inj e; have := h'.none; subst this; rfl
    | bool b => cases ok_inj e; have := h'.bool; subst this; rfl
    | int i => cases ok_inj e; have := h'.int; subst this; rfl
    | str z =>
      obtain ⟨g, e⟩ := grd_ok e
      cases ok_inj e
      have := h'.str
      subst this
      refine ⟨szOk_le g, ?_⟩
      show (z.length != 0) = ((z.length : Int) != 0)
      by_cases q : z.length = 0
      · rw [q]; rfl
      · have h2 : (z.length : Int) ≠ 0 := by omega
        rw [bne_iff_ne.mpr q, bne_iff_ne.mpr h2]
    | list xs =>
      cases ok_inj e
      obtain ⟨a, vs, rfl, t, r⟩ := h'.list sF
      refine .inl ⟨vs, .inl t, ?_⟩
      cases r <;> rfl
    | tuple xs =>
      cases ok_inj e
      obtain ⟨a, vs, rfl, t, _, r⟩ := h'.tup sF
      refine .inr (.inl ⟨vs, t, ?_⟩)
      cases r <;> rfl
    | dict _ => cases e
  | dI kvs =>
    cases ok_inj e
    obtain ⟨a, ks, rfl, ha, c⟩ := h.dI sF
    refine .inr (.inr ⟨ks, ha, ?_⟩)
    cases c <;> rfl
  | dT kvs => cases e
  | exn _ _ => exact h.exn.elim
end RL
/-! RLSound: the cases of the expressions' soundness. -/
namespace RL
open PySem PySem.Spec PyProof.Rows L2

section
variable {T : Tab} {N : List Str} {k : Nat} {C : Cfg}
def SE (T : Tab) (N : List Str) (k : Nat) (C : Cfg) (e : Ex) : Prop := ∀ (sc : Scope) (X : Cx) (W : WX) (a : Expr), Ok T N k C sc X W → chkE T N e sc a = true → PE X a (tE T X C W e)
def ST (T : Tab) (N : List Str) (k : Nat) (C : Cfg) (e : Ex) : Prop := ∀ (sc : Scope) (X : Cx) (W : WX) (a : Expr), Ok T N k C sc X W → chkE T N e sc a = true → PT X a (tT T X C W e)
def SEs (T : Tab) (N : List Str) (k : Nat) (C : Cfg) (es : List Ex) : Prop := ∀ (sc : Scope) (X : Cx) (W : WX) (as : List Expr), Ok T N k C sc X W → chkEs T N es sc as = true → PA X as (tEs T X C W es)
theorem no {p : Prop} (h : false = true) : p := absurd h Bool.false_ne_true
theorem Ok.hu {sc : Scope} {X : Cx} {W : WX} (ok : Ok T N k C sc X W) : X.A.units + 65 < cLine := by have := ok.room.un; omega

theorem se_var {i : Nat} : SE T N k C (.var i) := by
  intro sc X W a ok h
  cases a with
  | Name x p =>
    have h : (decide (N[i]? = some x) && visB sc x && nmB x) = true := h
    simp only [Bool.and_eq_true, decide_eq_true_eq] at h
    obtain ⟨n1, n2, _⟩ := nmB_ok h.2
    refine PE.imp (pe_var (i := i) (by rw [ok.n]; exact h.1.1) (by rw [ok.sc]; exact visB_ok h.1.2) n1 n2) fun σ H Q ⟨F, ρ, rel, hp⟩ => ?_
    have hp : Post T X W σ F H (RV1 X σ ρ Q) (match ρ[i]? with
      | some (some (.val v)) => .ok (false, v)
      | some (some (.own v)) => .ok (true, v)
      | _ => .bad) := hp
    cases e : ρ[i]? with
    | none => rw [e] at hp; exact hp.elim
    | some o =>
      cases o with
      | none => rw [e] at hp; exact hp.elim
      | some s =>
        cases s with
        | val v =>
          rw [e] at hp
          obtain ⟨x, h1, h2⟩ := rel.val i v e
          exact ⟨x, h1, hp F H (Ext.refl rel.sub) x h2⟩
        | own v =>
          rw [e] at hp
          obtain ⟨a, o, h1, h2, h3, h4⟩ := rel.own i v e
          exact ⟨.ref a, h1, hp F H (Ext.refl rel.sub) _ ⟨i, e, h1⟩⟩
  | _ => exact no h
theorem se_con {d : D} : SE T N k C (.con d) := by
  intro sc X W a ok h
  cases a with
  | Constant c j p =>
    have h : constB d c = true := h
    have fin : ∀ {v : V}, Dq X.K (fun _ => none) v d → ∀ σ H Q, tE T X C W (.con d) σ H Q → tC v σ H Q := fun {v} hd σ H Q ⟨F, ρ, rel, hp⟩ => (show Post T X W σ F H (RV1 X σ ρ Q) (ret d) from hp) F H (Ext.refl rel.sub) _ (Dq.mono (fun _ _ z => by cases z) _ _ hd)
    cases d with
    | none => cases c <;> first | exact PE.imp pe_non (fin .non) | exact no h
    | bool b =>
      cases c with
      | bool b' =>
        have e : b = b' := eq_of_beq h
        subst e
        exact PE.imp pe_bl (fin (.bl b))
      | _ => exact no h
    | int i =>
      cases c with
      | int i' =>
        have e : i = i' := of_decide_eq_true h
        subst e
        exact PE.imp pe_int (fin (.int i))
      | _ => exact no h
    | str i =>
      cases c with
      | str i' =>
        have e : i = i' := of_decide_eq_true h
        subst e
        exact PE.imp pe_str (fin (.str i))
      | _ => exact no h
    | _ => cases c <;> exact no h
  | _ => exact no h
theorem se_glo {g : Nat} : SE T N k C (.glo g) := by
  intro sc X W a ok h
  cases a with
  | Name x p =>
    have h : (decide (T.glo[g]? = some (some x)) && glB sc x && nmB x) = true := h
    simp only [Bool.and_eq_true, decide_eq_true_eq] at h
    obtain ⟨n1, n2, _⟩ := nmB_ok h.2
    obtain ⟨u, v, h1, h2, h3⟩ := ok.wd.glo g x h.1.1
    refine PE.imp (pe_glob (glB_ok ok.sc h.1.2) h1 h2 n1) fun σ H Q ⟨F, ρ, rel, hp⟩ => ?_
    obtain ⟨d, e, hp⟩ := opt_post (show Post T X W σ F H (RV1 X σ ρ Q) (opt (C.gv g) ret) from hp)
    exact hp F H (Ext.refl rel.sub) _ (h3 d e F)
  | _ => exact no h
theorem se_bin {o : BOp} {a b : Ex} (ha : SE T N k C a) (hb : SE T N k C b) : SE T N k C (.bin o a b) := by
  intro sc X W e ok h
  cases e with
  | BinOp l op r p =>
    have h : (decide (op = opOf o) && chkE T N a sc l && chkE T N b sc r) = true := h
    simp only [Bool.and_eq_true, decide_eq_true_eq] at h
    obtain ⟨⟨rfl, h1⟩, h2⟩ := h
    refine PE.imp (pe_op (op_bin o) (ha sc X W l ok h1) (hb sc X W r ok h2)) fun σ H Q ⟨F, ρ, rel, hp⟩ => ?_
    refine tE_bind rel hp fun r1 x F1 H1 _ e1 rel1 v1 hp1 => ?_
    refine tE_bind rel1 hp1 fun r2 y F2 H2 _ e2 rel2 v2 hp2 => ?_
    obtain ⟨d, q1, hp3⟩ := opt_post hp2
    obtain ⟨d2, q2, hp4⟩ := opt_post hp3
    obtain ⟨z, q3, hp5⟩ := opt_post hp4
    exact ⟨F2, d, d2, z, rel2.sub, (VR.mono e2 v1).rd rel2 q1, v2.rd rel2 q2, q3, ret_post hp5⟩
  | _ => exact no h
theorem se_neg {a : Ex} (ha : SE T N k C a) : SE T N k C (.neg a) := by
  intro sc X W e ok h
  cases e with
  | UnaryOp op x p =>
    cases op with
    | USub =>
      refine PE.imp (pe_un un_neg (ha sc X W x ok h)) fun σ H Q ⟨F, ρ, rel, hp⟩ => ?_
      refine tE_bind rel hp fun r1 x F1 H1 _ e1 rel1 v1 hp1 => ?_
      obtain ⟨d, q1, hp3⟩ := opt_post hp1
      obtain ⟨z, q3, hp5⟩ := opt_post hp3
      cases d with
      | int i =>
        cases ok_inj q3
        exact ⟨i, (v1.rd rel1 q1).int, ret_post hp5 _ F1 H1 (Ext.refl rel1.sub) (.int _)⟩
      | _ => cases q3
    | _ => exact no h
  | _ => exact no h

/-! ### comparisons -/
theorem retB_post {X : Cx} {W : WX} {σ : L2.St} {ρ : Env} {Q : VK} {F H : Hp} {b : Bool} (sF : Same F H) (h : Post T X W σ F H (RV1 X σ ρ Q) (retB b)) : Q (.bl b) H := h F H (Ext.refl sF) _ (.bl b)
theorem cmp_read {X : Cx} {W : WX} {sc : Scope} {o : COp} {a b : Ex} {l r : Expr} {p : Pos} (ok : Ok T N k C sc X W) :
    ∀ σ H Q, tE T X C W (.cmp o a b) σ H Q → tOp (rCmp X.K o) (tE T X C W a) (tE T X C W b) σ H Q := fun σ H Q ⟨F, ρ, rel, hp⟩ => by
  refine tE_bind rel hp fun r1 x F1 H1 _ e1 rel1 v1 hp1 => ?_
  refine tE_bind rel1 hp1 fun r2 y F2 H2 _ e2 rel2 v2 hp2 => ?_
  obtain ⟨d, q1, hp3⟩ := opt_post hp2
  obtain ⟨z, q3, hp5⟩ := opt_post hp3
  exact ⟨F2, d, r2.2, z, rel2.sub, (VR.mono e2 v1).rd rel2 q1, v2.rv rel2, q3, retB_post rel2.sub hp5⟩
theorem se_cmp {o : COp} {a b : Ex} (ha : SE T N k C a) (hb : SE T N k C b) : SE T N k C (.cmp o a b) := by
  intro sc X W e ok h
  cases e with
  | Compare l ops rs p =>
    match ops, rs, h with
    | [op], [r], h =>
      have h : (decide (op = copOf o) && !cmpMark op r && chkE T N a sc l && chkE T N b sc r) = true := h
      simp only [Bool.and_eq_true, decide_eq_true_eq, Bool.not_eq_true'] at h
      obtain ⟨⟨⟨rfl, hm⟩, h1⟩, h2⟩ := h
      exact PE.imp (pe_cmpR (op_cmp ok.hu o) (ha sc X W l ok h1) (hb sc X W r ok h2) hm) (cmp_read (l := l) (r := r) (p := p) ok)
    | [], _, h => exact no h
    | _ :: _ :: _, _, h => exact no h
    | [_], [], h => exact no h
    | [_], _ :: _ :: _, h => exact no h
  | _ => exact no h
/-- a test by a value that is a bool -/
theorem evT_retB {ρ : Env} {e : Ex} {b : Bool} (h : ev C ρ e = retB b) : evT C ρ e = .ok b := by
  unfold evT; rw [h]; rfl
theorem tT_of {X : Cx} {W : WX} {e : Ex} (hB : ∀ (ρ : Env) r, ev C ρ e = .ok r → ∃ b, r = (false, .dat (.bool b))) :
    ∀ σ H Q, tT T X C W e σ H Q → tTest (tE T X C W e) σ H Q := fun σ H Q ⟨F, ρ, rel, hp⟩ => by
  unfold evT at hp
  refine tE_bind rel hp fun r1 x F1 H1 er e1 rel1 v1 hp1 => ?_
  obtain ⟨b, rfl⟩ := hB ρ r1 er
  have q : x = .bl b := by cases v1; rfl
  exact ⟨b, q, hp1 F1 H1 (Ext.refl rel1.sub)⟩
theorem tTest_imp {t t' : TE} (h : ∀ σ H Q, t σ H Q → t' σ H Q) : ∀ σ H Q, tTest t σ H Q → tTest t' σ H Q := fun σ H Q q => h _ _ _ q
theorem res_bind_ok {a b : Type} {r : Res a} {f : a → Res b} {y : b} (h : Res.bind r f = .ok y) : ∃ x, r = .ok x ∧ f x = .ok y := by
  cases r with
  | ok x => exact ⟨x, rfl, h⟩
  | exc c p => cases h
  | bad => cases h
theorem opt_ok {a b : Type} {r : Option a} {f : a → Res b} {y : b} (h : opt r f = .ok y) : ∃ x, r = some x ∧ f x = .ok y := by
  cases r with
  | some x => exact ⟨x, rfl, h⟩
  | none => cases h
theorem st_cmp {o : COp} {a b : Ex} (ha : SE T N k C a) (hb : SE T N k C b) : ST T N k C (.cmp o a b) := by
  intro sc X W e ok h
  cases e with
  | Compare l ops rs p =>
    match ops, rs, h with
    | [op], [r], h =>
      have h : (decide (op = copOf o) && !cmpMark op r && chkE T N a sc l && chkE T N b sc r) = true := h
      simp only [Bool.and_eq_true, decide_eq_true_eq, Bool.not_eq_true'] at h
      obtain ⟨⟨⟨rfl, hm⟩, h1⟩, h2⟩ := h
      refine PT.imp (pt_cmpR (op_cmp ok.hu o) (ha sc X W l ok h1) (hb sc X W r ok h2) hm) fun σ H Q q => tTest_imp (cmp_read (l := l) (r := r) (p := p) ok) σ H Q (tT_of (fun ρ r hr => ?_) σ H Q q)
      obtain ⟨x, _, hr⟩ := res_bind_ok hr
      obtain ⟨y, _, hr⟩ := res_bind_ok hr
      obtain ⟨d, _, hr⟩ := opt_ok hr
      obtain ⟨b, _, hr⟩ := opt_ok hr
      cases hr
      exact ⟨b, rfl⟩
    | [], _, h => exact no h
    | _ :: _ :: _, _, h => exact no h
    | [_], [], h => exact no h
    | [_], _ :: _ :: _, h => exact no h
  | _ => exact no h
theorem chn_read {X : Cx} {W : WX} {sc : Scope} {o p : COp} {a b c : Ex} (ok : Ok T N k C sc X W) :
    ∀ σ H Q, tE T X C W (.chn o p a b c) σ H Q → tChain (rCmp X.K o) (rCmp X.K p) (tE T X C W a) (tE T X C W b) (tE T X C W c) σ H Q := fun σ H Q ⟨F, ρ, rel, hp⟩ => by
  refine tE_bind rel hp fun r1 x F1 H1 _ e1 rel1 v1 hp1 => ?_
  refine tE_bind rel1 hp1 fun r2 y F2 H2 _ e2 rel2 v2 hp2 => ?_
  obtain ⟨d, q1, hp3⟩ := opt_post hp2
  obtain ⟨d2, q2, hp4⟩ := opt_post hp3
  obtain ⟨z, q3, hp5⟩ := opt_post hp4
  have w2 := v2.rd rel2 q2
  have vv : RV X.K F2 H2 y (.dat d2) := by
    rcases w2 with w | ⟨a, vs, ds, e1, e2, e3, e4⟩
    · exact .inl w
    · have := v2.rv rel2
      obtain ⟨b2, v2'⟩ := r2
      cases v2' with
      | dat d' =>
        have : d' = d2 := by simpa [datR] using q2
        subst this
        exact v2.rv rel2
      | _ => cases b2 <;> simp [datR] at q2
  refine ⟨F2, d, .dat d2, z, rel2.sub, (VR.mono e2 v1).rd rel2 q1, vv, q3, z, rfl, ?_⟩
  cases z with
  | false => exact iteF (retB_post rel2.sub hp5)
  | true =>
    refine iteT ?_
    refine tE_bind rel2 hp5 fun r3 w F3 H3 _ e3 rel3 v3 hp6 => ?_
    obtain ⟨z, q3, hp7⟩ := opt_post hp6
    exact ⟨F3, d2, r3.2, z, rel3.sub, RD.mono e3 w2, v3.rv rel3, q3, retB_post rel3.sub hp7⟩
theorem se_chn {o p : COp} {a b c : Ex} (ha : SE T N k C a) (hb : SE T N k C b) (hc : SE T N k C c) : SE T N k C (.chn o p a b c) ∧ ST T N k C (.chn o p a b c) := by
  have hB : ∀ (ρ : Env) r, ev C ρ (.chn o p a b c) = .ok r → ∃ b, r = (false, .dat (.bool b)) := fun ρ r hr => by
    obtain ⟨x, _, hr⟩ := res_bind_ok hr
    obtain ⟨y, _, hr⟩ := res_bind_ok hr
    obtain ⟨d, _, hr⟩ := opt_ok hr
    obtain ⟨d2, _, hr⟩ := opt_ok hr
    obtain ⟨z, _, hr⟩ := opt_ok hr
    cases z with
    | true =>
      obtain ⟨w, _, hr⟩ := res_bind_ok hr
      obtain ⟨b, _, hr⟩ := opt_ok hr
      cases hr
      exact ⟨b, rfl⟩
    | false => cases hr; exact ⟨false, rfl⟩
  have key : ∀ (sc : Scope) (X : Cx) (W : WX) (e : Expr), Ok T N k C sc X W → chkE T N (.chn o p a b c) sc e = true → PE X e (tE T X C W (.chn o p a b c)) ∧ PT X e (tT T X C W (.chn o p a b c)) := by
    intro sc X W e ok h
    cases e with
    | Compare l ops rs pz =>
      match ops, rs, h with
      | [op, op'], [m, r], h =>
        have h : (decide (op = copOf o) && decide (op' = copOf p) && !cmpMark op m && !cmpMark op' r && chkE T N a sc l && chkE T N b sc m && chkE T N c sc r) = true := h
        simp only [Bool.and_eq_true, decide_eq_true_eq, Bool.not_eq_true'] at h
        obtain ⟨⟨⟨⟨⟨⟨rfl, rfl⟩, hm⟩, hm2⟩, h1⟩, h2⟩, h3⟩ := h
        have hl : lastMarks [copOf o, copOf p] [m, r] = false := hm2
        exact ⟨PE.imp (pe_chain (op_cmp ok.hu o) (op_cmp ok.hu p) (ha sc X W l ok h1) (hb sc X W m ok h2) (hc sc X W r ok h3) hl) (chn_read ok),
          PT.imp (pt_chain (op_cmp ok.hu o) (op_cmp ok.hu p) (ha sc X W l ok h1) (hb sc X W m ok h2) (hc sc X W r ok h3) hl) fun σ H Q q => tTest_imp (chn_read ok) σ H Q (tT_of hB σ H Q q)⟩
      | [], _, h => exact no h
      | [_], _, h => exact no h
      | _ :: _ :: _ :: _, _, h => exact no h
      | [_, _], [], h => exact no h
      | [_, _], [_], h => exact no h
      | [_, _], _ :: _ :: _ :: _, h => exact no h
    | _ => exact no h
  exact ⟨fun sc X W e ok h => (key sc X W e ok h).1, fun sc X W e ok h => (key sc X W e ok h).2⟩
end
end RL
/-! RLSound2: further cases: tests, displays, subscripts, calls. -/
namespace RL
open PySem PySem.Spec PyProof.Rows L2
section
variable {T : Tab} {N : List Str} {k : Nat} {C : Cfg}

/-! ### is None -/
theorem isN_rd {K : W.Frag} {F H : Hp} {x : V} {d : D} (h : RD K F H x d) : decide (x = .non) = isNoneD d := by
  rcases h with h | ⟨a, vs, ds, rfl, rfl, _, _⟩
  · cases h <;> rfl
  · rfl
theorem isn_read {X : Cx} {W : WX} {pos : Bool} {a : Ex} : ∀ σ H Q, tE T X C W (.isn pos a) σ H Q → tE T X C W a σ H fun x H1 => Q (.bl (if pos then decide (x = .non) else !decide (x = .non))) H1 := fun σ H Q ⟨F, ρ, rel, hp⟩ => by
  refine tE_bind rel hp fun r1 x F1 H1 _ e1 rel1 v1 hp1 => ?_
  obtain ⟨d, q1, hp3⟩ := opt_post hp1
  have h := retB_post rel1.sub hp3
  rw [isN_rd (v1.rd rel1 q1)]
  cases pos <;> cases e : isNoneD d <;> rw [e] at h <;> exact h
theorem isn_both {pos : Bool} {a : Ex} (ha : SE T N k C a) : SE T N k C (.isn pos a) ∧ ST T N k C (.isn pos a) := by
  have hB : ∀ (ρ : Env) r, ev C ρ (.isn pos a) = .ok r → ∃ b, r = (false, .dat (.bool b)) := fun ρ r hr => by
    obtain ⟨x, _, hr⟩ := res_bind_ok hr
    obtain ⟨d, _, hr⟩ := opt_ok hr
    cases hr
    exact ⟨_, rfl⟩
  have key : ∀ (sc : Scope) (X : Cx) (W : WX) (e : Expr), Ok T N k C sc X W → chkE T N (.isn pos a) sc e = true → PE X e (tE T X C W (.isn pos a)) ∧ PT X e (tT T X C W (.isn pos a)) := by
    intro sc X W e ok h
    cases e with
    | Compare l ops rs pz =>
      match ops, rs, h with
      | [], _, h => exact no h
      | _ :: _ :: _, _, h => exact no h
      | [_], [], h => exact no h
      | [_], x :: y :: _, h => exact no (show false = true by cases x <;> first | exact h | (rename_i c _ _; cases c <;> exact h))
      | [op], [x], h =>
        cases x with
        | Constant c j pp =>
          cases c with
          | none =>
            have h : (decide (op = if pos then .Is else .IsNot) && chkE T N a sc l) = true := h
            simp only [Bool.and_eq_true, decide_eq_true_eq] at h
            obtain ⟨rfl, h1⟩ := h
            have pa := ha sc X W l ok h1
            cases pos with
            | true =>
              refine ⟨PE.imp (pe_cmp (pc_isN pa)) (isn_read), PT.imp (pt_cmp (pc_isN pa)) fun σ H Q q => ?_⟩
              exact isn_read (pos := true) σ H _ (tT_of hB σ H Q q)
            | false =>
              refine ⟨PE.imp (pe_cmp (pc_notN pa)) (isn_read), PT.imp (pt_cmp (pc_notN pa)) fun σ H Q q => ?_⟩
              exact isn_read (pos := false) σ H _ (tT_of hB σ H Q q)
          | _ => exact no h
        | _ => exact no h
    | _ => exact no h
  exact ⟨fun sc X W e ok h => (key sc X W e ok h).1, fun sc X W e ok h => (key sc X W e ok h).2⟩

/-! ### tests -/
theorem st_plain {e : Ex} (he : SE T N k C e) (hp : ∀ sc a, chkE T N e sc a = true → plainT a = true) : ST T N k C e := by
  intro sc X W a ok h
  refine PT.imp (pt_truth (he sc X W a ok h) (plainT_ok (hp sc a h))) fun σ H Q ⟨F, ρ, rel, hq⟩ => ?_
  unfold evT at hq
  refine tE_bind rel hq fun r1 x F1 H1 _ e1 rel1 v1 hp1 => ?_
  obtain ⟨b, q1, hp3⟩ := opt_post hp1
  exact ⟨b, tru_of rel1.sub (v1.rv rel1) q1, hp3 F1 H1 (Ext.refl rel1.sub)⟩
theorem evT_not {ρ : Env} {a : Ex} : evT C ρ (.not a) = (evT C ρ a).bind fun k => .ok (!k) := by
  unfold evT
  show Res.bind (Res.bind (ev C ρ a) _) _ = _
  cases ev C ρ a with
  | ok r =>
    show Res.bind (opt (truthy r.2) fun k => retB (!k)) _ = Res.bind (opt (truthy r.2) .ok) _
    cases truthy r.2 <;> rfl
  | exc _ _ => rfl
  | bad => rfl
theorem evT_and {ρ : Env} {a b : Ex} : evT C ρ (.and a b) = (evT C ρ a).bind fun k => match k with | true => evT C ρ b | false => .ok false := by
  unfold evT
  show Res.bind (Res.bind (ev C ρ a) _) _ = _
  cases ev C ρ a with
  | ok r =>
    show Res.bind (opt (truthy r.2) fun k => match k with | true => ev C ρ b | false => .ok r) _ = Res.bind (opt (truthy r.2) .ok) _
    cases e : truthy r.2 with
    | none => rfl
    | some z =>
      cases z with
      | true => rfl
      | false => show opt (truthy r.2) .ok = .ok false; rw [e]; rfl
  | exc _ _ => rfl
  | bad => rfl
theorem evT_or {ρ : Env} {a b : Ex} : evT C ρ (.or a b) = (evT C ρ a).bind fun k => match k with | true => .ok true | false => evT C ρ b := by
  unfold evT
  show Res.bind (Res.bind (ev C ρ a) _) _ = _
  cases ev C ρ a with
  | ok r =>
    show Res.bind (opt (truthy r.2) fun k => match k with | true => .ok r | false => ev C ρ b) _ = Res.bind (opt (truthy r.2) .ok) _
    cases e : truthy r.2 with
    | none => rfl
    | some z =>
      cases z with
      | false => rfl
      | true => show opt (truthy r.2) .ok = .ok true; rw [e]; rfl
  | exc _ _ => rfl
  | bad => rfl
theorem evT_ite {ρ : Env} {c a b : Ex} : evT C ρ (.ite c a b) = (evT C ρ c).bind fun k => match k with | true => evT C ρ a | false => evT C ρ b := by
  unfold evT
  show Res.bind (Res.bind (ev C ρ c) _) _ = _
  cases ev C ρ c with
  | ok r =>
    show Res.bind (opt (truthy r.2) fun k => match k with | true => ev C ρ a | false => ev C ρ b) _ = Res.bind (opt (truthy r.2) .ok) _
    cases e : truthy r.2 with
    | none => rfl
    | some z => cases z <;> rfl
  | exc _ _ => rfl
  | bad => rfl
theorem not_both {a : Ex} (ha : SE T N k C a) (ta : ST T N k C a) : SE T N k C (.not a) ∧ ST T N k C (.not a) := by
  refine ⟨fun sc X W e ok h => ?_, fun sc X W e ok h => ?_⟩
  · cases e with
    | UnaryOp op x p =>
      cases op with
      | Not =>
        refine PE.imp (pe_notT (ha sc X W x ok h)) fun σ H Q ⟨F, ρ, rel, hp⟩ => ?_
        refine tE_bind rel hp fun r1 x F1 H1 _ e1 rel1 v1 hp1 => ?_
        obtain ⟨b, q1, hp3⟩ := opt_post hp1
        exact ⟨b, tru_of rel1.sub (v1.rv rel1) q1, retB_post rel1.sub hp3⟩
      | _ => exact no h
    | _ => exact no h
  · cases e with
    | UnaryOp op x p =>
      cases op with
      | Not =>
        refine PT.imp (pt_not (ta sc X W x ok h)) fun σ H Q ⟨F, ρ, rel, hp⟩ => ?_
        rw [evT_not] at hp
        exact tT_bind rel hp fun b F1 H1 _ e1 rel1 hp1 => hp1 F1 H1 (Ext.refl rel1.sub)
      | _ => exact no h
    | _ => exact no h
theorem and_both {a b : Ex} (ha : SE T N k C a) (ta : ST T N k C a) (hb : SE T N k C b) (tb : ST T N k C b) : SE T N k C (.and a b) ∧ ST T N k C (.and a b) := by
  refine ⟨fun sc X W e ok h => ?_, fun sc X W e ok h => ?_⟩
  · cases e with
    | BoolOp op vs pos =>
      cases op with
      | Or => exact no h
      | And =>
        match vs, h with
        | [], h => exact no h
        | [_], h => exact no h
        | x :: y :: rest, h =>
          have h : (chkE T N a sc x && chkE T N b sc (restE .And y rest pos)) = true := h
          rw [Bool.and_eq_true] at h
          have pb : PE X (.BoolOp .And (y :: rest) pos) (tE T X C W b) := by
            cases rest with
            | nil => exact pe_one (hb sc X W y ok h.2)
            | cons z r => exact hb sc X W _ ok h.2
          refine PE.imp (pe_andT (ha sc X W x ok h.1) pb) fun σ H Q ⟨F, ρ, rel, hp⟩ => ?_
          refine tE_bind rel hp fun r1 x F1 H1 _ e1 rel1 v1 hp1 => ?_
          obtain ⟨z, q1, hp3⟩ := opt_post hp1
          refine ⟨z, tru_of rel1.sub (v1.rv rel1) q1, ?_⟩
          cases z with
          | true => exact iteT ⟨F1, ρ, rel1, hp3⟩
          | false => exact iteF (hp3 F1 H1 (Ext.refl rel1.sub) x v1)
    | _ => exact no h
  · cases e with
    | BoolOp op vs pos =>
      cases op with
      | Or => exact no h
      | And =>
        match vs, h with
        | [], h => exact no h
        | [_], h => exact no h
        | x :: y :: rest, h =>
          have h : (chkE T N a sc x && chkE T N b sc (restE .And y rest pos)) = true := h
          rw [Bool.and_eq_true] at h
          have pb : PW X (.BoolOp .And (y :: rest) pos) (tT T X C W b) := by
            cases rest with
            | nil => exact pw_and1 (tb sc X W y ok h.2)
            | cons z r => exact ⟨fun whole => by
                have q := (tb sc X W _ ok h.2).run
                exact fun pins s σ H Q I hw => q pins s σ H Q I hw⟩
          refine PT.imp (PW.pt (pw_and (ta sc X W x ok h.1) pb)) fun σ H Q ⟨F, ρ, rel, hp⟩ => ?_
          rw [evT_and] at hp
          refine tT_bind rel hp fun z F1 H1 _ e1 rel1 hp1 => ?_
          cases z with
          | true => exact iteT ⟨F1, ρ, rel1, hp1⟩
          | false => exact iteF (hp1 F1 H1 (Ext.refl rel1.sub))
    | _ => exact no h
theorem or_both {a b : Ex} (ha : SE T N k C a) (ta : ST T N k C a) (hb : SE T N k C b) (tb : ST T N k C b) : SE T N k C (.or a b) ∧ ST T N k C (.or a b) := by
  refine ⟨fun sc X W e ok h => ?_, fun sc X W e ok h => ?_⟩
  · cases e with
    | BoolOp op vs pos =>
      cases op with
      | And => exact no h
      | Or =>
        match vs, h with
        | [], h => exact no h
        | [_], h => exact no h
        | x :: y :: rest, h =>
          have h : (chkE T N a sc x && chkE T N b sc (restE .Or y rest pos)) = true := h
          rw [Bool.and_eq_true] at h
          have pb : PE X (.BoolOp .Or (y :: rest) pos) (tE T X C W b) := by
            cases rest with
            | nil => exact pe_one (hb sc X W y ok h.2)
            | cons z r => exact hb sc X W _ ok h.2
          refine PE.imp (pe_orT (ha sc X W x ok h.1) pb) fun σ H Q ⟨F, ρ, rel, hp⟩ => ?_
          refine tE_bind rel hp fun r1 x F1 H1 _ e1 rel1 v1 hp1 => ?_
          obtain ⟨z, q1, hp3⟩ := opt_post hp1
          refine ⟨z, tru_of rel1.sub (v1.rv rel1) q1, ?_⟩
          cases z with
          | false => exact iteF ⟨F1, ρ, rel1, hp3⟩
          | true => exact iteT (hp3 F1 H1 (Ext.refl rel1.sub) x v1)
    | _ => exact no h
  · cases e with
    | BoolOp op vs pos =>
      cases op with
      | And => exact no h
      | Or =>
        match vs, h with
        | [], h => exact no h
        | [_], h => exact no h
        | x :: y :: rest, h =>
          have h : (chkE T N a sc x && chkE T N b sc (restE .Or y rest pos)) = true := h
          rw [Bool.and_eq_true] at h
          have pb : PW X (.BoolOp .Or (y :: rest) pos) (tT T X C W b) := by
            cases rest with
            | nil => exact pw_or1 (tb sc X W y ok h.2)
            | cons z r => exact ⟨fun whole => by
                have q := (tb sc X W _ ok h.2).run
                exact fun pins s σ H Q I hw => q pins s σ H Q I hw⟩
          refine PT.imp (PW.pt (pw_or (ta sc X W x ok h.1) pb)) fun σ H Q ⟨F, ρ, rel, hp⟩ => ?_
          rw [evT_or] at hp
          refine tT_bind rel hp fun z F1 H1 _ e1 rel1 hp1 => ?_
          cases z with
          | true => exact iteT (hp1 F1 H1 (Ext.refl rel1.sub))
          | false => exact iteF ⟨F1, ρ, rel1, hp1⟩
    | _ => exact no h
theorem pt_ifExp {X : Cx} {c a b : Expr} {tc ta tb : TT} {pos : Pos} (hc : PT X c tc) (ha : PT X a ta) (hb : PT X b tb) : PT X (.IfExp c a b pos) (fun σ H Q => tc σ H fun z H1 => if z = true then ta σ H1 Q else tb σ H1 Q) := by
  refine ⟨fun pins s σ H Q I h => ?_⟩
  refine isTrue_IfExp (thn (hc.run pins s σ H _ I h) fun d s1 ⟨H1, I1, q1⟩ => ?_)
  cases d with
  | true => exact ha.run pins s1 σ H1 Q I1 q1
  | false => exact hb.run pins s1 σ H1 Q I1 q1
theorem ite_both {c a b : Ex} (tc : ST T N k C c) (ha : SE T N k C a) (ta : ST T N k C a) (hb : SE T N k C b) (tb : ST T N k C b) : SE T N k C (.ite c a b) ∧ ST T N k C (.ite c a b) := by
  have evI : ∀ ρ, ev C ρ (.ite c a b) = (evT C ρ c).bind fun k => match k with | true => ev C ρ a | false => ev C ρ b := fun ρ => by
    unfold evT
    show Res.bind (ev C ρ c) _ = _
    cases ev C ρ c with
    | ok r =>
      show (opt (truthy r.2) fun k => match k with | true => ev C ρ a | false => ev C ρ b) = Res.bind (opt (truthy r.2) .ok) _
      cases e : truthy r.2 with
      | none => rfl
      | some z => cases z <;> rfl
    | exc _ _ => rfl
    | bad => rfl
  refine ⟨fun sc X W e ok h => ?_, fun sc X W e ok h => ?_⟩
  · cases e with
    | IfExp t x y p =>
      have h : (chkE T N c sc t && chkE T N a sc x && chkE T N b sc y) = true := h
      simp only [Bool.and_eq_true] at h
      refine PE.imp (pe_ifExp (tc sc X W t ok h.1.1) (ha sc X W x ok h.1.2) (hb sc X W y ok h.2)) fun σ H Q ⟨F, ρ, rel, hp⟩ => ?_
      rw [evI] at hp
      refine tT_bind rel hp fun z F1 H1 _ e1 rel1 hp1 => ?_
      cases z with
      | true => exact iteT ⟨F1, ρ, rel1, hp1⟩
      | false => exact iteF ⟨F1, ρ, rel1, hp1⟩
    | _ => exact no h
  · cases e with
    | IfExp t x y p =>
      have h : (chkE T N c sc t && chkE T N a sc x && chkE T N b sc y) = true := h
      simp only [Bool.and_eq_true] at h
      refine PT.imp (pt_ifExp (tc sc X W t ok h.1.1) (ta sc X W x ok h.1.2) (tb sc X W y ok h.2)) fun σ H Q ⟨F, ρ, rel, hp⟩ => ?_
      rw [evT_ite] at hp
      refine tT_bind rel hp fun z F1 H1 _ e1 rel1 hp1 => ?_
      cases z with
      | true => exact iteT ⟨F1, ρ, rel1, hp1⟩
      | false => exact iteF ⟨F1, ρ, rel1, hp1⟩
    | _ => exact no h
end
end RL
/-! RLSound3: displays, subscripts, calls. -/
namespace RL
open PySem PySem.Spec PyProof.Rows L2

/-! ### t[::-1] -/
section
variable {prog : Program} {w : World} {A : Around} {E : Value → Shared → Prop} {s : Shared}
theorem adjust_rev (n : Nat) : Builtin.Slice.sliceAdjust none none (-1) (n : Int) = ((n : Int) - 1, -1) := rfl
theorem places_rev (n : Nat) : Builtin.Slice.slicePlaces ((n : Int) - 1) (-1) (-1) = n := by
  unfold Builtin.Slice.slicePlaces
  rw [if_neg (by decide)]
  by_cases h : ((n : Int) - 1) > -1
  · rw [if_pos h]
    have e : -(-1 : Int) = 1 := by decide
    rw [e, Int.ediv_one]
    omega
  · rw [if_neg h]; omega
theorem sliceApplied_rev {sl : Addr} {t : Tok} {n : Nat} {Q : Int × Int × Nat → Shared → Prop} (hs : s.heap.IsSliceOf sl .none .none (.int (-1) t))
    (h : Q ((n : Int) - 1, -1, n) s) : wpAny (model prog w) A (Builtin.Slice.sliceApplied (.ref sl) (pure (n : Int))) Q E s := by
  obtain ⟨os, hos, hcs, hds⟩ := id hs
  unfold Builtin.Slice.sliceApplied Builtin.Slice.sliceFields
  refine wpAny_bind (wpAny_bind (wpAny_field hos hds (x := .none) rfl (wpAny_bind (wpAny_field hos hds (x := .none) rfl (wpAny_bind (wpAny_field hos hds (x := .int (-1) t) rfl (wpAny_pure ?_)))))))
  refine wpAny_bind (HT.slicePart_ (.int (-1) t) ?_)
  show wpAny _ _ (if ((-1 : Int) == 0) = true then _ else _) _ _ s
  rw [if_neg (by decide)]
  refine wpAny_bind (HT.slicePart_ .none (wpAny_bind (HT.slicePart_ .none (wpAny_bind (wpAny_pure ?_)))))
  show wpAny _ _ (match Builtin.Slice.sliceAdjust none none (-1) (n : Int) with | (lo, hi) => pure (lo, (-1 : Int), Builtin.Slice.slicePlaces lo hi (-1))) _ _ s
  rw [adjust_rev n]
  show wpAny _ _ (pure (((n : Int) - 1), (-1 : Int), Builtin.Slice.slicePlaces ((n : Int) - 1) (-1) (-1))) _ _ s
  rw [places_rev]
  exact wpAny_pure h
theorem pick_rev (xs : List Value) : ((List.range xs.length).filterMap fun (m : Nat) => xs.toArray[(((xs.length : Int) - 1) + (m : Int) * (-1)).toNat]?).toArray = xs.reverse.toArray := by
  congr 1
  apply List.ext_getElem?
  intro i
  have e : ((List.range xs.length).filterMap fun (m : Nat) => xs.toArray[(((xs.length : Int) - 1) + (m : Int) * (-1)).toNat]?) = (List.range xs.length).map fun m => xs.getD (xs.length - 1 - m) .none := by
    have key : ∀ l : List Nat, (∀ m ∈ l, m < xs.length) → (l.filterMap fun (m : Nat) => xs.toArray[(((xs.length : Int) - 1) + (m : Int) * (-1)).toNat]?) = l.map fun m => xs.getD (xs.length - 1 - m) .none := by
      intro l
      induction l with
      | nil => intro _; rfl
      | cons m l ih =>
        intro h
        have hm : m < xs.length := h m List.mem_cons_self
        have q : (((xs.length : Int) - 1) + (m : Int) * (-1)).toNat = xs.length - 1 - m := by omega
        have hl : xs.length - 1 - m < xs.length := by omega
        have e1 : xs.toArray[(((xs.length : Int) - 1) + (m : Int) * (-1)).toNat]? = some (xs.getD (xs.length - 1 - m) .none) := by
          rw [q]; simp [hl]
        rw [List.filterMap_cons, List.map_cons, ← ih fun m' hm' => h m' (List.mem_cons_of_mem _ hm')]
        simp only [e1]
    exact key _ fun m hm => List.mem_range.mp hm
  rw [e]
  by_cases hi : i < xs.length
  · have hl : xs.length - 1 - i < xs.length := by omega
    simp [hi, hl]
  · simp [Nat.le_of_not_lt hi]
theorem getItem_tuple_rev {p sl : Addr} {items : List Value} {t : Tok} {Q : Value → Shared → Prop} (ht : IsTup s.heap p items.toArray) (hs : s.heap.IsSliceOf sl .none .none (.int (-1) t))
    (h : Q (.ref s.heap.objs.size) { s with heap := s.heap.push { cls := .type "tuple", data := .seq items.reverse.toArray } }) (hsz : items.length ≤ sizeLine) :
    wpAny (model prog w) A (getItem (.ref p) (.ref sl)) Q E s := by
  have htake : sizeOk (.seq items.reverse.toArray) := by
    show items.reverse.toArray.size ≤ sizeLine
    simpa using hsz
  obtain ⟨os, hos, hcs, hds⟩ := id hs
  have hTs : s.TypeIs (.ref sl) "slice" := ⟨os, hos, hcs⟩
  unfold getItem
  try with_reducible refine wpAny_holding ?_
  first | refine wpAny_bind (wpAny_pure ?_) | skip
  refine wpAny_bind (wpAny_sequenceKey ht.typeIs (by decide) ?_)
  refine wpAny_bind (wpAny_callSpecial?_slot (name := Str.ofString "__getitem__") ht.typeIs PyProof.Rows.slot_tuple_getitem
    (wpAny_call_entry PyProof.Rows.slot_tuple_getitem ht.typeIs entry_tuple_getitem ?_ (args_tuple_getitem _ _)))
  show wpAny _ _ (Builtin.Tuple.tupleItemsOf (.ref p) >>= _) _ _ s
  refine wpAny_bind (tupleItemsOf_ ht ?_)
  refine wpAny_bind (wpAny_typeOf hTs ?_)
  rw [if_pos (by decide)]
  refine wpAny_bind (sliceApplied_rev hs ?_)
  have hno : ¬ (((((items.toArray.size : Nat) : Int) - 1) == 0 && (-1 : Int) == 1 && (items.toArray.size == items.toArray.size)) = true) := by
    intro q
    rw [Bool.and_eq_true, Bool.and_eq_true] at q
    exact absurd q.1.2 (by decide)
  show wpAny _ _ (if ((((items.toArray.size : Nat) : Int) - 1) == 0 && (-1 : Int) == 1 && (items.toArray.size == items.toArray.size)) = true then _ else _) _ _ s
  rw [if_neg hno]
  rw [List.size_toArray, pick_rev]
  first
    | exact wpAny_bind (m := Builtin.Tuple.tupleExact _) (wpAny_newObj_type (wpAny_pure ⟨_, rfl, wpAny_pure h⟩) htake)
    | exact wpAny_bind (m := Builtin.Tuple.tupleExact _) (wpAny_newObj_type (wpAny_bind (wpAny_pure (wpAny_pure ⟨_, rfl, wpAny_pure h⟩))) htake)
    | exact wpAny_bind (wpAny_bind (m := Builtin.Tuple.tupleExact _) (wpAny_newObj_type (wpAny_pure (wpAny_pure ⟨_, rfl, wpAny_pure h⟩)) htake))
    | exact wpAny_bind (wpAny_bind (m := Builtin.Tuple.tupleExact _) (wpAny_newObj_type (wpAny_pure ⟨_, rfl, wpAny_pure h⟩) htake))
end
theorem Vals.reverse : ∀ {xs : List V} {us : List Value}, Vals xs us → Vals xs.reverse us.reverse
  | _, _, .nil => .nil
  | _, _, .cons r t => by rw [List.reverse_cons, List.reverse_cons]; exact (Vals.reverse t).append (.cons r .nil)
/-- e[::-1], a list or a tuple -/
theorem pe_revG {X : Cx} {e : Expr} {te : TE} {k : Nat} {p1 p2 p3 pos : Pos} (he : PE X e te) : PE X (.Subscript e (.Slice none none (some (.UnaryOp .USub (.Constant (.int 1) k p1) p2)) p3) pos)
    (fun σ H Q => te σ H fun x H1 => ∃ a xs, x = .ref a ∧ ((SqL X.K H1 a xs ∧ ∀ p, H1 p = none → Q (.ref p) (upd H1 p (.lst xs.reverse))) ∨ (SqT X.K H1 a xs ∧ NewT H1 xs.reverse Q))) := by
  refine ⟨fun pins s σ H Q I h => ?_⟩
  refine Subscript_ (thn (he.run pins s σ H _ I h) fun v s1 ⟨x, H1, I1, r1, q1⟩ => ?_)
  obtain ⟨a, xs, ex, q⟩ := q1
  subst ex
  cases r1
  have hst : PO X (some (.UnaryOp .USub (.Constant (.int 1) k p1) p2)) (tPart (tUn (rU fun i => .int (-i)) (tC (.int 1)))) := po_some (pe_un un_neg pe_int)
  refine wpAny_Slice (thn (po_none.run pins s1 σ H1 (fun o H2 => o = none ∧ H2 = H1) I1 ⟨rfl, rfl⟩) fun vl s2 ⟨l, H2, I2, pl, el, e2⟩ => ?_)
  subst el e2
  refine thn (po_none.run pins s2 σ H2 (fun o H3 => o = none ∧ H3 = H2) I2 ⟨rfl, rfl⟩) fun vu s3 ⟨u, H3, I3, pu, eu, e3⟩ => ?_
  subst eu e3
  refine thn (hst.run pins s3 σ H3 (fun o H4 => o = some (-1) ∧ H4 = H3) I3 ⟨1, rfl, -1, rfl, rfl, rfl⟩) fun vs s4 ⟨o, H4, I4, ps, eo, e4⟩ => ?_
  subst eo e4
  have I5 : Inv X pins σ H4 { s4 with heap := s4.heap.push { cls := .type "slice", data := .fields #[vl, vu, vs] } } := I4.kept (t' := s4.toks) fun b ob q => Heap.get?_push_of_some _ q
  show wpAny (model X.prog X.w) X.A (subscriptTail e (.Slice none none (some (.UnaryOp .USub (.Constant (.int 1) k p1) p2)) p3) (.ref a) (.ref s4.heap.objs.size)) (EP X pins σ Q) X.xe { s4 with heap := s4.heap.push { cls := .type "slice", data := .fields #[vl, vu, vs] } }
  rcases q with ⟨hx, q⟩ | ⟨hx, q⟩
  · obtain ⟨its, r, ht, hz⟩ := I5.list hx
    have hlen := r.length
    refine tail_any (ops := [.ref a, .ref s4.heap.objs.size]) ht.isList.typeIs (PySem.slot_list_getitem.lookup) ?_ (by with_unfolding_all rfl)
    refine wpAny_getItem_list_slice ht.isList (Heap.IsSliceOf.new _ vl vu vs) pl pu ps (by decide) ?_ (by rw [List.size_toArray]; omega)
    rw [PySem.W.krv_pick]
    refine ⟨.ref _, _, I5.laid (t' := s4.toks) (o := .lst xs.reverse) (fun b ob q => Heap.get?_push_of_some _ q) (Nat.le_refl _) ?_, rfl, q _ (I5.hok.fresh (Nat.le_refl _))⟩
    exact ⟨by rw [List.length_reverse]; exact hz, its.reverse, 0, Vals.reverse r, Heap.get?_push_size _ rfl⟩
  · obtain ⟨its, r, ht, hz⟩ := I5.tuple hx
    have hlen := r.length
    cases pl
    cases pu
    cases ps with
    | int i t =>
      refine tail_any (ops := [.ref a, .ref s4.heap.objs.size]) ht.typeIs (PyProof.Rows.slot_tuple_getitem.lookup) ?_ (by with_unfolding_all rfl)
      exact getItem_tuple_rev ht (Heap.IsSliceOf.new _ _ _ _) (newT I5 (Vals.reverse r) (by rw [List.length_reverse]; exact hz) q) (by omega)

section
variable {T : Tab} {N : List Str} {k : Nat} {C : Cfg}
theorem se_rev {a : Ex} (ha : SE T N k C a) : SE T N k C (.rev a) := by
  intro sc X W e ok h
  cases e with
  | Subscript x sl p =>
    cases sl with
    | Slice lo hi st ps =>
      cases lo with
      | some _ => exact no h
      | none =>
        cases hi with
        | some _ => exact no h
        | none =>
          cases st with
          | none => exact no h
          | some q =>
            cases q with
            | UnaryOp op c pp =>
              cases op with
              | USub =>
                cases c with
                | Constant cc j pc =>
                  cases cc with
                  | int i =>
                    by_cases hi : i = 1
                    · subst hi
                      refine PE.imp (pe_revG (ha sc X W x ok h)) fun σ H Q ⟨F, ρ, rel, hp⟩ => ?_
                      refine tE_bind rel hp fun r1 x F1 H1 _ e1 rel1 v1 hp1 => ?_
                      obtain ⟨d, q1, hp3⟩ := opt_post hp1
                      obtain ⟨z, q3, hp5⟩ := opt_post hp3
                      have w := ret_post hp5
                      have rd := v1.rd rel1 q1
                      cases d with
                      | list xs =>
                        cases ok_inj q3
                        obtain ⟨p, vs, rfl, t1, r1⟩ := rd.list rel1.sub
                        exact ⟨p, vs, rfl, .inl ⟨.inl t1, fun b nb => w _ _ _ (Ext.laid rel1.sub nb) (lay_list rel1.sub nb r1.reverse)⟩⟩
                      | tuple xs =>
                        cases ok_inj q3
                        obtain ⟨p, vs, rfl, t1, _, r1⟩ := rd.tup rel1.sub
                        exact ⟨p, vs, rfl, .inr ⟨t1, fun b o nb ho => w _ _ _ (Ext.laid rel1.sub nb) (lay_tup rel1.sub nb ho r1.reverse)⟩⟩
                      | _ => cases q3
                    · exact no (show false = true by
                        have : chkE T N (.rev a) sc (.Subscript x (.Slice none none (some (.UnaryOp .USub (.Constant (.int i) j pc) pp)) ps) p) = false := by
                          unfold chkE
                          split <;> first | rfl | (simp_all; done)
                        rw [this] at h; exact h)
                  | _ => exact no h
                | _ => exact no h
              | _ => exact no h
            | _ => exact no h
    | _ => exact no h
  | _ => exact no h

/-! ### arguments -/
theorem ses_nil : SEs T N k C [] := by
  intro sc X W as ok h
  cases as with
  | nil => exact PA.imp pa_nil fun σ H Q ⟨F, ρ, rel, hp⟩ => (show Post T X W σ F H _ (.ok []) from hp) F H (Ext.refl rel.sub) [] .nil
  | cons _ _ => exact no h
theorem ses_cons {e : Ex} {es : List Ex} (he : SE T N k C e) (hs : SEs T N k C es) : SEs T N k C (e :: es) := by
  intro sc X W as ok h
  cases as with
  | nil => exact no h
  | cons x xs =>
    have h : (!isStar x && chkE T N e sc x && chkEs T N es sc xs) = true := h
    simp only [Bool.and_eq_true, Bool.not_eq_true'] at h
    refine PA.imp (pa_cons (he sc X W x ok h.1.2) (hs sc X W xs ok h.2) (star_cons h.1.1)) fun σ H Q ⟨F, ρ, rel, hp⟩ => ?_
    refine tE_bind rel hp fun r1 x F1 H1 _ e1 rel1 v1 hp1 => ?_
    obtain ⟨d, q1, hp2⟩ := opt_post hp1
    refine tEs_bind rel1 hp2 fun ds vs F2 H2 _ e2 rel2 v2 hp3 => ?_
    exact hp3 F2 H2 (Ext.refl rel2.sub) _ (.cons (Dq.mono e2.ff _ _ (v1.dp q1)) v2)

/-! ### displays -/
theorem se_tup {es : List Ex} (hs : SEs T N k C es) : SE T N k C (.tup es) := by
  intro sc X W e ok h
  cases e with
  | Tuple xs kk p =>
    refine PE.imp (pe_tupG (hs sc X W xs ok h)) fun σ H Q ⟨F, ρ, rel, hp⟩ => ?_
    refine tEs_bind rel hp fun ds vs F1 H1 _ e1 rel1 v1 hp1 => ?_
    obtain ⟨z, q3, hp5⟩ := opt_post hp1
    obtain ⟨g, q3⟩ := grd_ok q3
    cases ok_inj q3
    exact ⟨by rw [v1.length]; exact szOk_le g, fun b o nb ho => ret_post hp5 _ _ _ (Ext.laid rel1.sub nb) (lay_tup rel1.sub nb ho v1)⟩
  | _ => exact no h

/-- a new thing that only the reader holds -/
def tN (T : Tab) (X : Cx) (C : Cfg) (W : WX) (e : Ex) : TE := fun σ H Q => ∃ F ρ, Rel X.K F σ H ρ ∧ (match ev C ρ e with
  | .ok r => ∃ v, r = (false, v) ∧ ∀ p o F' H', Ext F H F' H' → H p = none → F' p = none → H' p = some o → Cnt X.K F' p o v → Q (.ref p) H'
  | .exc c p => ∀ F' H' cls d, Ext F H F' H' → Xr T X.K X.mg c p cls d H' → W cls d σ H'
  | .bad => False)
def SN (T : Tab) (N : List Str) (k : Nat) (C : Cfg) (e : Ex) : Prop := ∀ (sc : Scope) (X : Cx) (W : WX) (a : Expr), Ok T N k C sc X W → chkE T N e sc a = true → PE X a (tN T X C W e)
/-- freezing what is new -/
theorem se_of_sn {e : Ex} (h : SN T N k C e) (hv : ∀ (ρ : Env) r, ev C ρ e = .ok r → r.1 = false) : SE T N k C e := by
  intro sc X W a ok hc
  refine PE.imp (h sc X W a ok hc) fun σ H Q ⟨F, ρ, rel, hp⟩ => ⟨F, ρ, rel, ?_⟩
  cases e1 : ev C ρ e with
  | ok r =>
    rw [e1] at hp
    obtain ⟨b, v⟩ := r
    have : b = false := hv ρ _ e1
    subst this
    refine ⟨v, rfl, fun p o F' H' ex hn fn hs c => ?_⟩
    have ex2 : Ext F H (upd F' p o) H' := ⟨ex.ff.trans (same_upd fn), ex.hh, fun b u q => by
      by_cases hb : b = p
      · subst hb; rw [upd_same] at q; rw [← q]; exact hs
      · rw [upd_ne hb] at q; exact ex.sub b u q, fun b u q => by
      by_cases hb : b = p
      · subst hb; exact .inr hn
      · rw [upd_ne hb] at q; exact ex.new b u q⟩
    exact hp _ _ ex2 (.ref p) (c.frep fn)
  | exc c p => rw [e1] at hp; exact hp
  | bad => rw [e1] at hp; exact hp
theorem sn_lst {es : List Ex} (hs : SEs T N k C es) : SN T N k C (.lst es) := by
  intro sc X W e ok h
  cases e with
  | List xs p =>
    refine PE.imp (pe_lst (hs sc X W xs ok h)) fun σ H Q ⟨F, ρ, rel, hp⟩ => ⟨F, ρ, rel, ?_⟩
    have hp : (match (evs C ρ es).bind fun xs => opt (grdO (szOk xs.length) (some (PyData.list xs))) ret with
      | .ok r => ∃ v, r = (false, v) ∧ ∀ p o F' H', Ext F H F' H' → H p = none → F' p = none → H' p = some o → Cnt X.K F' p o v → Q (.ref p) H'
      | .exc c p => ∀ F' H' cls d, Ext F H F' H' → Xr T X.K X.mg c p cls d H' → W cls d σ H'
      | .bad => False) := hp
    cases e1 : evs C ρ es with
    | ok ds =>
      rw [e1] at hp
      intro F1 H1 ex vs hv
      cases g : szOk ds.length with
      | false => simp [Res.bind, g, grdO, opt] at hp
      | true =>
        simp only [Res.bind, g, grdO, opt, ret] at hp
        obtain ⟨v, ev, hp⟩ := hp
        cases ev
        refine ⟨by rw [hv.length]; exact szOk_le g, fun q nq => hp q (.lst vs) F1 _ (ex.trans (Ext.free ex.sub nq)) (ex.hh.free nq) (ex.sub.free nq) upd_same hv⟩
    | exc c p => rw [e1] at hp; exact hp
    | bad => rw [e1] at hp; exact hp
  | _ => exact no h

/-! ### subscripts -/
theorem se_idx {a i : Ex} (ha : SE T N k C a) (hi : SE T N k C i) : SE T N k C (.idx a i) := by
  intro sc X W e ok h
  cases e with
  | Subscript x y p =>
    have h : (!isSlice y && chkE T N a sc x && chkE T N i sc y) = true := h
    simp only [Bool.and_eq_true, Bool.not_eq_true'] at h
    refine PE.imp (pe_ix (ix_ok (by have := ok.hu; omega)) (ha sc X W x ok h.1.2) (hi sc X W y ok h.2) (plain_ix h.1.1)) fun σ H Q ⟨F, ρ, rel, hp⟩ => ?_
    refine tE_bind rel hp fun r1 x F1 H1 _ e1 rel1 v1 hp1 => ?_
    refine tE_bind rel1 hp1 fun r2 y F2 H2 _ e2 rel2 v2 hp2 => ?_
    obtain ⟨d, q1, hp3⟩ := opt_post hp2
    obtain ⟨z, q3, hp5⟩ := opt_post hp3
    exact ⟨F2, r1.2, d, z, rel2.sub, (VR.mono e2 v1).rv rel2, v2.rd rel2 q1, q3, fun w hw => ret_post hp5 w F2 H2 (Ext.refl rel2.sub) hw⟩
  | _ => exact no h
theorem intD_some {d : D} {i : Int} (h : intD d = some i) : d = .int i := by
  cases d with
  | int j => cases ok_inj h; rfl
  | _ => cases h
theorem se_slf {a lo : Ex} (ha : SE T N k C a) (hl : SE T N k C lo) : SE T N k C (.slf a lo) := by
  intro sc X W e ok h
  cases e with
  | Subscript x y p =>
    cases y with
    | Slice lo' hi st ps =>
      match lo', hi, st, h with
      | some l, none, none, h =>
        have h : (chkE T N a sc x && chkE T N lo sc l) = true := h
        rw [Bool.and_eq_true] at h
        refine PE.imp (pe_slice sl_ok (ha sc X W x ok h.1) (po_some (hl sc X W l ok h.2)) po_none) fun σ H Q ⟨F, ρ, rel, hp⟩ => ?_
        refine tE_bind rel hp fun r1 x F1 H1 _ e1 rel1 v1 hp1 => ?_
        refine tE_bind rel1 hp1 fun r2 y F2 H2 _ e2 rel2 v2 hp2 => ?_
        obtain ⟨d, q1, hp3⟩ := opt_post hp2
        obtain ⟨d2, q2, hp4⟩ := opt_post hp3
        obtain ⟨i, q3, hp5⟩ := opt_post hp4
        obtain ⟨z, q4, hp6⟩ := opt_post hp5
        have := intD_some q3
        subst this
        exact ⟨i, (v2.rd rel2 q2).int, F2, d, z, rel2.sub, (VR.mono e2 v1).rd rel2 q1, q4, ret_post hp6⟩
      | none, _, _, h => exact no h
      | some _, some _, _, h => exact no h
      | some _, none, some _, h => exact no h
    | _ => exact no h
  | _ => exact no h
theorem se_slt {a hi : Ex} (ha : SE T N k C a) (hh : SE T N k C hi) : SE T N k C (.slt a hi) := by
  intro sc X W e ok h
  cases e with
  | Subscript x y p =>
    cases y with
    | Slice lo' hi' st ps =>
      match lo', hi', st, h with
      | none, some l, none, h =>
        have h : (chkE T N a sc x && chkE T N hi sc l) = true := h
        rw [Bool.and_eq_true] at h
        refine PE.imp (pe_slice sl_ok (ha sc X W x ok h.1) po_none (po_some (hh sc X W l ok h.2))) fun σ H Q ⟨F, ρ, rel, hp⟩ => ?_
        refine tE_bind rel hp fun r1 x F1 H1 _ e1 rel1 v1 hp1 => ?_
        refine tE_bind rel1 hp1 fun r2 y F2 H2 _ e2 rel2 v2 hp2 => ?_
        obtain ⟨d, q1, hp3⟩ := opt_post hp2
        obtain ⟨d2, q2, hp4⟩ := opt_post hp3
        obtain ⟨i, q3, hp5⟩ := opt_post hp4
        obtain ⟨z, q4, hp6⟩ := opt_post hp5
        have := intD_some q3
        subst this
        exact ⟨i, (v2.rd rel2 q2).int, F2, d, z, rel2.sub, (VR.mono e2 v1).rd rel2 q1, q4, ret_post hp6⟩
      | some _, _, _, h => exact no h
      | none, none, _, h => exact no h
      | none, some _, some _, h => exact no h
    | _ => exact no h
  | _ => exact no h
theorem se_slb {a lo hi : Ex} (ha : SE T N k C a) (hl : SE T N k C lo) (hh : SE T N k C hi) : SE T N k C (.slb a lo hi) := by
  intro sc X W e ok h
  cases e with
  | Subscript x y p =>
    cases y with
    | Slice lo' hi' st ps =>
      match lo', hi', st, h with
      | some l, some u, none, h =>
        have h : (chkE T N a sc x && chkE T N lo sc l && chkE T N hi sc u) = true := h
        simp only [Bool.and_eq_true] at h
        refine PE.imp (pe_slice sl_ok (ha sc X W x ok h.1.1) (po_some (hl sc X W l ok h.1.2)) (po_some (hh sc X W u ok h.2))) fun σ H Q ⟨F, ρ, rel, hp⟩ => ?_
        refine tE_bind rel hp fun r1 x F1 H1 _ e1 rel1 v1 hp1 => ?_
        refine tE_bind rel1 hp1 fun r2 y F2 H2 _ e2 rel2 v2 hp2 => ?_
        obtain ⟨d2, q2, hp3⟩ := opt_post hp2
        obtain ⟨i, q3, hp4⟩ := opt_post hp3
        refine ⟨i, by have := intD_some q3; subst this; exact (v2.rd rel2 q2).int, ?_⟩
        refine tE_bind rel2 hp4 fun r3 z F3 H3 _ e3 rel3 v3 hp5 => ?_
        obtain ⟨d3, q4, hp6⟩ := opt_post hp5
        obtain ⟨j, q5, hp7⟩ := opt_post hp6
        obtain ⟨d, q1, hp8⟩ := opt_post hp7
        obtain ⟨z, q6, hp9⟩ := opt_post hp8
        have := intD_some q5
        subst this
        exact ⟨j, (v3.rd rel3 q4).int, F3, d, z, rel3.sub, (VR.mono e3 (VR.mono e2 v1)).rd rel3 q1, q6, ret_post hp9⟩
      | none, _, _, h => exact no h
      | some _, none, _, h => exact no h
      | some _, some _, some _, h => exact no h
    | _ => exact no h
  | _ => exact no h
end
end RL
/-! RLSound4: calls, comprehensions, and all of the expressions. -/
namespace RL
open PySem PySem.Spec PyProof.Rows L2
section
variable {T : Tab} {N : List Str} {k : Nat} {C : Cfg}

/-! ### calls of defs -/
theorem pe_callS0 {X : Cx} {CX : CXT} {k : Nat} {f : Addr} {fd : FuncData} {ps : List Str} {sp : Sp} {E : L2.St → XK} {x : Str} {p pos : Pos} (F : FnOk X.prog X.w X.K X.mg X.base CX k f fd ps sp) (hr : Room k X.A) (hg : Gl X x) (hm : X.mg x = some (.ref f))
    (hk : PySem.W.keepIn X.K (.ref f) = true) (hb : Binds X.K fd ps []) (hx : ∀ σ, PassesAt CX X σ (E σ)) (hdb : (x == ("__debug__" : Str)) = false) : PE X (.Call (.Name x p) [] [] pos) (fun σ H Q => sp [] H Q (E σ)) := by
  refine ⟨fun pins s σ H Q I h => ?_⟩
  refine wpAny_Call_Name_kw (ld_glob I hg hm ?_ hdb)
  exact PySem.W.callWith_K0 I.kIn hk (run_fnS (us := []) F hr hb (hx σ) I .nil h)
theorem ck_post {X : Cx} {W : WX} {σ : L2.St} {ρ : Env} {Q : VK} {F H : Hp} {r : Res Vl} (h : Post T X W σ F H (RV1 X σ ρ Q) (r.bind fun v => .ok (false, v))) : CkP T X.K X.mg F H Q (WE W σ) r := by
  cases r with
  | ok v => exact fun x F' H' e hv => h F' H' e x hv
  | exc c p => exact fun F' H' cls d e hx => h F' H' cls d e hx
  | bad => exact h
theorem res_assoc {α β γ : Type} {r : Res α} {g : α → Res β} {h : β → Res γ} : (r.bind g).bind h = r.bind fun x => (g x).bind h := by cases r <;> rfl
theorem inv_call {f : Nat} {es : List Ex} {sc : Scope} {x : Str} {p pos : Pos} {args : List Expr} (h : chkE T N (.call f es) sc (.Call (.Name x p) args [] pos) = true) :
    (T.mks[f]? = some (some x) ∧ ∃ es', es = .con .none :: es' ∧ glB sc x = true ∧ nmB x = true ∧ args ≠ [] ∧ chkEs T N es' sc args = true) ∨ (decide (T.fns[f]? = some (some x)) && glB sc x && nmB x && chkEs T N es sc args) = true := by
  cases es with
  | nil =>
    have h : cond (decide (T.mks[f]? = some (some x))) (glB sc x && nmB x && false) (decide (T.fns[f]? = some (some x)) && glB sc x && nmB x && chkEs T N [] sc args) = true := h
    by_cases hk : T.mks[f]? = some (some x)
    · rw [decide_eq_true hk] at h; simp at h
    · rw [decide_eq_false hk] at h; exact .inr h
  | cons e0 es' =>
    have h : cond (decide (T.mks[f]? = some (some x))) (glB sc x && nmB x && (isCN e0 && (!args.isEmpty && chkEs T N es' sc args))) (decide (T.fns[f]? = some (some x)) && glB sc x && nmB x && chkEs T N (e0 :: es') sc args) = true := h
    by_cases hk : T.mks[f]? = some (some x)
    · rw [decide_eq_true hk] at h
      have h : (glB sc x && nmB x && (isCN e0 && (!args.isEmpty && chkEs T N es' sc args))) = true := h
      simp only [Bool.and_eq_true] at h
      obtain ⟨⟨h2, h3⟩, h5, h6, h4⟩ := h
      have e00 : e0 = .con .none := by
        unfold isCN at h5
        split at h5
        · rfl
        · exact no h5
      subst e00
      have hne : args ≠ [] := fun z => by rw [z] at h6; exact Bool.false_ne_true h6
      exact .inl ⟨hk, es', rfl, h2, h3, hne, h4⟩
    · rw [decide_eq_false hk] at h; exact .inr h
theorem se_mk {f : Nat} {es : List Ex} (hs : SEs T N k C es) {sc : Scope} {X : Cx} {W : WX} {x : Str} {p pos : Pos} {args : List Expr} (ok : Ok T N k C sc X W) (h1 : T.mks[f]? = some (some x)) (h2 : glB sc x = true) (h3 : nmB x = true) (h4 : chkEs T N es sc args = true) (hne : args ≠ []) : PE X (.Call (.Name x p) args [] pos) (tE T X C W (.call f (.con .none :: es))) := by
  obtain ⟨n1, n2, _⟩ := nmB_ok h3
  obtain ⟨Ca, m1, m2, nok, m⟩ := ok.wd.mks f x h1
  have pa := hs sc X W args ok h4
  cases args with
  | nil => exact absurd rfl hne
  | cons x' xs' =>
    cases es with
    | nil => exact no h4
    | cons e' es' =>
      have h5 : (!isStar x' && chkE T N e' sc x' && chkEs T N es' sc xs') = true := h4
      simp only [Bool.and_eq_true, Bool.not_eq_true'] at h5
      have s1 := star_cons (es := xs') (env := X.env) h5.1.1
      have s2 := chkEs_star (pos := pos) (env := X.env) h5.2
      rcases m with hb | ⟨j, a, fd, ps, ck', ej, M, B, FO, hck⟩
      · refine PE.imp (pe_mkB m2 (glB_ok ok.sc h2) m1 pa n1 s1 s2) fun σ H Q ⟨F, ρ, rel, hp⟩ => ?_
        have hp : Post T X W σ F H (RV1 X σ ρ Q) (((evs C ρ (e' :: es')).bind fun ds => .ok (.none :: ds)).bind fun xs => (C.ck f xs).bind fun v => .ok (false, v)) := hp
        rw [res_assoc] at hp
        refine tEs_bind rel hp fun ds vs F1 H1 _ e1 rel1 v1 hp1 => ?_
        have hp1 : Post T X W σ F1 H1 (RV1 X σ ρ Q) ((C.ck f (.none :: ds)).bind fun v => .ok (false, v)) := hp1
        rw [hb] at hp1
        exact hp1
      · subst ej
        refine PE.imp (pe_mkS (E := WE W) M FO (ok.room.mono (by omega)) (glB_ok ok.sc h2) m1 B (fun σ => passAt ok.tk σ) pa n1 s1 s2) fun σ H Q ⟨F, ρ, rel, hp⟩ => ?_
        have hp : Post T X W σ F H (RV1 X σ ρ Q) (((evs C ρ (e' :: es')).bind fun ds => .ok (.none :: ds)).bind fun xs => (C.ck f xs).bind fun v => .ok (false, v)) := hp
        rw [res_assoc] at hp
        refine tEs_bind rel hp fun ds vs F1 H1 _ e1 rel1 v1 hp1 => ?_
        have hp1 : Post T X W σ F1 H1 (RV1 X σ ρ Q) ((C.ck f (.none :: ds)).bind fun v => .ok (false, v)) := hp1
        intro y dy hy hdy hne2
        cases q : C.ck f (.none :: ds) with
        | ok v => exact absurd q (nok _ v)
        | bad => rw [q] at hp1; exact hp1.elim
        | exc c pp =>
          rw [q] at hp1
          obtain ⟨q1, q2⟩ := hck _ c pp q
          have ex1 : Ext F1 H1 F1 (upd H1 dy (.own y)) := Ext.free rel1.sub hdy
          have ex2 : Ext F1 (upd H1 dy (.own y)) F1 (upd (upd H1 dy (.own y)) y (.ins Ca dy [])) := Ext.free ex1.sub (by rw [upd_ne (fun z => hne2 z.symm)]; exact hy)
          have ex := ex1.trans ex2
          exact ⟨F1, .ref y, vs, ds, c, pp, rfl, ex.sub, v1, by rw [← q2]; rfl, q1, fun F' H' cls d e hx => hp1 F' H' cls d (ex.trans e) hx⟩
theorem inv_du {f : Nat} {es : List Ex} {sc : Scope} {o : Expr} {m : Str} {apos pos : Pos} {as : List Expr} {kws : List Keyword} (h : chkE T N (.call f es) sc (.Call (.Attribute o m apos) as kws pos) = true) : ∃ x p args cp, o = .Call (.Name x p) args [] cp ∧ as = [] ∧ kws = [] ∧
    (decide (T.dus[f]? = some (some x)) && decide (m = ("undo" : Str)) && glB sc x && nmB x && lineB apos pos && !args.isEmpty && chkEs T N es sc args) = true := by
  cases o with
  | Call fn args kws2 cp =>
    cases fn with
    | Name x p =>
      match kws2, as, kws, h with
      | [], [], [], h => exact ⟨x, p, args, cp, rfl, rfl, rfl, h⟩
      | _ :: _, _, _, h => exact no h
      | [], _ :: _, _, h => exact no h
      | [], [], _ :: _, h => exact no h
    | _ => exact no h
  | _ => exact no h
/-- Desk(..).undo(): it raises -/
theorem se_du {f : Nat} {es : List Ex} (hs : SEs T N k C es) {sc : Scope} {X : Cx} {W : WX} {o : Expr} {m : Str} {apos pos : Pos} {as : List Expr} {kws : List Keyword} (ok : Ok T N k C sc X W) (h : chkE T N (.call f es) sc (.Call (.Attribute o m apos) as kws pos) = true) : PE X (.Call (.Attribute o m apos) as kws pos) (tE T X C W (.call f es)) := by
  obtain ⟨x, p, args, cp, rfl, rfl, rfl, hd⟩ := inv_du h
  simp only [Bool.and_eq_true, decide_eq_true_eq, Bool.not_eq_true'] at hd
  obtain ⟨⟨⟨⟨⟨⟨h1, rfl⟩, h2⟩, h3⟩, h4⟩, h5⟩, h6⟩ := hd
  obtain ⟨n1, n2, _⟩ := nmB_ok h3
  obtain ⟨Ca, m1, m2, mm⟩ := ok.wd.dus f x h1
  have pa := hs sc X W args ok h6
  cases args with
  | nil => cases h5
  | cons x' xs' =>
    cases es with
    | nil => exact no h6
    | cons e' es' =>
      have h7 : (!isStar x' && chkE T N e' sc x' && chkEs T N es' sc xs') = true := h6
      simp only [Bool.and_eq_true, Bool.not_eq_true'] at h7
      have s1 := star_cons (es := xs') (env := X.env) h7.1.1
      have s2 := chkEs_star (pos := cp) (env := X.env) h7.2
      have hbase : attributeBase (.Call (.Name x p) (x' :: xs') [] cp) "undo" X.env (eval (.Call (.Name x p) (x' :: xs') [] cp) X.env) = eval (.Call (.Name x p) (x' :: xs') [] cp) X.env := base_ix rfl
      have ht := mcall_of (args := []) (kws := []) (apos := apos) (pos := pos) hbase fun ov => mcall_line (o := .Call (.Name x p) (x' :: xs') [] cp) (m := "undo") (env := X.env) (ov := ov) (n := 0) (args := backTo pos (starEach [] X.env)) (kws := backToKw pos (keywordEach [] X.env)) rfl h4
      rcases mm with hb | ⟨j, aI, fdI, psI, aU, fdU, psU, ck, ej, M, dc, mU, BI, BU, FI, FU, hck⟩
      · have P1 := pe_mkB (p := p) (pos := cp) m2 (glB_ok ok.sc h2) m1 pa n1 s1 s2
        refine ⟨fun pins s σ H Q I h => PySem.W.methodCall_KW (thn (P1.run pins s σ H (fun _ _ => False) I ?_) fun u s1 ⟨x, H1, I1, rx, z⟩ => z.elim) ht⟩
        obtain ⟨F, ρ, rel, hp⟩ := h
        refine tEs_bind rel hp fun ds vs F1 H1 _ e1 rel1 v1 hp1 => ?_
        have hp1 : Post T X W σ F1 H1 (RV1 X σ ρ Q) ((C.ck f ds).bind fun v => .ok (false, v)) := hp1
        rw [hb] at hp1
        exact hp1
      · subst ej
        have P1 := pe_mk2 (E := WE W) (p := p) (pos := cp) M FI (ok.room.mono (by omega)) (glB_ok ok.sc h2) m1 BI (fun σ => passAt ok.tk σ) pa n1 s1 s2
        refine PE.imp (pe_methS0 (E := WE W) P1 dc.cls mU FU (ok.room.mono (by omega)) BU (fun σ => passAt ok.tk σ) ht) fun σ H Q ⟨F, ρ, rel, hp⟩ => ?_
        refine tEs_bind rel hp fun ds vs F1 H1 _ e1 rel1 v1 hp1 => ?_
        have hp1 : Post T X W σ F1 H1 (RV1 X σ ρ Q) ((C.ck f ds).bind fun v => .ok (false, v)) := hp1
        intro y dy hy hdy hne
        rcases hck ds with z | ⟨d1, d2, rfl, z⟩
        · rw [z] at hp1; exact hp1.elim
        · obtain ⟨w1, w2, rfl, q1, q2⟩ : ∃ w1 w2, vs = [w1, w2] ∧ Dq X.K F1 w1 d1 ∧ Dq X.K F1 w2 d2 := by
            cases v1 with
            | cons a b =>
              cases b with
              | cons c d => cases d; exact ⟨_, _, rfl, a, c⟩
          have ex1 : Ext F1 H1 F1 (upd H1 dy (.own y)) := Ext.free rel1.sub hdy
          have hy' : upd H1 dy (.own y) y = none := by rw [upd_ne (fun z => hne z.symm)]; exact hy
          have ex2 : Ext F1 (upd H1 dy (.own y)) F1 (upd (upd H1 dy (.own y)) y (.ins Ca dy [])) := Ext.free ex1.sub hy'
          have ex := ex1.trans ex2
          refine ⟨F1, y, dy, w1, w2, d1, d2, rfl, ex.sub, rel1.sub.free hy, upd_same, q1, q2, ?_⟩
          rcases z with ⟨c, pp, z1, z2⟩ | ⟨v, z1, z2⟩
          · rw [z1]
            rw [z2] at hp1
            exact fun F' H' cls d e xr => hp1 F' H' cls d (ex.trans e) xr
          · rw [z1]
            rw [z2] at hp1
            intro F' H2 H3 s e hs g1 g2 g3
            have hys : y ≠ s := fun z => by
              have := e.hh _ _ (upd_same (H := upd H1 dy (.own y)) (a := y) (o := .ins Ca dy []))
              rw [z, hs] at this; cases this
            refine ⟨rfl, y, dy, DF w1 s, rfl, g1, rfl, F', ⟨y, s, d1, [d2]⟩, rfl, ?_, ?_, .inl ⟨Nat.le_refl _, fun F4 H4 cls dd e4 xr => ?_⟩⟩
            · intro b u q
              by_cases hb : b = y
              · have : F' y = none := by
                  cases q' : F' y with
                  | none => rfl
                  | some u' =>
                    rcases (ex.trans e).new _ _ q' with z | z
                    · rw [rel1.sub.free hy] at z; cases z
                    · exfalso
                      rcases e.new _ _ q' with z' | z'
                      · rw [rel1.sub.free hy] at z'; cases z'
                      · rw [upd_same] at z'; cases z'
                rw [hb, this] at q; cases q
              · have hbs : b ≠ s := fun z => by rw [z] at q; have := e.sub _ _ q; rw [hs] at this; cases this
                rw [g3 b hb hbs]; exact e.sub _ _ q
            · refine ⟨dy, w1, [w2], g1, Dq.mono e.ff _ _ q1, g2, .cons (Dq.mono e.ff _ _ q2) .nil, ?_, ?_⟩
              · cases q' : F' y with
                | none => rfl
                | some u' =>
                  exfalso
                  rcases e.new _ _ q' with z' | z'
                  · rw [rel1.sub.free hy] at z'; cases z'
                  · rw [upd_same] at z'; cases z'
              · cases q' : F' s with
                | none => rfl
                | some u' => have := e.sub _ _ q'; rw [hs] at this; cases this
            · have sm : Same H1 H3 := fun b u q => by
                have hb1 : b ≠ y := ne_of_none q hy
                have q2 := (ex.trans e).hh _ _ q
                have hb2 : b ≠ s := fun z => by rw [z, hs] at q2; cases q2
                rw [g3 b hb1 hb2]; exact q2
              refine hp1 F4 H4 cls dd ⟨e.ff.trans e4.ff, sm.trans e4.hh, e4.sub, fun b u q => ?_⟩ xr
              rcases e4.new _ _ q with z | z
              · exact (ex.trans e).new _ _ z
              · right
                exact sm.free z
theorem se_call {f : Nat} {es : List Ex} (hs : SEs T N k C es) (hs2 : SEs T N k C es.tail) : SE T N k C (.call f es) := by
  intro sc X W e ok h
  cases e with
  | Call fn args kws pos =>
    cases fn with
    | Name x p =>
      cases kws with
      | cons _ _ => exact no h
      | nil =>
        rcases inv_call h with ⟨hk, es', rfl, h2, h3, hne, h4⟩ | h
        · exact se_mk hs2 ok hk h2 h3 h4 hne
        simp only [Bool.and_eq_true, decide_eq_true_eq] at h
        obtain ⟨⟨⟨h1, h2⟩, h3⟩, h4⟩ := h
        obtain ⟨n1, n2, _⟩ := nmB_ok h3
        obtain ⟨a, fd, ps, m1, m2, m3, m4, m5⟩ := ok.wd.fns f x h1
        have pa := hs sc X W args ok h4
        cases args with
        | nil =>
          cases es with
          | cons _ _ => exact no h4
          | nil =>
            refine PE.imp (pe_callS0 (E := WE W) m4 ok.room (glB_ok ok.sc h2) m1 m2 m3 (fun σ => passAt ok.tk σ) n1) fun σ H Q ⟨F, ρ, rel, hp⟩ => ?_
            have hp : Post T X W σ F H (RV1 X σ ρ Q) ((C.ck f []).bind fun v => .ok (false, v)) := hp
            refine ⟨F, [], rel.sub, .nil, m5 [] fun z => ?_, ck_post hp⟩
            rw [z] at hp; exact hp
        | cons x' xs' =>
          have st := chkEs_star (pos := pos) (env := X.env) h4
          cases es with
          | nil => exact no h4
          | cons e' es' =>
            have h5 : (!isStar x' && chkE T N e' sc x' && chkEs T N es' sc xs') = true := h4
            simp only [Bool.and_eq_true, Bool.not_eq_true'] at h5
            refine PE.imp (pe_callS (E := WE W) m4 ok.room (glB_ok ok.sc h2) m1 m2 m3 (fun σ => passAt ok.tk σ) pa n1 (star_cons h5.1.1) (chkEs_star (pos := pos) (env := X.env) h5.2)) fun σ H Q ⟨F, ρ, rel, hp⟩ => ?_
            refine tEs_bind rel hp fun ds vs F1 H1 _ e1 rel1 v1 hp1 => ?_
            refine ⟨F1, ds, rel1.sub, v1, m5 ds fun z => ?_, ck_post hp1⟩
            rw [z] at hp1; exact hp1
    | Attribute o m apos => exact se_du hs ok h
    | _ => exact no h
  | _ => exact no h

/-! ### built-in functions of one value -/
theorem sn_list {a : Ex} (ha : SE T N k C a) : SN T N k C (.fn1 .list a) := by
  intro sc X W e ok h
  cases e with
  | Call fn args kws pos =>
    cases fn with
    | Name x p =>
      match args, kws, h with
      | [q], [], h =>
        have h : (f1Ok .list && decide (x = f1Str .list) && glB sc x && !isStar q && chkE T N a sc q) = true := h
        simp only [Bool.and_eq_true, decide_eq_true_eq, Bool.not_eq_true'] at h
        obtain ⟨⟨⟨⟨_, rfl⟩, h2⟩, h3⟩, h4⟩ := h
        refine PE.imp (pe_callTy call_listG (glB_ok ok.sc h2) (ok.wd.blt _ (by simp [bltNames, f1Str])) (by decide +kernel) (pa_cons (ha sc X W q ok h4) pa_nil (star_cons h3)) (by decide) (by decide) (star_cons h3)) fun σ H Q ⟨F, ρ, rel, hp⟩ => ⟨F, ρ, rel, ?_⟩
        cases e1 : ev C ρ a with
        | ok r =>
          have e2 : ev C ρ (.fn1 .list a) = opt (fn1D .list r.2) ret := by
            show (ev C ρ a).bind _ = _; rw [e1]; rfl
          rw [e2] at hp
          intro F1 H1 ex x hv
          have rel1 := rel.ext ex
          have rv := hv.rv rel1
          cases q : r.2 with
          | dat d =>
            rw [q] at hp rv
            cases d with
            | list xs =>
              obtain ⟨v, ev, hp⟩ := hp
              cases ev
              exact ⟨x, F1, _, xs, rfl, rel1.sub, rv, rfl, fun b vs nb hvs => hp b (.lst vs) F1 _ (ex.trans (Ext.free rel1.sub nb)) (ex.hh.free nb) (rel1.sub.free nb) upd_same hvs⟩
            | tuple xs =>
              obtain ⟨v, ev, hp⟩ := hp
              cases ev
              exact ⟨x, F1, _, xs, rfl, rel1.sub, rv, rfl, fun b vs nb hvs => hp b (.lst vs) F1 _ (ex.trans (Ext.free rel1.sub nb)) (ex.hh.free nb) (rel1.sub.free nb) upd_same hvs⟩
            | _ => exact hp.elim
          | _ => rw [q] at hp; exact hp.elim
        | exc c p =>
          have e2 : ev C ρ (.fn1 .list a) = .exc c p := by
            show (ev C ρ a).bind _ = _; rw [e1]; rfl
          rw [e2] at hp; exact hp
        | bad =>
          have e2 : ev C ρ (.fn1 .list a) = .bad := by
            show (ev C ρ a).bind _ = _; rw [e1]; rfl
          rw [e2] at hp; exact hp
      | [], _, h => exact no h
      | [_], _ :: _, h => exact no h
      | _ :: _ :: _, _, h => exact no h
    | _ => exact no h
  | _ => exact no h
/-- a function of one value, by its rule -/
theorem f1_read {X : Cx} {W : WX} {f : F1} {a : Ex} : ∀ σ H Q, tE T X C W (.fn1 f a) σ H Q → tCB (rF1 X.K f) (tCons (tE T X C W a) tNil) σ H Q := fun σ H Q ⟨F, ρ, rel, hp⟩ => by
  refine tE_bind rel hp fun r1 x F1 H1 _ e1 rel1 v1 hp1 => ?_
  obtain ⟨z, q3, hp5⟩ := opt_post hp1
  exact ⟨x, F1, r1.2, z, rfl, rel1.sub, v1.rv rel1, q3, ret_post hp5⟩
theorem log_small {n : Nat} (h : n < 1000000) : n.log2 < 1920 := by
  by_cases h0 : n = 0
  · subst h0; decide
  · refine (Nat.log2_lt h0).mpr (Nat.lt_of_lt_of_le (show n < 2 ^ 20 by omega) (Nat.pow_le_pow_right (by decide) (by decide)))
theorem call_strG {X : Cx} : CallR X (.type "str") (rF1 X.K .str) := by
  intro pins s σ H xs us Q I r h
  obtain ⟨x, F, v, z, rfl, sF, hx, hb, k⟩ := h
  have fin : ∀ {w : V}, Dq X.K F w z → Q w H := fun hd => k _ F H (Ext.refl sF) hd
  cases v with
  | dat d =>
    have hx' := hx.rd
    cases d with
    | int i =>
      obtain ⟨g, hb⟩ := grd_ok (show grdO (decide (i.natAbs < 1000000)) (some (PyData.str (toString i))) = some z from hb)
      cases ok_inj hb
      have e1 := hx'.int
      subst e1
      exact call_str_int pins s σ H _ us Q I r ⟨i, rfl, log_small (of_decide_eq_true g), fin (.str _)⟩
    | str a =>
      cases ok_inj (show some (PyData.str a) = some z from hb)
      have e1 : x = .str a := by
        rcases hx' with h | ⟨_, _, _, _, z, _⟩
        · cases h; rfl
        · cases z
      subst e1
      exact SkE.call_str_str pins s σ H _ us Q I r ⟨a, rfl, fin (.str _)⟩
    | _ => cases hb
  | _ => cases hb
theorem str_of {K : W.Frag} {F H : Hp} {x : V} {a : Str} (h : RD K F H x (.str a)) : x = .str a := by
  rcases h with h | ⟨_, _, _, _, z, _⟩
  · cases h; rfl
  · cases z
theorem dq_chars {K : W.Frag} {F : Hp} : ∀ cs : List Nat, DqAll K F (cs.map fun c => V.str ⟨#[c]⟩) (cs.map fun c => PyData.str ⟨#[c]⟩)
  | [] => .nil
  | c :: cs => .cons (.str _) (dq_chars cs)
theorem call_charsG {X : Cx} (hh : X.A.handled = none) : CallR X (.type "list") (rF1 X.K .chars) := by
  intro pins s σ H xs us Q I r h
  obtain ⟨x, F, v, z, rfl, sF, hx, hb, k⟩ := h
  cases v with
  | dat d =>
    have hx' := hx.rd
    cases d with
    | str a =>
      obtain ⟨g, hb⟩ := grd_ok (show grdO (szOk a.length) (some (PyData.list (a.cps.toList.map fun c => .str ⟨#[c]⟩))) = some z from hb)
      cases ok_inj hb
      have e1 := str_of hx'
      subst e1
      obtain ⟨u, rfl, t, rfl⟩ := vals1 r
      have hz : a.cps.size ≤ sizeLine := szOk_le g
      have hn : H s.heap.objs.size = none := I.hok.fresh (Nat.le_refl _)
      refine call_list_str hh a t (fun h' tk acc c' kp e hi => ?_) hz
      have hv : Vals (a.cps.toList.map fun c => V.str ⟨#[c]⟩) acc.toList := by
        have e0 : (a.cps.toList.map fun c => V.str ⟨#[c]⟩) = (List.range acc.toList.length).map fun i => V.str ⟨#[a.cps.toList.getD i 0]⟩ := by
          apply List.ext_getElem?
          intro i
          have hl : acc.toList.length = a.cps.toList.length := by rw [Array.length_toList, Array.length_toList]; exact hi.1
          rw [List.getElem?_map, List.getElem?_map, hl]
          by_cases q : i < a.cps.toList.length
          · rw [List.getElem?_range q, List.getElem?_eq_getElem q]
            have z : a.cps.toList.getD i 0 = a.cps.toList[i] := by rw [List.getD_eq_getElem?_getD, List.getElem?_eq_getElem q]; rfl
            show some (V.str ⟨#[a.cps.toList[i]]⟩) = some (V.str ⟨#[a.cps.toList.getD i 0]⟩)
            rw [z]
          · rw [List.getElem?_eq_none (by omega), List.getElem?_eq_none (by rw [List.length_range]; omega)]
            rfl
        rw [e0]
        refine vals_of_get acc.toList _ fun j u hj => ?_
        obtain ⟨c, tk, q1, q2⟩ := hi.2 j u (by rw [← hj, Array.getElem?_toList])
        subst q2
        refine ⟨tk, ?_⟩
        have : a.cps.toList.getD j 0 = c := by
          rw [List.getD_eq_getElem?_getD, Array.getElem?_toList, q1]; rfl
        rw [this]
      refine ⟨.ref s.heap.objs.size, _, I.laid (t' := tk) kp (Nat.le_refl _) (show ObjOk X.prog X.w _ h' _ (.lst (a.cps.toList.map fun c => V.str ⟨#[c]⟩)) from ⟨by rw [List.length_map, Array.length_toList]; exact hz, acc.toList, c', hv, e⟩), rfl, k _ _ _ (Ext.laid sF hn) (lay_list sF hn (dq_chars _))⟩
    | _ => cases hb
  | _ => cases hb
theorem ss_read {X : Cx} {W : WX} {a : Ex} : ∀ σ H Q, tE T X C W (.fn1 .sortedSet a) σ H Q → tCB (rS2 X.K X.prog X.w) (tCons (tCB (rS1 X.K X.prog X.w) (tCons (tE T X C W a) tNil)) tNil) σ H Q := fun σ H Q ⟨F, ρ, rel, hp⟩ => by
  refine tE_bind rel hp fun r1 x F1 H1 _ e1 rel1 v1 hp1 => ?_
  obtain ⟨z, q3, hp5⟩ := opt_post hp1
  exact ⟨x, F1, r1.2, z, rfl, rel1.sub, v1.rv rel1, q3, fun a o hn hs => ⟨F1, H1, a, o, z, rfl, rfl, rel1.sub, hn, hs, ret_post hp5⟩⟩
theorem se_sset {a : Ex} (ha : SE T N k C a) : SE T N k C (.fn1 .sortedSet a) := by
  intro sc X W e ok h
  cases e with
  | Call fn args kws pos =>
    cases fn with
    | Name x p =>
      match args, kws, h with
      | [q], [], h =>
        have h : (decide (x = ("sorted" : Str)) && glB sc x && !isStar q && (match setArg q with
          | some (y, q) => decide (y = ("set" : Str)) && glB sc y && !isStar q && chkE T N a sc q
          | none => false)) = true := h
        cases e1 : setArg q with
        | none => rw [e1] at h; simp at h
        | some yq =>
          obtain ⟨y, q2⟩ := yq
          rw [e1] at h
          simp only [Bool.and_eq_true, decide_eq_true_eq, Bool.not_eq_true'] at h
          obtain ⟨⟨⟨rfl, h2⟩, h3⟩, ⟨⟨rfl, h5⟩, h6⟩, h7⟩ := h
          unfold setArg at e1
          split at e1
          · cases e1
            exact PE.imp (pe_callB (call_sorted2 ok.calm) (glB_ok ok.sc h2) (ok.wd.blt _ (by simp [bltNames])) (by decide +kernel) (pa_cons (pe_callTy (call_set2 ok.calm (by have := ok.room.un; omega)) (glB_ok ok.sc h5) (ok.wd.blt _ (by simp [bltNames])) (by decide +kernel) (pa_cons (ha sc X W q2 ok h7) pa_nil (star_cons h6)) (by decide) (by decide) (star_cons h6)) pa_nil (star_cons h3)) (by decide) (by decide) (star_cons h3)) ss_read
          · exact nomatch e1
      | [], _, h => exact no h
      | [_], _ :: _, h => exact no h
      | _ :: _ :: _, _, h => exact no h
    | _ => exact no h
  | _ => exact no h
theorem lr_ok {n : Int} {z : D} (h : fn1D .listRange (.dat (.int n)) = some z) : (0 ≤ n ∧ n < 2 ^ 20) ∧ z = .list ((List.range n.toNat).map fun (i : Nat) => .int (i : Int)) := by
  obtain ⟨g, e⟩ := grd_ok (show grdO (decide (0 ≤ n) && decide (n < 2 ^ 20)) (some (PyData.list ((List.range n.toNat).map fun i => .int (i : Nat)))) = some z from h)
  simp only [Bool.and_eq_true, decide_eq_true_eq] at g
  cases ok_inj e
  exact ⟨g, rfl⟩
theorem dq_rg {K : W.Frag} {F : Hp} : ∀ (l : List Nat), DqAll K F (l.map fun i => V.int (0 + (i : Nat))) (l.map fun (i : Nat) => PyData.int (i : Int))
  | [] => .nil
  | i :: l => .cons (by
      show Dq K F (V.int (0 + (i : Int))) (PyData.int (i : Int))
      rw [Int.zero_add]; exact .int _) (dq_rg l)
theorem se_lrange {a : Ex} (ha : SE T N k C a) : SE T N k C (.fn1 .listRange a) := by
  intro sc X W e ok h
  cases e with
  | Call fn args kws pos =>
    cases fn with
    | Name x p =>
      match args, kws, h with
      | [q], [], h =>
        have h : (decide (x = ("list" : Str)) && glB sc x && !isStar q && (match setArg q with
          | some (y, q) => decide (y = ("range" : Str)) && glB sc y && !isStar q && chkE T N a sc q
          | none => false)) = true := h
        cases e1 : setArg q with
        | none => rw [e1] at h; simp at h
        | some yq =>
          obtain ⟨y, q2⟩ := yq
          rw [e1] at h
          simp only [Bool.and_eq_true, decide_eq_true_eq, Bool.not_eq_true'] at h
          obtain ⟨⟨⟨rfl, h2⟩, h3⟩, ⟨⟨rfl, h5⟩, h6⟩, h7⟩ := h
          unfold setArg at e1
          split at e1
          · cases e1
            refine PE.imp (pe_listRg ok.calm (glB_ok ok.sc h2) (ok.wd.blt _ (by simp [bltNames])) (prg_1 (glB_ok ok.sc h5) (ok.wd.blt _ (by simp [bltNames])) (ha sc X W q2 ok h7) (star_cons h6)) (star_cons h3)) fun σ H Q ⟨F, ρ, rel, hp⟩ => ?_
            refine tE_bind rel hp fun r1 x F1 H1 _ e1 rel1 v1 hp1 => ?_
            obtain ⟨z, q3, hp5⟩ := opt_post hp1
            have rv := v1.rv rel1
            cases q4 : r1.2 with
            | dat d =>
              rw [q4] at q3 rv
              cases d with
              | int n =>
                obtain ⟨hr, rfl⟩ := lr_ok q3
                have rd := rv.rd
                have ex : x = .int n := by
                  rcases rd with h | ⟨_, _, _, _, z, _⟩
                  · cases h; rfl
                  · cases z
                subst ex
                refine ⟨n, rfl, ⟨by omega, by omega, by omega, by omega, by omega⟩, fun b nb => ?_⟩
                refine (ret_post hp5) _ _ _ (Ext.laid rel1.sub nb) ?_
                have e9 : (n - 0).toNat = n.toNat := by rw [Int.sub_zero]
                unfold rgV
                rw [e9]
                exact lay_list rel1.sub nb (dq_rg _)
              | _ => exact nomatch q3
            | _ => rw [q4] at q3; exact nomatch q3
          · exact nomatch e1
      | [], _, h => exact no h
      | [_], _ :: _, h => exact no h
      | _ :: _ :: _, _, h => exact no h
    | _ => exact no h
  | _ => exact no h
theorem se_fn1 {f : F1} {a : Ex} (ha : SE T N k C a) : SE T N k C (.fn1 f a) := by
  by_cases hs : f = .sortedSet
  · subst hs; exact se_sset ha
  by_cases hr : f = .listRange
  · subst hr; exact se_lrange ha
  have hlr : isLR f = false := by cases f <;> first | rfl | exact absurd rfl hr
  have hss : isSS f = false := by cases f <;> first | rfl | exact absurd rfl hs
  by_cases hf : f = .list
  · subst hf
    exact se_of_sn (sn_list ha) fun ρ r hr => by
      obtain ⟨x, _, hr⟩ := res_bind_ok hr
      obtain ⟨y, _, hr⟩ := opt_ok hr
      cases hr; rfl
  intro sc X W e ok h
  cases e with
  | Call fn args kws pos =>
    cases fn with
    | Name x p =>
      match args, kws, h with
      | [q], [], h =>
        have h : (f1Ok f && decide (x = f1Str f) && glB sc x && !isStar q && chkE T N a sc q) = true := by
          have h2 : cond (isSS f) _ (cond (isLR f) _ (f1Ok f && decide (x = f1Str f) && glB sc x && !isStar q && chkE T N a sc q)) = true := h
          rw [hss, hlr] at h2
          exact h2
        simp only [Bool.and_eq_true, decide_eq_true_eq, Bool.not_eq_true'] at h
        obtain ⟨⟨⟨⟨h1, rfl⟩, h2⟩, h3⟩, h4⟩ := h
        have pa := pa_cons (ha sc X W q ok h4) pa_nil (star_cons h3)
        cases f with
        | len => exact PE.imp (pe_callB call_lenG (glB_ok ok.sc h2) (ok.wd.blt _ (by simp [bltNames, f1Str])) (by decide +kernel) pa (by decide) (by decide) (star_cons h3)) f1_read
        | tuple => exact PE.imp (pe_callTy call_tupG (glB_ok ok.sc h2) (ok.wd.blt _ (by simp [bltNames, f1Str])) (by decide +kernel) pa (by decide) (by decide) (star_cons h3)) f1_read
        | int => exact PE.imp (pe_callTy call_intG (glB_ok ok.sc h2) (ok.wd.blt _ (by simp [bltNames, f1Str])) (by decide +kernel) pa (by decide) (by decide) (star_cons h3)) f1_read
        | sum => exact PE.imp (pe_callB (call_sumG ok.calm) (glB_ok ok.sc h2) (ok.wd.blt _ (by simp [bltNames, f1Str])) (by decide +kernel) pa (by decide) (by decide) (star_cons h3)) f1_read
        | sorted => exact PE.imp (pe_callB (call_sortedG ok.calm (by have := ok.room.un; omega)) (glB_ok ok.sc h2) (ok.wd.blt _ (by simp [bltNames, f1Str])) (by decide +kernel) pa (by decide) (by decide) (star_cons h3)) f1_read
        | min => exact PE.imp (pe_callB (call_minG ok.calm (by have := ok.room.un; omega)) (glB_ok ok.sc h2) (ok.wd.blt _ (by simp [bltNames, f1Str])) (by decide +kernel) pa (by decide) (by decide) (star_cons h3)) f1_read
        | max => exact PE.imp (pe_callB (call_maxG ok.calm (by have := ok.room.un; omega)) (glB_ok ok.sc h2) (ok.wd.blt _ (by simp [bltNames, f1Str])) (by decide +kernel) pa (by decide) (by decide) (star_cons h3)) f1_read
        | str => exact PE.imp (pe_callTy call_strG (glB_ok ok.sc h2) (ok.wd.blt _ (by simp [bltNames, f1Str])) (by decide +kernel) pa (by decide) (by decide) (star_cons h3)) f1_read
        | chars => exact PE.imp (pe_callTy (call_charsG ok.room.hd) (glB_ok ok.sc h2) (ok.wd.blt _ (by simp [bltNames, f1Str])) (by decide +kernel) pa (by decide) (by decide) (star_cons h3)) f1_read
        | list => exact absurd rfl hf
        | _ => exact no h1
      | [], _, h => exact no h
      | [_], _ :: _, h => exact no h
      | _ :: _ :: _, _, h => exact no h
    | _ => exact no h
  | _ => exact no h
theorem se_fn2 {f : F2} {a b : Ex} (ha : SE T N k C a) (hb : SE T N k C b) : SE T N k C (.fn2 f a b) := by
  intro sc X W e ok h
  cases e with
  | Call fn args kws pos =>
    cases fn with
    | Name x p =>
      match args, kws, h with
      | [q, r], [], h =>
        have h : (decide (x = f2Str f) && glB sc x && !isStar q && !isStar r && chkE T N a sc q && chkE T N b sc r) = true := h
        simp only [Bool.and_eq_true, decide_eq_true_eq, Bool.not_eq_true'] at h
        obtain ⟨⟨⟨⟨⟨h1, h2⟩, h3⟩, h3'⟩, h4⟩, h5⟩ := h
        have pa := pa_cons (ha sc X W q ok h4) (pa_cons (hb sc X W r ok h5) pa_nil (star_cons h3')) (star_cons h3)
        have rd : ∀ σ H Q, tE T X C W (.fn2 f a b) σ H Q → tCB (rF2 X.K f) (tCons (tE T X C W a) (tCons (tE T X C W b) tNil)) σ H Q := fun σ H Q ⟨F, ρ, rel, hp⟩ => by
          refine tE_bind rel hp fun r1 x F1 H1 _ e1 rel1 v1 hp1 => ?_
          refine tE_bind rel1 hp1 fun r2 y F2 H2 _ e2 rel2 v2 hp2 => ?_
          obtain ⟨d, q1, hp3⟩ := opt_post hp2
          obtain ⟨d2, q2, hp4⟩ := opt_post hp3
          obtain ⟨z, q3, hp5⟩ := opt_post hp4
          exact ⟨x, y, F2, d, d2, z, rfl, rel2.sub, (VR.mono e2 v1).rd rel2 q1, v2.rd rel2 q2, q3, ret_post hp5⟩
        cases f with
        | min =>
          have h1 : x = ("min" : Str) := h1
          subst h1
          exact PE.imp (pe_callB (call_min2G ok.calm) (glB_ok ok.sc h2) (ok.wd.blt _ (by simp [bltNames])) (by decide +kernel) pa (by decide) (by decide) (star_cons h3) (by rw [star_cons h3']; rfl)) rd
        | max =>
          have h1 : x = ("max" : Str) := h1
          subst h1
          exact PE.imp (pe_callB (call_max2G ok.calm) (glB_ok ok.sc h2) (ok.wd.blt _ (by simp [bltNames])) (by decide +kernel) pa (by decide) (by decide) (star_cons h3) (by rw [star_cons h3']; rfl)) rd
      | [], _, h => exact no h
      | [_], _, h => exact no h
      | [_, _], _ :: _, h => exact no h
      | _ :: _ :: _ :: _, _, h => exact no h
    | _ => exact no h
  | _ => exact no h

/-! ### isinstance -/
def isiL : List (String × Str) := [("int", ("int" : Str)), ("bool", "bool"), ("tuple", "tuple"), ("list", "list"), ("str", "str")]
theorem isi_cls : ∀ p ∈ isiL, bootBuiltins p.2 = some (.type p.1) ∧ p.2 ≠ "__name__" ∧ (p.2 == ("__debug__" : Str)) = false := by decide +kernel
theorem se_isi {a : Ex} {t : Ty} (ha : SE T N k C a) : SE T N k C (.isi a t) := by
  intro sc X W e ok h
  cases e with
  | Call fn args kws pos =>
    cases fn with
    | Name x p =>
      match args, kws, h with
      | [q, r], [], h =>
        cases r with
        | Name y py =>
          have h : (decide (x = ("isinstance" : Str)) && glB sc x && !isStar q && decide (tyStr T t = some y) && glB sc y && chkE T N a sc q) = true := h
          simp only [Bool.and_eq_true, decide_eq_true_eq, Bool.not_eq_true'] at h
          obtain ⟨⟨⟨⟨⟨rfl, h2⟩, h3⟩, h4⟩, h5⟩, h6⟩ := h
          obtain ⟨n, hn, hm⟩ : ∃ n, tyName t = some n ∧ (n, y) ∈ isiL := by
            cases t with
            | cls _ => cases h4
            | _ => cases h4; exact ⟨_, rfl, by simp [isiL]⟩
          obtain ⟨b1, b2, b3⟩ := isi_cls _ hm
          have hy : y ∈ bltNames := by
            cases t with
            | cls _ => cases h4
            | _ => cases h4; simp [bltNames]
          have pa := pa_cons (ha sc X W q ok h6) (pa_cons (pe_bltn (pos := py) (v := .ty n) (glB_ok ok.sc h5) (ok.wd.blt y hy) b1 rfl b2 b3) pa_nil rfl) (star_cons h3)
          refine PE.imp (pe_callB call_isi (glB_ok ok.sc h2) (ok.wd.blt _ (by simp [bltNames])) (by decide +kernel) pa (by decide) (by decide) (star_cons h3)) fun σ H Q ⟨F, ρ, rel, hp⟩ => ?_
          refine tE_bind rel hp fun r1 x F1 H1 _ e1 rel1 v1 hp1 => ?_
          obtain ⟨z, q3, hp5⟩ := opt_post hp1
          obtain ⟨d, hd, hb⟩ := isiD_dat hn q3
          have rv := v1.rv rel1
          rw [hd] at rv
          subst hb
          exact ⟨x, .ty n, _, _, _, rfl, .ty n, rv.ty rel1.sub, kit_isi hn d, retB_post rel1.sub hp5⟩
        | _ => exact no h
      | [], _, h => exact no h
      | [_], _, h => exact no h
      | [_, r], _ :: _, h => exact no (show false = true by cases r <;> exact h)
      | _ :: r :: _ :: _, _, h => exact no (show false = true by cases r <;> exact h)
    | _ => exact no h
  | _ => exact no h
end
end RL
/-! RLSound5: methods, dict displays, comprehensions; all expressions. -/
namespace RL
open PySem PySem.Spec PyProof.Rows L2
section
variable {T : Tab} {N : List Str} {k : Nat} {C : Cfg}

/-! ### o.m(e) of a built-in, its type told by the value -/
theorem pe_mtD {X : Cx} {o e : Expr} {to tp : TE} {name : Str} {apos cpos : Pos} (ho : PE X o to) (hp : PE X e tp) (hbase : attributeBase o name X.env (eval o X.env) = eval o X.env) (hline : (apos.endLine == cpos.line) = true)
    (hs : isStar e = false) : PE X (.Call (.Attribute o name apos) [e] [] cpos) (fun σ H Q => to σ H fun x H1 => ∃ (T id : String), PlainAttrs T ∧ Slot T name id ∧ typeOf (.builtin id) = pure (.type "method_descriptor") ∧
      (∀ (pins : List (Addr × Obj)) (s : Shared) (v : Value), Inv X pins σ H1 s → RelV x v → s.TypeIs v T ∧ ∀ a, v = .ref a → ∃ ob, s.heap.get? a = some ob ∧ ob.dict = none) ∧
      tp σ H1 fun y H2 => ∃ r, MtR X id r ∧ r x [y] H2 Q) := by
  refine ⟨fun pins s σ H Q I h => ?_⟩
  have hst : starEach [e] X.env = (false, eval e X.env) :: starEach [] X.env := star_cons hs
  have hfew : ((backTo cpos (starEach [e] X.env)).all (fun x => !x.1) && (backToKw cpos (keywordEach [] X.env)).all (fun x => x.1.isSome)
      && decide ([e].length + ([] : List Keyword).length + (if ([] : List Keyword).isEmpty then 0 else 1) < 30)) = true := by
    rw [hst]; rfl
  refine wpAny_Call_method_late hbase hfew hline rfl (thn (ho.run pins s σ H _ I h) fun v s1 ⟨x, H1, I1, r1, T, id, pa, slot, hty, ty, q1⟩ => ?_)
  obtain ⟨h1, h2⟩ := ty pins s1 v I1 r1
  refine ⟨T, id, pa, slot, hty, h1, h2, ?_⟩
  have hA := (pa_cons hp pa_nil hst).run cpos pins s1 σ H1 (fun vs H2 => match vs with
    | [y] => ∃ r, MtR X id r ∧ r x [y] H2 Q
    | _ => False) I1 q1
  rw [hst] at hA ⊢
  refine Calls.callWith_builtin rfl (Calls.evalArgs_plain ?_)
  exact thn hA fun us s2 ⟨vs, H2, I2, r2, q2⟩ => by
    cases r2 with
    | nil => exact q2.elim
    | cons ry rt =>
      cases rt with
      | cons _ _ => exact q2.elim
      | nil =>
        obtain ⟨r, hr, q3⟩ := q2
        exact hr pins s2 σ H2 x _ v _ Q I2 r1 (.cons ry .nil) q3
theorem dq_strs {K : W.Frag} {F : Hp} : ∀ ys : List Str, DqAll K F (ys.map V.str) (ys.map PyData.str)
  | [] => .nil
  | y :: ys => .cons (.str y) (dq_strs ys)
theorem strs_inv {K : W.Frag} {F : Hp} : ∀ {ys : List Str} {ds : List D} {vs : List V}, DqAll K F vs ds → strsOf ds = some ys → vs = ys.map V.str
  | ys, [], vs, h, e => by
    cases h
    have : ys = [] := (Option.some.inj e).symm
    subst this; rfl
  | ys, d :: ds, vs, h, e => by
    cases h with
    | @cons v vs _ _ h1 h2 =>
      cases d with
      | str x =>
        cases h1
        have e : (strsOf ds).map (x :: ·) = some ys := e
        cases q : strsOf ds with
        | none => rw [q] at e; cases e
        | some zs =>
          rw [q] at e
          cases e
          rw [strs_inv h2 q]; rfl
      | _ => exact nomatch e
theorem se_mt {m : Mt} {a b : Ex} (ha : SE T N k C a) (hb : SE T N k C b) : SE T N k C (.mt m a b) := by
  intro sc X W e ok h
  cases e with
  | Call fn args kws pos =>
    cases fn with
    | Attribute o x apos =>
      match args, kws, h with
      | [q], [], h =>
        have h : (mtOk m && decide (x = mtStr m) && lineB apos pos && !isCall0 o && !isStar q && chkE T N a sc o && chkE T N b sc q) = true := h
        simp only [Bool.and_eq_true, decide_eq_true_eq, Bool.not_eq_true'] at h
        obtain ⟨⟨⟨⟨⟨⟨h1, rfl⟩, h2⟩, h3⟩, h4⟩, h5⟩, h6⟩ := h
        refine PE.imp (pe_mtD (ha sc X W o ok h5) (hb sc X W q ok h6) (base_ix h3) h2 h4) fun σ H Q ⟨F, ρ, rel, hp⟩ => ?_
        refine tE_bind rel hp fun r1 x F1 H1 _ e1 rel1 v1 hp0 => ?_
        obtain ⟨_, g0, hp1⟩ := opt_post hp0
        obtain ⟨g0, _⟩ := grd_ok g0
        have rv := v1.rv rel1
        cases m with
        | index =>
          cases q : r1.2 with
          | dat d =>
            rw [q] at rv g0
            have rd := rv.rd
            cases d with
            | list xs =>
              refine ⟨"list", "list.index", PySem.F.plainAttrs_list, PySem.F.slot_list_index, PySem.F.type_list_index, fun pins s v I r => ?_, tE_bind rel1 hp1 fun r2 y F2 H2 _ e2 rel2 v2 hp2 => ?_⟩
              · obtain ⟨p, vs, rfl, t1, _⟩ := rd.list rel1.sub
                exact tyV_is I r (.inl ⟨rfl, vs, .inl t1⟩)
              · obtain ⟨d2, q2, hp3⟩ := opt_post hp2
                obtain ⟨z, q3, hp4⟩ := opt_post hp3
                rw [q] at q3
                obtain ⟨g, q3⟩ := grd_ok q3
                rw [Bool.and_eq_true] at g
                obtain ⟨n, q4, q5⟩ := bind_ok q3
                cases ok_inj q5
                obtain ⟨j, z, rfl, f1, f2, f3⟩ := findIx_some q4
                rw [Nat.zero_add] at hp4
                have rd2 := RD.mono e2 rd
                obtain ⟨p, vs, rfl, t1, r1⟩ := rd2.list rel2.sub
                exact ⟨_, mt_indexD ok.hu, p, y, d2, xs, j, z, rfl, rfl, Dq.dp _ _ (rd2.data rel2.sub), Dq.dp _ _ ((v2.rd rel2 q2).data rel2.sub), g.1, g.2, f1, f2, f3, ret_post hp4 _ F2 H2 (Ext.refl rel2.sub) (.int _)⟩
            | tuple xs =>
              refine ⟨"tuple", "tuple.index", PySem.F.plainAttrs_tuple, PySem.F.slot_tuple_index, PySem.F.type_tuple_index, fun pins s v I r => ?_, tE_bind rel1 hp1 fun r2 y F2 H2 _ e2 rel2 v2 hp2 => ?_⟩
              · obtain ⟨p, vs, rfl, t1, t2, _⟩ := rd.tup rel1.sub
                cases r
                exact tupG_is I (t2.mono rel1.sub)
              · obtain ⟨d2, q2, hp3⟩ := opt_post hp2
                obtain ⟨z, q3, hp4⟩ := opt_post hp3
                rw [q] at q3
                obtain ⟨g, q3⟩ := grd_ok q3
                rw [Bool.and_eq_true] at g
                obtain ⟨n, q4, q5⟩ := bind_ok q3
                cases ok_inj q5
                obtain ⟨j, z, rfl, f1, f2, f3⟩ := findIx_some q4
                rw [Nat.zero_add] at hp4
                have rd2 := RD.mono e2 rd
                obtain ⟨p, vs, rfl, t1, _, r1⟩ := rd2.tup rel2.sub
                exact ⟨_, mt_tupIndex ok.hu, p, y, d2, xs, vs, j, z, rfl, rfl, t1, DqAll.dp _ _ (DqAll.mono rel2.sub _ _ r1), Dq.dp _ _ ((v2.rd rel2 q2).data rel2.sub), g.1, g.2, f1, f2, f3, ret_post hp4 _ F2 H2 (Ext.refl rel2.sub) (.int _)⟩
            | _ => exact no g0
          | _ => rw [q] at g0; exact no g0
        | count =>
          cases q : r1.2 with
          | dat d =>
            rw [q] at rv g0
            have rd := rv.rd
            cases d with
            | list xs =>
              refine ⟨"list", "list.count", PySem.F.plainAttrs_list, PySem.F.slot_list_count, PySem.F.type_list_count, fun pins s v I r => ?_, tE_bind rel1 hp1 fun r2 y F2 H2 _ e2 rel2 v2 hp2 => ?_⟩
              · obtain ⟨p, vs, rfl, t1, _⟩ := rd.list rel1.sub
                exact tyV_is I r (.inl ⟨rfl, vs, .inl t1⟩)
              · obtain ⟨d2, q2, hp3⟩ := opt_post hp2
                obtain ⟨z, q3, hp4⟩ := opt_post hp3
                rw [q] at q3
                cases q5 : intsOf xs with
                | none => simp [mtD, q5] at q3
                | some is =>
                  cases d2 with
                  | int kk =>
                    have q3 : some (PyData.int (is.count kk : Nat)) = some z := by simpa [mtD, q5, rI] using q3
                    cases ok_inj q3
                    have rd2 := RD.mono e2 rd
                    obtain ⟨p, vs, rfl, t1, r1⟩ := rd2.list rel2.sub
                    obtain ⟨e5, _⟩ := DqAll.ints_inv r1 q5
                    subst e5
                    have ey := (v2.rd rel2 q2).int
                    subst ey
                    exact ⟨_, mt_count, p, is, kk, rfl, rfl, t1, ret_post hp4 _ F2 H2 (Ext.refl rel2.sub) (.int _)⟩
                  | _ => simp [mtD, q5] at q3
            | _ => exact no g0
          | _ => rw [q] at g0; exact no g0
        | split =>
          cases q : r1.2 with
          | dat d =>
            rw [q] at rv g0
            have rd := rv.rd
            cases d with
            | str a =>
              have ex : x = .str a := by
                rcases rd with h | ⟨_, _, _, _, z, _⟩
                · cases h; rfl
                · cases z
              subst ex
              refine ⟨"str", "str.split", PySem.F.plainAttrs_str, PySem.F.slot_str_split, PySem.F.type_str_split, fun pins s v I r => tyV_is I r rfl, tE_bind rel1 hp1 fun r2 y F2 H2 _ e2 rel2 v2 hp2 => ?_⟩
              obtain ⟨d2, q2, hp3⟩ := opt_post hp2
              obtain ⟨z, q3, hp4⟩ := opt_post hp3
              rw [q] at q3
              cases d2 with
              | str b =>
                obtain ⟨g, q3⟩ := grd_ok (show grdO (!(b.length == 0) && decide (a.length + 2 ≤ sizeLine)) (some (PyData.list ((Txt.split a b).map .str))) = some z from q3)
                cases ok_inj q3
                simp only [Bool.and_eq_true, Bool.not_eq_true', decide_eq_true_eq] at g
                have ey : y = .str b := by
                  rcases v2.rd rel2 q2 with h | ⟨_, _, _, _, z, _⟩
                  · cases h; rfl
                  · cases z
                subst ey
                exact ⟨_, mt_split, a, b, rfl, rfl, g.1, g.2, fun p hp => ret_post hp4 _ _ _ (Ext.laid rel2.sub hp) (lay_list rel2.sub hp (dq_strs _))⟩
              | _ => exact nomatch q3
            | _ => exact no g0
          | _ => rw [q] at g0; exact no g0
        | sindex =>
          cases q : r1.2 with
          | dat d =>
            rw [q] at rv g0
            have rd := rv.rd
            cases d with
            | str a =>
              have ex : x = .str a := by
                rcases rd with h | ⟨_, _, _, _, z, _⟩
                · cases h; rfl
                · cases z
              subst ex
              refine ⟨"str", "str.index", PySem.F.plainAttrs_str, PySem.F.slot_str_index, PySem.F.type_str_index, fun pins s v I r => tyV_is I r rfl, tE_bind rel1 hp1 fun r2 y F2 H2 _ e2 rel2 v2 hp2 => ?_⟩
              obtain ⟨d2, q2, hp3⟩ := opt_post hp2
              obtain ⟨z, q3, hp4⟩ := opt_post hp3
              rw [q] at q3
              cases d2 with
              | str b =>
                have q3 : (match Builtin.Str.occurrences a b 0 a.length 1 with
                  | i :: _ => rI (i : Nat)
                  | [] => none) = some z := q3
                have ey : y = .str b := by
                  rcases v2.rd rel2 q2 with h | ⟨_, _, _, _, z, _⟩
                  · cases h; rfl
                  · cases z
                subst ey
                cases q5 : Builtin.Str.occurrences a b 0 a.length 1 with
                | nil => rw [q5] at q3; exact nomatch q3
                | cons i rest =>
                  rw [q5] at q3
                  cases ok_inj (show some (PyData.int (i : Nat)) = some z from q3)
                  exact ⟨_, mt_sindex, a, b, i, rest, rfl, rfl, q5, ret_post hp4 _ F2 H2 (Ext.refl rel2.sub) (.int _)⟩
              | _ => exact nomatch q3
            | _ => exact no g0
          | _ => rw [q] at g0; exact no g0
        | join =>
          cases q : r1.2 with
          | dat d =>
            rw [q] at rv g0
            have rd := rv.rd
            cases d with
            | str a =>
              have ex : x = .str a := by
                rcases rd with h | ⟨_, _, _, _, z, _⟩
                · cases h; rfl
                · cases z
              subst ex
              refine ⟨"str", "str.join", PySem.F.plainAttrs_str, PySem.F.slot_str_join, PySem.F.type_str_join, fun pins s v I r => tyV_is I r rfl, tE_bind rel1 hp1 fun r2 y F2 H2 _ e2 rel2 v2 hp2 => ?_⟩
              obtain ⟨d2, q2, hp3⟩ := opt_post hp2
              obtain ⟨z, q3, hp4⟩ := opt_post hp3
              rw [q] at q3
              cases d2 with
              | list xs =>
                have q3 : (match strsOf xs with
                  | some ys => grdO (decide ((ys.map (·.length)).sum + ys.length * a.length ≤ 16777216)) (some (PyData.str (Txt.join a ys)))
                  | none => none) = some z := q3
                cases q5 : strsOf xs with
                | none => rw [q5] at q3; exact nomatch q3
                | some ys =>
                  rw [q5] at q3
                  obtain ⟨g, q3⟩ := grd_ok q3
                  cases ok_inj q3
                  have g := of_decide_eq_true g
                  obtain ⟨p, vs, rfl, t1, r1⟩ := (v2.rd rel2 q2).list rel2.sub
                  have e5 := strs_inv r1 q5
                  subst e5
                  exact ⟨_, mt_join, a, p, ys, rfl, rfl, .inl (.inl t1), g, ret_post hp4 _ F2 H2 (Ext.refl rel2.sub) (.str _)⟩
              | _ => exact nomatch q3
            | _ => exact no g0
          | _ => rw [q] at g0; exact no g0
      | [], _, h => exact no h
      | [_], _ :: _, h => exact no h
      | _ :: _ :: _, _, h => exact no h
    | _ => exact no h
  | _ => exact no h
end
end RL
/-! RLTxt: f-strings, list of a text. -/
namespace RL
open PySem PySem.Spec PyProof.Rows L2
section
variable {T : Tab} {N : List Str} {k : Nat} {C : Cfg}
/-- the parts' readings -/
def tFs (T : Tab) (X : Cx) (C : Cfg) (W : WX) : List Ex → List Expr → List TE
  | e :: es, x :: xs => (match fmtE x with
    | some _ => tFmt (tE T X C W e)
    | none => tE T X C W e) :: tFs T X C W es xs
  | _, _ => []
def SFs (T : Tab) (N : List Str) (k : Nat) (C : Cfg) (es : List Ex) : Prop := ∀ (sc : Scope) (X : Cx) (W : WX) (as : List Expr), Ok T N k C sc X W → chkFs T N es sc as = true → PJ X as (tFs T X C W es as)
theorem fmtE_some {x y : Expr} (h : fmtE x = some y) : ∃ p, x = .FormattedValue y (-1) none p := by
  unfold fmtE at h
  split at h
  · split at h
    · rename_i e; cases h; subst e; exact ⟨_, rfl⟩
    · cases h
  · cases h
theorem sfs_nil : SFs T N k C [] := by
  intro sc X W as ok h
  cases as with
  | nil => exact .nil
  | cons _ _ => exact no h
theorem sfs_cons {e : Ex} {es : List Ex} (he : SE T N k C e) (hs : SFs T N k C es) : SFs T N k C (e :: es) := by
  intro sc X W as ok h
  cases as with
  | nil => exact no h
  | cons x xs =>
    have h : ((match fmtE x with
      | some y => chkE T N e sc y
      | none => isStrC e && chkE T N e sc x) && chkFs T N es sc xs) = true := h
    rw [Bool.and_eq_true] at h
    obtain ⟨h1, h2⟩ := h
    have r := hs sc X W xs ok h2
    show PJ X (x :: xs) ((match fmtE x with
      | some _ => tFmt (tE T X C W e)
      | none => tE T X C W e) :: tFs T X C W es xs)
    cases q : fmtE x with
    | none =>
      rw [q] at h1
      rw [Bool.and_eq_true] at h1
      exact .cons (he sc X W x ok h1.2) r
    | some y =>
      rw [q] at h1
      obtain ⟨p, rfl⟩ := fmtE_some q
      exact .cons (pe_fmt (he sc X W y ok h1)) r
theorem fst_read {X : Cx} {W : WX} {σ : L2.St} {ρ : Env} {Q : VK} {sc : Scope} : ∀ (es : List Ex) (xs : List Expr) (acc : Str) (F H : Hp), chkFs T N es sc xs = true → Rel X.K F σ H ρ → Post T X W σ F H (RV1 X σ ρ Q) ((evf C ρ es acc).bind fun x => ret (.str x)) → tJs (tFs T X C W es xs) acc σ H fun out H1 => Q (.str out) H1
  | [], [], acc, F, H, _, rel, hp => (show Post T X W σ F H (RV1 X σ ρ Q) (ret (.str acc)) from hp) F H (Ext.refl rel.sub) (.str acc) (.str acc)
  | [], _ :: _, _, _, _, hc, _, _ => no hc
  | _ :: _, [], _, _, _, hc, _, _ => no hc
  | e :: es, x :: xs, acc, F, H, hc, rel, hp => by
    have hc : ((match fmtE x with
      | some y => chkE T N e sc y
      | none => isStrC e && chkE T N e sc x) && chkFs T N es sc xs) = true := hc
    rw [Bool.and_eq_true] at hc
    have hp : Post T X W σ F H (RV1 X σ ρ Q) (((ev C ρ e).bind fun x => opt (dat x) fun d => opt (fmtD acc d) fun z => evf C ρ es z).bind fun x => ret (.str x)) := hp
    rw [res_assoc] at hp
    have opt_bind : ∀ {α β γ : Type} {o : Option α} {f : α → Res β} {g : β → Res γ}, (opt o f).bind g = opt o fun x => (f x).bind g := fun {α β γ o f g} => by cases o <;> rfl
    show tJs ((match fmtE x with
      | some _ => tFmt (tE T X C W e)
      | none => tE T X C W e) :: tFs T X C W es xs) acc σ H fun out H1 => Q (.str out) H1
    cases q : fmtE x with
    | none =>
      show tE T X C W e σ H fun x H1 => ∃ y : Str, x = .str y ∧ (acc ++ y).length ≤ sizeLine ∧ tJs (tFs T X C W es xs) (acc ++ y) σ H1 fun out H1 => Q (.str out) H1
      rw [q] at hc
      have hstr := (Bool.and_eq_true_iff.mp hc.1).1
      refine tE_bind rel hp fun r x F1 H1 er e1 rel1 v1 hp1 => ?_
      rw [opt_bind] at hp1
      obtain ⟨d, q1, hp2⟩ := opt_post hp1
      rw [opt_bind] at hp2
      obtain ⟨z, q2, hp3⟩ := opt_post hp2
      cases d with
      | str a =>
        obtain ⟨g, q3⟩ := grd_ok (show grdO (szOk a.length && szOk (acc ++ a).length) (some (acc ++ a)) = some z from q2)
        cases ok_inj q3
        rw [Bool.and_eq_true] at g
        refine ⟨a, str_of (v1.rd rel1 (show datR r = some _ from ?_)), szOk_le g.2, fst_read es xs _ F1 H1 hc.2 rel1 hp3⟩
        obtain ⟨b, v⟩ := r
        cases b with
        | true => cases q1
        | false => cases v <;> first | (cases q1; rfl) | cases q1
      | int i =>
        exfalso
        cases e with
        | con dd =>
          cases dd with
          | str _ => cases er; cases q1
          | _ => exact no hstr
        | _ => exact no hstr
      | _ => exact nomatch q2
    | some y =>
      show tFmt (tE T X C W e) σ H fun x H1 => ∃ y : Str, x = .str y ∧ (acc ++ y).length ≤ sizeLine ∧ tJs (tFs T X C W es xs) (acc ++ y) σ H1 fun out H1 => Q (.str out) H1
      refine tE_bind rel hp fun r x F1 H1 er e1 rel1 v1 hp1 => ?_
      rw [opt_bind] at hp1
      obtain ⟨d, q1, hp2⟩ := opt_post hp1
      rw [opt_bind] at hp2
      obtain ⟨z, q2, hp3⟩ := opt_post hp2
      have q1' : datR r = some d := by
        obtain ⟨b, v⟩ := r
        cases b with
        | true => cases q1
        | false => cases v <;> first | (cases q1; rfl) | cases q1
      have rd := v1.rd rel1 q1'
      cases d with
      | str a =>
        obtain ⟨g, q3⟩ := grd_ok (show grdO (szOk a.length && szOk (acc ++ a).length) (some (acc ++ a)) = some z from q2)
        cases ok_inj q3
        rw [Bool.and_eq_true] at g
        exact .inl ⟨a, str_of rd, szOk_le g.1, a, rfl, szOk_le g.2, fst_read es xs _ F1 H1 hc.2 rel1 hp3⟩
      | int i =>
        obtain ⟨g, q3⟩ := grd_ok (show grdO (decide (i.natAbs < 1000000) && szOk (acc ++ toString i).length) (some (acc ++ toString i)) = some z from q2)
        cases ok_inj q3
        rw [Bool.and_eq_true] at g
        exact .inr ⟨i, rd.int, log_small (of_decide_eq_true g.1), toString i, rfl, szOk_le g.2, fst_read es xs _ F1 H1 hc.2 rel1 hp3⟩
      | _ => exact nomatch q2
theorem se_fst {es : List Ex} (hs : SFs T N k C es) : SE T N k C (.fst es) := by
  intro sc X W a ok h
  cases a with
  | JoinedStr vs pos =>
    match vs, h with
    | v :: v' :: vs, h =>
      have h : chkFs T N es sc (v :: v' :: vs) = true := h
      refine PE.imp (pe_joined (pos := pos) (hs sc X W _ ok h)) fun σ H Q ⟨F, ρ, rel, hp⟩ => ?_
      exact fst_read es _ _ F H h rel hp
    | [], h => exact no h
    | [_], h => exact no h
  | _ => exact no h
end
end RL
/-! RLDisp: displays of dicts by tuples of ints. -/
namespace RL
open PySem PySem.Spec PyProof.Rows L2
theorem dPhi_new {P : Program} {w : World} {H : Hp} (h : Heap) (hb : sysModules < h.objs.size) : ObjOk P w H (h.push { cls := .type "dict", data := .dict #[] }) h.objs.size (.ext (dPhi h.objs.size [] 0)) :=
  dPhi_ok ⟨_, #[], Heap.get?_push_size _ rfl, ⟨rfl, rfl, rfl⟩, rfl, rfl, List.nodup_nil, Nat.zero_le _, beq_eq_false_iff_ne.mpr (Ne.symm (Nat.ne_of_lt hb))⟩
def tDNewX : TE := fun _ H Q => ∀ p, H p = none → Q (.ref p) (upd H p (.ext (dPhi p [] 0)))
theorem pe_dnewX {X : Cx} {pos : Pos} : PE X (.Dict [] [] pos) tDNewX := ⟨fun pins s σ H Q I h =>
  wpAny_Dict_empty ⟨.ref s.heap.objs.size, _, I.laid (a := s.heap.objs.size) (o := .ext (dPhi s.heap.objs.size [] 0)) (t' := s.toks) (fun _ _ q => Heap.get?_push_of_some _ q) (Nat.le_refl _) (dPhi_new s.heap I.big), rfl, h _ (I.hok.fresh (Nat.le_refl _))⟩⟩
/-- {k: v}, the key a tuple of ints -/
def tDispT (X : Cx) (tk tv : TE) : TE := fun σ H Q => ∀ p, H p = none → tk σ (upd H p (.ext (dPhi p [] 0))) fun x H1 => tv σ H1 fun y H2 => H2 p = some (.ext (dPhi p [] 0)) ∧
  ∃ F b is d, x = .ref b ∧ Same F H2 ∧ Dq X.K F (.ref b) (.tuple (is.map .int)) ∧ Dq X.K F y d ∧ ∀ ys ep, Paired (EnT X.K F) [(is, d)] ys → Q (.ref p) (upd H2 p (.ext (dPhi p ys ep)))
theorem pe_dispT {X : Cx} {pos : Pos} {k v : Expr} {tk tv : TE} (hu : X.A.units + 1 < cLine) (hk : PE X k tk) (hv : PE X v tv) : PE X (.Dict [some k] [v] pos) (tDispT X tk tv) := by
  refine ⟨fun pins s σ H Q I q => ?_⟩
  have hn := I.hok.fresh (Nat.le_refl s.heap.objs.size)
  have I1 := I.laid (a := s.heap.objs.size) (o := .ext (dPhi s.heap.objs.size [] 0)) (h' := s.heap.push { cls := .type "dict", data := .dict #[] }) (t' := s.toks) (fun _ _ q => Heap.get?_push_of_some _ q) (Nat.le_refl _) (dPhi_new s.heap I.big)
  have q := q _ hn
  rw [arm_eval_Dict, zip_pairTrees [some k] [v] X.env pos rfl rfl, dictDisplay_pairs (pairTrees [some k] [v] X.env pos) (by simp [pairTrees]) (by simp [pairTrees])]
  refine wpAny_bind (wpAny_standAt (wpAny_bind (wpAny_subDictH (knd := tupleKind (mixKind X.prog X.w)) (show X.A.units < cLine by omega) (by simp [pairTrees]) ?_)))
  refine pairTrees_cons_walk (thn (hk.run pins _ σ _ _ I1 q) fun u s1 ⟨x, J1, I1, rx, q1⟩ => thn (hv.run pins s1 σ J1 _ I1 q1) fun w2 s2 ⟨y, J2, I2, ry, e, F, b, is, d, ex, sF, hb, hd, q2⟩ => pairTrees_nil_walk ?_)
  subst ex
  obtain rfl : u = Value.ref b := rx
  obtain ⟨dd, _, hm⟩ := dT_at (kvs := []) I2 sF e .nil
  refine ⟨[(is.map Sum.inl, b, w2)], ⟨rfl, rfl, key_is I2 sF hb, True.intro⟩, dd, fun h' tk dd' hs => wpAny_pure ?_⟩
  obtain ⟨q, es, ep', hq, h2, h3, h4, _, h5⟩ := dd'
  refine ⟨.ref s.heap.objs.size, _, ?_, rfl, q2 [(is.map Sum.inl, b, w2)] ep' (.cons ⟨rfl, hb, y, hd, ry⟩ .nil)⟩
  refine d_write I2 (by rw [e]; exact True.intro) hs ⟨q, hq⟩ (dPhi_ok ⟨q, es, hq, h2, h3, ?_, h5, ?_, hm⟩)
  · rw [h4]
    show [(⟨(tupleKind (mixKind X.prog X.w)).hash (is.map Sum.inl), .ref b, w2⟩ : DictEntry)] = [⟨hK (is.map Sum.inl), .ref b, w2⟩]
    rw [hK_eq X.prog X.w]
  · rw [sizeLine_eq]; show 1 ≤ 16777216; decide
end RL
/-! RLComp: comprehensions. -/
namespace RL
open PySem PySem.Spec PyProof.Rows L2
section
variable {T : Tab} {N : List Str} {k : Nat} {C : Cfg}
theorem bNone_ok {b : Ex} (h : bNone b = true) : b = .con .none := by
  cases b with
  | con d => cases d <;> first | rfl | exact no h
  | _ => exact no h
/-- what is walked -/
theorem src_ok {sc : Scope} {X : Cx} {W : WX} {a b : Ex} {many : Bool} {kk : Sk} {iter : Expr} {tg : Expr} (ok : Ok T N k C sc X W) (ha : SE T N k C a) (hb : SE T N k C b)
    (h : srcC sc (chkE T N a sc) (chkE T N b sc) (bNone b) many kk iter = true) (hm : many = true → ∃ es k p, tg = .Tuple es k p) : PI X tg iter (tS T X C W kk a b) ∧ (isZip kk = true → many = true) := by
  cases kk with
  | items =>
    have h : (chkE T N a sc iter && bNone b) = true := h
    rw [Bool.and_eq_true] at h
    have := bNone_ok h.2
    subst this
    exact ⟨pi_items (ha sc X W iter ok h.1), fun z => no z⟩
  | rg1 =>
    cases iter with
    | Call fn args kws pos =>
      cases fn with
      | Name x np =>
        match args, kws, h with
        | [p], [], h =>
          have h : (decide (x = ("range" : Str)) && glB sc x && !isStar p && chkE T N a sc p && bNone b) = true := h
          simp only [Bool.and_eq_true, decide_eq_true_eq, Bool.not_eq_true'] at h
          obtain ⟨⟨⟨⟨rfl, h2⟩, h3⟩, h4⟩, h5⟩ := h
          have := bNone_ok h5
          subst this
          exact ⟨pi_rg1 ok h2 h3 (ha sc X W p ok h4), fun z => no z⟩
        | [], _, h => exact no h
        | [_], _ :: _, h => exact no h
        | _ :: _ :: _, _, h => exact no h
      | _ => exact no h
    | _ => exact no h
  | rg2 =>
    cases iter with
    | Call fn args kws pos =>
      cases fn with
      | Name x np =>
        match args, kws, h with
        | [p, q], [], h =>
          have h : (decide (x = ("range" : Str)) && glB sc x && !isStar p && !isStar q && chkE T N a sc p && chkE T N b sc q) = true := h
          simp only [Bool.and_eq_true, decide_eq_true_eq, Bool.not_eq_true'] at h
          obtain ⟨⟨⟨⟨⟨rfl, h2⟩, h3⟩, h4⟩, h5⟩, h6⟩ := h
          exact ⟨pi_rg2 ok h2 h3 h4 (ha sc X W p ok h5) (hb sc X W q ok h6), fun z => no z⟩
        | [], _, h => exact no h
        | [_], _, h => exact no h
        | [_, _], _ :: _, h => exact no h
        | _ :: _ :: _ :: _, _, h => exact no h
      | _ => exact no h
    | _ => exact no h
  | zip =>
    cases iter with
    | Call fn args kws pos =>
      cases fn with
      | Name x np =>
        match args, kws, h with
        | [p, q], [], h =>
          have h : (decide (x = ("zip" : Str)) && glB sc x && !isStar p && !isStar q && chkE T N a sc p && chkE T N b sc q && many) = true := h
          simp only [Bool.and_eq_true, decide_eq_true_eq, Bool.not_eq_true'] at h
          obtain ⟨⟨⟨⟨⟨⟨rfl, h2⟩, h3⟩, h4⟩, h5⟩, h6⟩, h7⟩ := h
          obtain ⟨es, kt, pt, rfl⟩ := hm h7
          exact ⟨pi_zipG ok h2 h3 h4 (ha sc X W p ok h5) (hb sc X W q ok h6), fun _ => h7⟩
        | [], _, h => exact no h
        | [_], _, h => exact no h
        | [_, _], _ :: _, h => exact no h
        | _ :: _ :: _ :: _, _, h => exact no h
      | _ => exact no h
    | _ => exact no h
  | enm =>
    cases iter with
    | Call fn args kws pos =>
      cases fn with
      | Name x np =>
        match args, kws, h with
        | [p], [], h =>
          have h : (decide (x = ("enumerate" : Str)) && glB sc x && !isStar p && chkE T N a sc p && bNone b && many) = true := h
          simp only [Bool.and_eq_true, decide_eq_true_eq, Bool.not_eq_true'] at h
          obtain ⟨⟨⟨⟨⟨rfl, h2⟩, h3⟩, h4⟩, h5⟩, h6⟩ := h
          have := bNone_ok h5
          subst this
          obtain ⟨es, kt, pt, rfl⟩ := hm h6
          exact ⟨pi_enm ok h2 h3 (ha sc X W p ok h4), fun _ => h6⟩
        | [], _, h => exact no h
        | [_], _ :: _, h => exact no h
        | _ :: _ :: _, _, h => exact no h
      | _ => exact no h
    | _ => exact no h
theorem tg_many {N : List Str} {sc : Scope} {st : Bool} {t : Tg} {e : Expr} (h : chkTg N sc st t e = true) (hm : isMany t = true) : ∃ es k p, e = .Tuple es k p := by
  cases t with
  | one _ => exact no hm
  | many l =>
    cases e with
    | Tuple es k p => exact ⟨es, k, p, rfl⟩
    | _ => exact no h
theorem Ifor.item {K : W.Frag} {F F' H : Hp} {x : V} {d : D} {t : Tg} {z : Bool} (s : Same F F') (h : Dq K F x d ∨ z = true ∧ Iw K F H x d) (hz : z = true → isMany t = true) : Ifor K F' H x d t := by
  rcases h with h | ⟨e, h⟩
  · exact Ifor.of t (Dq.mono s _ _ h)
  · cases t with
    | one _ => exact no (hz e)
    | many l =>
      rcases h with h | ⟨a, vs, ds, e1, e2, e3, e4⟩
      · exact .inl (Dq.mono s _ _ h)
      · exact .inr ⟨a, vs, ds, e1, e2, e3, DqAll.mono s _ _ e4⟩
theorem Ext.put {F H F' H' : Hp} {p : Addr} {o : HO} (e : Ext F H F' H') (n : H p = none) (n' : F' p = none) : Ext F H F' (upd H' p o) :=
  ⟨e.ff, fun b u q => by rw [upd_ne (ne_of_none q n)]; exact e.hh b u q, fun b u q => by rw [upd_ne (ne_of_none q n')]; exact e.sub b u q, e.new⟩
theorem Ext.grow {F H H' : Hp} (s : Same F H) (g : Same H H') : Ext F H F H' := ⟨Same.refl F, g, s.trans g, fun _ _ h => .inl h⟩
theorem Ext.not {F H F' H' : Hp} {a : Addr} {o : HO} (e : Ext F H F' H') (h : F a = none) (h2 : H a = some o) : F' a = none := by
  cases q : F' a with
  | none => rfl
  | some u =>
    rcases e.new a u q with z | z
    · rw [h] at z; cases z
    · rw [h2] at z; cases z
theorem noX_ok {a : Type} {r : Res a} {x : a} (h : noX r = .ok x) : r = .ok x := by
  cases r with
  | ok y => exact h
  | exc _ _ => cases h
  | bad => cases h
theorem noX_bad {a : Type} {r : Res a} (h : ∀ x, r ≠ .ok x) : noX r = .bad := by
  cases r with
  | ok y => exact absurd rfl (h y)
  | exc _ _ => rfl
  | bad => rfl
def W0 : WX := fun _ _ _ _ => False
/-- the block's context -/
theorem Ok.blk {sc scope : Scope} {X : Cx} {W : WX} (ok : Ok T N k C sc X W) (s : Shared) (H : Hp) (A : Addr) (cl : List (Str × Addr)) (fp : List Addr) : Ok T N k C (relS scope sc) (X.blk s H scope (compEnvC scope cl A X.env) fp) W0 where
  n := ok.n
  nd := ok.nd
  sc := by rw [← ok.sc]; rfl
  calm := ok.calm
  room := ok.room
  tk := takes_none5
  wd := ok.wd
theorem mapC_cons {b : D → Option Env} {c : Env → Res Bool} {e : Env → Res D} {x : D} {r : List D} {ys : List D} (h : mapC b c e (x :: r) = .ok ys) :
    ∃ m, b x = some m ∧ ((c m = .ok true ∧ ∃ y zs, e m = .ok y ∧ mapC b c e r = .ok zs ∧ ys = y :: zs) ∨ (c m = .ok false ∧ mapC b c e r = .ok ys)) := by
  unfold mapC at h
  obtain ⟨m, h1, h⟩ := opt_ok h
  obtain ⟨kk, h2, h⟩ := res_bind_ok h
  refine ⟨m, h1, ?_⟩
  cases kk with
  | true =>
    obtain ⟨y, h3, h⟩ := res_bind_ok h
    obtain ⟨zs, h4, h⟩ := res_bind_ok h
    cases h
    exact .inl ⟨h2, y, zs, h3, h4, rfl⟩
  | false => exact .inr ⟨h2, h⟩
/-- the reading of a comprehension by the evaluator -/
theorem lc_read {X : Cx} {W : WX} {sc : Scope} {own : List Nat} {tg : Tg} {kk : Sk} {a b : Ex} {elt : Ex} {cnd : Env → Res Bool} {tt : TT} (ok : Ok T N k C sc X W) (hown : tgIn own tg = true) (hz : isZip kk = true → isMany tg = true)
    (htt : ∀ (F H : Hp) (σ : L2.St) (ρ : Env) (bb : Bool) (Q : Bool → Hp → Prop), Rel X.K F σ H ρ → cnd ρ = .ok bb → (∀ F' H', Ext F H F' H' → Q bb H') → tt σ H Q)
    {σ : L2.St} {H : Hp} {Q : VK} {F : Hp} {ρ : Env} (rel : Rel X.K F σ H ρ)
    (h : match (ev C ρ a).bind (fun x => (ev C ρ b).bind fun y => opt (itemsOf kk x.2 y.2) fun its =>
        (noX (mapC (fun d => bindTg (wipe ρ own) d tg) cnd (fun m => (ev C m elt).bind fun z => opt (dat z) .ok) its)).bind fun ys => opt (grdO (szOk its.length) (some (.list ys))) ret) with
      | .ok r => ∃ v, r = (false, v) ∧ ∀ p o F' H', Ext F H F' H' → H p = none → F' p = none → H' p = some o → Cnt X.K F' p o v → Q (.ref p) H'
      | .exc c p => ∀ F' H' cls d, Ext F H F' H' → Xr T X.K X.mg c p cls d H' → W cls d σ H'
      | .bad => False) :
    tLc (tS T X C W kk a b) (tG X tg) tt (tE T X C W0 elt) own σ H Q := by
  generalize hE : (fun m => (ev C m elt).bind fun z => opt (dat z) .ok) = eE at h
  refine ⟨F, ρ, rel, ?_⟩
  cases ea : ev C ρ a with
  | bad => rw [ea] at h; exact h.elim
  | exc c p => rw [ea] at h; exact h
  | ok x =>
    rw [ea] at h
    cases eb : ev C ρ b with
    | bad => simp only [Res.bind] at h; rw [eb] at h; exact h.elim
    | exc c p =>
      simp only [Res.bind] at h ⊢
      rw [eb] at h; exact h
    | ok y =>
      simp only [Res.bind] at h ⊢
      rw [eb] at h
      cases ei : itemsOf kk x.2 y.2 with
      | none => simp only [Res.bind] at h ⊢; rw [ei] at h; exact h.elim
      | some its =>
        simp only [Res.bind] at h ⊢
        rw [ei] at h
        simp only [opt] at h ⊢
        cases em : mapC (fun d => bindTg (wipe ρ own) d tg) cnd eE its with
        | bad => rw [em] at h; exact h.elim
        | exc c p => rw [em] at h; exact h.elim
        | ok ys =>
          rw [em] at h
          cases eg : szOk its.length with
          | false => rw [eg] at h; exact h.elim
          | true =>
            rw [eg] at h
            obtain ⟨v, e1, hq⟩ := h
            cases e1
            have hsz := szOk_le eg
            intro F1 H1 ex1 J jok D nD
            have rel1 := rel.ext ex1
            have fD : F1 D = none := rel1.sub.free nD
            refine ⟨fun i m Hi => m = its.length - i ∧ i ≤ its.length ∧ ∃ Fi acc ds rest, Ext F1 H1 Fi Hi ∧ Fi D = none ∧ Hi D = some (.lst acc) ∧ DqAll X.K Fi acc ds ∧ acc.length ≤ i ∧
                mapC (fun d => bindTg (wipe ρ own) d tg) cnd eE (its.drop i) = .ok rest ∧ ds ++ rest = ys, ⟨its.length, by simp, Nat.zero_le _, F1, [], [], ys, Ext.put (Ext.refl rel1.sub) nD fD, fD, upd_same, .nil, Nat.le_refl _, em, rfl⟩, ?_⟩
            rintro i m Hi ⟨rfl, hi, Fi, acc, ds, rest, exi, fDi, hDi, hacc, hal, emi, hys⟩
            have sB : Same (if (x.1 || y.1) = true then H1 else F1) Hi := by
              split
              · exact exi.hh
              · exact exi.ff.trans exi.sub
            by_cases hlt : i < its.length
            · refine .inr ⟨jok.go i Hi sB hlt, fun H' => i + 1 ≤ its.length ∧ ∃ Fi acc ds rest, Ext F1 H1 Fi H' ∧ Fi D = none ∧ H' D = some (.lst acc) ∧ DqAll X.K Fi acc ds ∧ acc.length ≤ i + 1 ∧
                mapC (fun d => bindTg (wipe ρ own) d tg) cnd eE (its.drop (i + 1)) = .ok rest ∧ ds ++ rest = ys, fun H' p' => ⟨its.length - (i + 1), by omega, rfl, p'⟩, fun v Hy yy => ?_⟩
              obtain ⟨d, ed, sy, iw⟩ := jok.yld i Hi v Hy sB hlt yy
              have exy : Ext F1 H1 Fi Hy := exi.trans (Ext.grow exi.sub sy)
              have hdrop : its.drop i = d :: its.drop (i + 1) := by
                obtain ⟨hl, hd⟩ := List.getElem?_eq_some_iff.mp ed
                rw [List.drop_eq_getElem_cons hl, hd]
              rw [hdrop] at emi
              obtain ⟨mρ, bd, hc⟩ := mapC_cons emi
              refine ⟨Fi, wipe ρ own, d, mρ, (rel1.ext exy).wiped own, Ifor.item exi.ff iw hz, bd, fun σ2 rel2 tp => ⟨?_, ?_⟩⟩
              · refine wipe_eq (by rw [tp.len, L2.wipe_length]) fun j hj => ?_
                rw [tp.keep j (fun hm => hj ?_), wipeV_out hj]
                have := List.all_eq_true.mp hown j hm
                simpa using this
              · rcases hc with ⟨hc, yv, zs, he, hm, rfl⟩ | ⟨hc, hm⟩
                · refine htt Fi Hy σ2 mρ true _ rel2 hc fun F3 H3 ex3 => ?_
                  show tE T X C W0 elt σ2 H3 _
                  have rel3 := rel2.ext ex3
                  refine ⟨F3, mρ, rel3, ?_⟩
                  obtain ⟨r, he1, he2⟩ := res_bind_ok (show (ev C mρ elt).bind (fun z => opt (dat z) .ok) = .ok yv by rw [← hE] at he; exact he)
                  obtain ⟨dd, he3, he4⟩ := opt_ok he2
                  cases he4
                  rw [he1]
                  intro F4 H4 ex4 xv hv
                  have exa : Ext F1 H1 F4 H4 := exy.trans (ex3.trans ex4)
                  have f4 : F4 D = none := (ex3.trans ex4).not fDi (sy _ _ hDi)
                  have h4 : H4 D = some (.lst acc) := (ex3.trans ex4).hh _ _ (sy _ _ hDi)
                  exact ⟨acc, h4, by omega, hlt, F4, _, _, zs, exa.put nD f4, f4, upd_same, (DqAll.mono (ex3.trans ex4).ff _ _ hacc).snoc (hv.dp he3), by simp; omega, hm, by rw [← hys]; simp⟩
                · refine htt Fi Hy σ2 mρ false _ rel2 hc fun F3 H3 ex3 => ?_
                  exact ⟨hlt, F3, acc, ds, rest, exy.trans ex3, ex3.not fDi (sy _ _ hDi), ex3.hh _ _ (sy _ _ hDi), DqAll.mono ex3.ff _ _ hacc, by omega, hm, hys⟩
            · have hie : i = its.length := by omega
              refine .inl ⟨jok.stop i Hi sB (show its.length ≤ i by omega), ?_⟩
              subst hie
              rw [List.drop_length] at emi
              cases emi
              rw [List.append_nil] at hys
              subst hys
              exact hq D (.lst acc) Fi Hi (ex1.trans exi) (ex1.hh.free nD) fDi hDi hacc
theorem own_map (own : List Nat) : (ownP N own).map (·.2) = own := by
  unfold ownP; rw [List.map_map]; simp [Function.comp_def]
theorem chk_cpr {own : List Nat} {tg : Tg} {kk : Sk} {a b elt : Ex} {sc : Scope} {e : Expr} (h : chkE T N (.cpr own tg kk a b elt) sc e = true) : ∃ e' t iter scope p, e = .ListComp e' [⟨t, iter, [], 0⟩] scope p ∧
    (blkC N sc scope (ownP N own) && chkTg N (relS scope sc) true tg t && tgIn own tg && !isSet iter && srcC sc (chkE T N a sc) (chkE T N b sc) (bNone b) (isMany tg) kk iter && chkE T N elt (relS scope sc) e') = true := by
  unfold chkE at h
  split at h <;> first | exact no h | skip
  all_goals first | (rename_i q; cases q; exact ⟨_, _, _, _, _, rfl, h⟩) | (rename_i q _; cases q; exact ⟨_, _, _, _, _, rfl, h⟩) | (simp_all; done)
theorem chk_cpi {own : List Nat} {tg : Tg} {kk : Sk} {a b c elt : Ex} {sc : Scope} {e : Expr} (h : chkE T N (.cpi own tg kk a b c elt) sc e = true) : ∃ e' t iter i scope p, e = .ListComp e' [⟨t, iter, [i], 0⟩] scope p ∧
    (blkC N sc scope (ownP N own) && chkTg N (relS scope sc) true tg t && tgIn own tg && !isSet iter && srcC sc (chkE T N a sc) (chkE T N b sc) (bNone b) (isMany tg) kk iter && chkE T N elt (relS scope sc) e' && chkE T N c (relS scope sc) i) = true := by
  unfold chkE at h
  split at h <;> first | exact no h | skip
  all_goals first | (rename_i q; cases q; exact ⟨_, _, _, _, _, _, rfl, h⟩) | (rename_i q _; cases q; exact ⟨_, _, _, _, _, _, rfl, h⟩) | (simp_all; done)
theorem sn_cpr {own : List Nat} {tg : Tg} {kk : Sk} {a b elt : Ex} (ha : SE T N k C a) (hb : SE T N k C b) (he : SE T N k C elt) : SN T N k C (.cpr own tg kk a b elt) := by
  intro sc X W e ok h
  obtain ⟨e, t, iter, scope, p, he0, h0⟩ := chk_cpr h
  clear h; subst he0; have h := h0
  simp only [Bool.and_eq_true, Bool.not_eq_true'] at h
  obtain ⟨⟨⟨⟨⟨h1, h2⟩, h3⟩, h4⟩, h5⟩, h6⟩ := h
  obtain ⟨pi, hz⟩ := src_ok (tg := t) ok ha hb h5 (tg_many h2)
  have P := pe_lc (pos := p) (own := ownP N own) (scope := scope) (g := tG X tg) (tt := tYes) (te := tE T X C W0 elt) ok.calm (by rw [ok.n]; exact ok.nd) pi (blkOk_by (by rw [ok.n, ok.sc]; exact h1))
    (fun s H A cl fp => pg_ok (X := X.blk s H scope (compEnvC scope cl A X.env) fp) ok.n ok.nd (ok.blk s H A cl fp).sc ok.calm (fun z => by cases z) tg t h2) (fun s H A cl fp => pts_nil)
    (fun s H A cl fp => he _ _ _ e (ok.blk s H A cl fp) h6) (fold_ix h4)
  rw [own_map] at P
  exact PE.imp P fun σ H Q ⟨F, ρ, rel, hp⟩ => lc_read (cnd := fun _ => .ok true) ok h3 hz (fun F H σ ρ bb Q rel e1 q => by cases e1; exact q F H (Ext.refl rel.sub)) rel hp
theorem sn_cpi {own : List Nat} {tg : Tg} {kk : Sk} {a b c elt : Ex} (ha : SE T N k C a) (hb : SE T N k C b) (hc : ST T N k C c) (he : SE T N k C elt) : SN T N k C (.cpi own tg kk a b c elt) := by
  intro sc X W e ok h
  obtain ⟨e, t, iter, i, scope, p, he0, h0⟩ := chk_cpi h
  clear h; subst he0; have h := h0
  simp only [Bool.and_eq_true, Bool.not_eq_true'] at h
  obtain ⟨⟨⟨⟨⟨⟨h1, h2⟩, h3⟩, h4⟩, h5⟩, h6⟩, h7⟩ := h
  obtain ⟨pi, hz⟩ := src_ok (tg := t) ok ha hb h5 (tg_many h2)
  have P := pe_lc (pos := p) (own := ownP N own) (scope := scope) (g := tG X tg) (tt := tT T X C W0 c) (te := tE T X C W0 elt) ok.calm (by rw [ok.n]; exact ok.nd) pi (blkOk_by (by rw [ok.n, ok.sc]; exact h1))
    (fun s H A cl fp => pg_ok (X := X.blk s H scope (compEnvC scope cl A X.env) fp) ok.n ok.nd (ok.blk s H A cl fp).sc ok.calm (fun z => by cases z) tg t h2) (fun s H A cl fp => pts_one (hc _ _ _ i (ok.blk s H A cl fp) h7))
    (fun s H A cl fp => he _ _ _ e (ok.blk s H A cl fp) h6) (fold_ix h4)
  rw [own_map] at P
  refine PE.imp P fun σ H Q ⟨F, ρ, rel, hp⟩ => lc_read (cnd := fun m => evT C m c) ok h3 hz (fun F H σ ρ bb Q rel e1 q => ⟨F, ρ, rel, ?_⟩) rel hp
  rw [show evT C ρ c = .ok bb from e1]
  exact q
theorem chk_dc1 {kx v : Ex} {sc : Scope} {e : Expr} (h : chkE T N (.dc1 kx v) sc e = true) : ∃ q w p, e = .Dict [some q] [w] p ∧ (chkE T N kx sc q && chkE T N v sc w) = true := by
  unfold chkE at h
  split at h <;> first | exact no h | skip
  all_goals first | contradiction | (injections; subst_vars; exact ⟨_, _, _, rfl, h⟩)
theorem chk_dc0 {sc : Scope} {e : Expr} (h : chkE T N .dc0 sc e = true) : ∃ p, e = .Dict [] [] p := by
  unfold chkE at h
  split at h <;> first | exact no h | skip
  all_goals first | contradiction | exact ⟨_, rfl⟩
theorem pe_or {X : Cx} {e : Expr} {t1 t2 : TE} (h1 : PE X e t1) (h2 : PE X e t2) : PE X e (fun σ H Q => t1 σ H Q ∨ t2 σ H Q) :=
  ⟨fun pins s σ H Q I h => h.elim (h1.run pins s σ H Q I) (h2.run pins s σ H Q I)⟩
theorem tN_post {X : Cx} {W : WX} {σ : L2.St} {F H : Hp} {ρ : Env} {e : Ex} {Q : VK} {p : Addr} {o0 : HO} (rel : Rel X.K F σ H ρ) (np : H p = none) (hp : match ev C ρ e with
    | .ok r => ∃ v, r = (false, v) ∧ ∀ p o F' H', Ext F H F' H' → H p = none → F' p = none → H' p = some o → Cnt X.K F' p o v → Q (.ref p) H'
    | .exc c p => ∀ F' H' cls d, Ext F H F' H' → Xr T X.K X.mg c p cls d H' → W cls d σ H'
    | .bad => False) : Post T X W σ F (upd H p o0) (fun F' H' r => ev C ρ e = .ok r ∧ H' p = some o0 ∧ ∃ v, r = (false, v) ∧ ∀ o, Cnt X.K F' p o v → Q (.ref p) (upd H' p o)) (ev C ρ e) := by
  have e0 : Ext F H F (upd H p o0) := Ext.free rel.sub np
  cases e1 : ev C ρ e with
  | bad => rw [e1] at hp; exact hp.elim
  | exc c q => rw [e1] at hp; exact fun F' H' cls d ex => hp F' H' cls d (e0.trans ex)
  | ok r =>
    rw [e1] at hp
    obtain ⟨v, e2, hp⟩ := hp
    intro F1 H1 ex
    have fp : F1 p = none := ex.not (rel.sub.free np) upd_same
    exact ⟨rfl, ex.hh _ _ upd_same, v, e2, fun o c => hp p o F1 _ ((e0.trans ex).put np fp) np fp upd_same c⟩
theorem sn_dc1 {kx v : Ex} (hk : SE T N k C kx) (hv : SE T N k C v) : SN T N k C (.dc1 kx v) := by
  intro sc X W e ok h
  obtain ⟨q, w, p, rfl, h0⟩ := chk_dc1 h
  simp only [Bool.and_eq_true] at h0
  obtain ⟨h1, h2⟩ := h0
  refine PE.imp (pe_or (pe_disp (pps_cons (hk sc X W q ok h1) (hv sc X W w ok h2) pps_nil) rfl rfl (by simp) (by simp)) (pe_dispT (by have := ok.hu; omega) (hk sc X W q ok h1) (hv sc X W w ok h2))) fun σ H Q ⟨F, ρ, rel, hp⟩ => ?_
  by_cases hA : ∃ kvs, ev C ρ (.dc1 kx v) = .ok (false, .dI kvs)
  · obtain ⟨kvs, hA⟩ := hA
    refine .inl fun p np => ?_
    have hp := tN_post (o0 := .dK []) rel np hp
    refine tE_bind (rel.ext (Ext.free rel.sub np)) hp fun r1 x F1 H1 _ e1 rel1 v1 hp1 => ?_
    refine tE_bind rel1 hp1 fun r2 y F2 H2 _ e2 rel2 v2 hp2 => ?_
    obtain ⟨dk, g1, hp2⟩ := opt_post hp2
    obtain ⟨dv, g2, hp2⟩ := opt_post hp2
    obtain ⟨z, g3, hp2⟩ := opt_post hp2
    obtain ⟨q1, q2, v', q3, q4⟩ := hp2 F2 H2 (Ext.refl rel2.sub)
    cases q3
    rw [hA] at q1
    cases q1
    have hdk := Dq.mono e2.ff _ _ (v1.dp g1)
    have hdv := v2.dp g2
    cases dk with
    | int i =>
      cases g3
      cases hdk
      exact ⟨q2, [(.inl i, y)], rfl, by simp, q4 _ (.cons ⟨rfl, hdv⟩ .nil)⟩
    | _ => exfalso; revert g3; simp only [dicD]; intro g3; obtain ⟨_, _, g⟩ := bind_ok g3; cases g
  · refine .inr fun p np => ?_
    have hp := tN_post (o0 := .ext (dPhi p [] 0)) rel np hp
    refine tE_bind (rel.ext (Ext.free rel.sub np)) hp fun r1 x F1 H1 _ e1 rel1 v1 hp1 => ?_
    refine tE_bind rel1 hp1 fun r2 y F2 H2 _ e2 rel2 v2 hp2 => ?_
    obtain ⟨dk, g1, hp2⟩ := opt_post hp2
    obtain ⟨dv, g2, hp2⟩ := opt_post hp2
    obtain ⟨z, g3, hp2⟩ := opt_post hp2
    obtain ⟨q1, q2, v', q3, q4⟩ := hp2 F2 H2 (Ext.refl rel2.sub)
    cases q3
    have hdv := v2.dp g2
    have hdk := Dq.mono e2.ff _ _ (v1.dp g1)
    cases ek : keyT dk with
    | none =>
      cases dk with
      | int i => cases g3; exact (hA ⟨_, q1⟩).elim
      | _ => exfalso; revert g3; simp only [dicD]; rw [ek]; intro g3; cases g3
    | some is =>
      have := keyT_ok ek
      subst this
      have g3 : (keyT (PyData.tuple (is.map .int))).bind (fun is => some (Vl.dT [(is, dv)])) = some z := g3
      rw [ek] at g3
      cases g3
      cases hdk with
      | tup hs ha => exact ⟨q2, F2, _, is, dv, rfl, rel2.sub, .tup hs ha, hdv, fun ys ep pr => q4 _ ⟨ys, ep, rfl, pr⟩⟩
theorem sn_dc0 : SN T N k C .dc0 := by
  intro sc X W e ok h
  obtain ⟨p, rfl⟩ := chk_dc0 h
  refine PE.imp pe_dnewX fun σ H Q ⟨F, ρ, rel, hp⟩ => ?_
  intro p np
  obtain ⟨v, e1, hp⟩ := hp
  cases e1
  exact hp p _ F _ (Ext.free rel.sub np) np (rel.sub.free np) upd_same ⟨[], 0, rfl, .nil⟩
theorem plain_of {e : Ex} (he : SE T N k C e) (hp : ∀ sc a, chkE T N e sc a = true → plainT a = true) : SE T N k C e ∧ ST T N k C e := ⟨he, st_plain he hp⟩
theorem chk_plain {e : Ex} {sc : Scope} {a : Expr} (h : chkE T N e sc a = true) (hn : plainT a = false) : (∃ x, e = .not x) ∨ (∃ x y, e = .and x y) ∨ (∃ x y, e = .or x y) ∨ (∃ x y z, e = .ite x y z) ∨ (∃ o x y, e = .cmp o x y) ∨ (∃ o p x y z, e = .chn o p x y z) ∨ ∃ p x, e = .isn p x := by
  unfold chkE at h
  split at h <;> first | exact no h | exact no hn.symm | (simp [plainT] at hn; done) | simp
  all_goals (exact no hn.symm)
end
end RL
/-! RLAll: every expression that passes the check is read as the evaluator tells. -/
namespace RL
open PySem PySem.Spec PyProof.Rows L2
section
variable {T : Tab} {N : List Str} {k : Nat} {C : Cfg}
def plainEx : Ex → Bool
  | .not _ => false
  | .and _ _ => false
  | .or _ _ => false
  | .ite _ _ _ => false
  | .cmp _ _ _ => false
  | .chn _ _ _ _ _ => false
  | .isn _ _ => false
  | _ => true
theorem pl {e : Ex} (he : SE T N k C e) (hp : plainEx e = true) : SE T N k C e ∧ ST T N k C e := plain_of he fun sc a h => by
  cases q : plainT a with
  | true => rfl
  | false =>
    rcases chk_plain h q with ⟨_, e⟩ | ⟨_, _, e⟩ | ⟨_, _, e⟩ | ⟨_, _, _, e⟩ | ⟨_, _, _, e⟩ | ⟨_, _, _, _, _, e⟩ | ⟨_, _, e⟩ <;> (subst e; exact no hp)
theorem of_n {e : Ex} (h : SN T N k C e) (hv : ∀ (ρ : Env) r, ev C ρ e = .ok r → r.1 = false) (hp : plainEx e = true) : SE T N k C e ∧ ST T N k C e := pl (se_of_sn h hv) hp
theorem frz_cp {ρ : Env} {own : List Nat} {tg : Tg} {kk : Sk} {a b : Ex} {cnd : Env → Res Bool} {eE : Env → Res D} {r : Bool × Vl}
    (h : (ev C ρ a).bind (fun x => (ev C ρ b).bind fun y => opt (itemsOf kk x.2 y.2) fun its => (noX (mapC (fun d => bindTg (wipe ρ own) d tg) cnd eE its)).bind fun ys => opt (grdO (szOk its.length) (some (.list ys))) ret) = .ok r) : r.1 = false := by
  obtain ⟨x, _, h⟩ := res_bind_ok h
  obtain ⟨y, _, h⟩ := res_bind_ok h
  obtain ⟨its, _, h⟩ := opt_ok h
  obtain ⟨ys, _, h⟩ := res_bind_ok h
  obtain ⟨d, _, h⟩ := opt_ok h
  cases h; rfl
mutual
theorem sound : ∀ e : Ex, SE T N k C e ∧ ST T N k C e
  | .var i => pl se_var rfl
  | .con d => pl se_con rfl
  | .glo g => pl se_glo rfl
  | .bin o a b => pl (se_bin (sound a).1 (sound b).1) rfl
  | .neg a => pl (se_neg (sound a).1) rfl
  | .cmp o a b => ⟨se_cmp (sound a).1 (sound b).1, st_cmp (sound a).1 (sound b).1⟩
  | .chn o p a b c => se_chn (sound a).1 (sound b).1 (sound c).1
  | .isn p a => isn_both (sound a).1
  | .and a b => and_both (sound a).1 (sound a).2 (sound b).1 (sound b).2
  | .or a b => or_both (sound a).1 (sound a).2 (sound b).1 (sound b).2
  | .not a => not_both (sound a).1 (sound a).2
  | .ite c a b => ite_both (sound c).2 (sound a).1 (sound a).2 (sound b).1 (sound b).2
  | .tup es => pl (se_tup (soundL es)) rfl
  | .lst es => of_n (sn_lst (soundL es)) (fun ρ r h => by
      obtain ⟨x, _, h⟩ := res_bind_ok h
      obtain ⟨y, _, h⟩ := opt_ok h
      cases h; rfl) rfl
  | .idx a i => pl (se_idx (sound a).1 (sound i).1) rfl
  | .slf a lo => pl (se_slf (sound a).1 (sound lo).1) rfl
  | .slt a hi => pl (se_slt (sound a).1 (sound hi).1) rfl
  | .slb a lo hi => pl (se_slb (sound a).1 (sound lo).1 (sound hi).1) rfl
  | .rev a => pl (se_rev (sound a).1) rfl
  | .cpr own tg kk a b elt => of_n (sn_cpr (sound a).1 (sound b).1 (sound elt).1) (fun ρ r h => frz_cp h) rfl
  | .cpi own tg kk a b c elt => of_n (sn_cpi (sound a).1 (sound b).1 (sound c).2 (sound elt).1) (fun ρ r h => frz_cp h) rfl
  | .call f [] => pl (se_call ses_nil ses_nil) rfl
  | .call f (e :: es) => pl (se_call (ses_cons (sound e).1 (soundL es)) (soundL es)) rfl
  | .fn1 f a => pl (se_fn1 (sound a).1) rfl
  | .fn2 f a b => pl (se_fn2 (sound a).1 (sound b).1) rfl
  | .mt m a b => pl (se_mt (sound a).1 (sound b).1) rfl
  | .isi a t => pl (se_isi (sound a).1) rfl
  | .dc0 => of_n sn_dc0 (fun ρ r h => by cases h; rfl) rfl
  | .dc1 a v => of_n (sn_dc1 (sound a).1 (sound v).1) (fun ρ r h => by
      obtain ⟨x, _, h⟩ := res_bind_ok h
      obtain ⟨y, _, h⟩ := res_bind_ok h
      obtain ⟨k1, _, h⟩ := opt_ok h
      obtain ⟨k2, _, h⟩ := opt_ok h
      obtain ⟨k3, _, h⟩ := opt_ok h
      cases h; rfl) rfl
  | .fst es => pl (se_fst (soundF es)) rfl
  | .fld a => pl (fun sc X W a ok h => no h) rfl
theorem soundL : ∀ es : List Ex, SEs T N k C es
  | [] => ses_nil
  | e :: es => ses_cons (sound e).1 (soundL es)
theorem soundF : ∀ es : List Ex, SFs T N k C es
  | [] => sfs_nil
  | e :: es => sfs_cons (sound e).1 (soundF es)
end
/-- what a new name may hold alone -/
theorem soundN : ∀ e : Ex, fresh e = true → SN T N k C e := by
  intro e h
  cases e with
  | lst es => exact sn_lst (soundL es)
  | dc1 a v => exact sn_dc1 (sound a).1 (sound v).1
  | cpr own tg kk a b elt => exact sn_cpr (sound a).1 (sound b).1 (sound elt).1
  | cpi own tg kk a b c elt => exact sn_cpi (sound a).1 (sound b).1 (sound c).2 (sound elt).1
  | fn1 f a =>
    cases f with
    | list => exact sn_list (sound a).1
    | _ => exact no h
  | dc0 => exact sn_dc0
  | _ => exact no h
end
end RL
/-! RLStm: how a statement's reading follows the evaluator. -/
namespace RL
open PySem PySem.Spec PyProof.Rows L2

/-- slots and heaps since a def's start (F0, H0) -/
structure Rl (K : W.Frag) (F0 H0 F : Hp) (σ : L2.St) (H : Hp) (ρ : Env) : Prop where
  rel : Rel K F σ H ρ
  ext : Ext F0 H0 F H
  nw : ∀ (i : Nat) v a, ρ[i]? = some (some (.own v)) → σ[i]? = some (some (.ref a)) → H0 a = none
section
variable {K : W.Frag} {F0 H0 F H F' H' : Hp} {σ : L2.St} {ρ : Env} {i : Nat} {x : V} {v w : Vl} {a : Addr} {o o' : HO}
theorem Rl.mono (r : Rl K F0 H0 F σ H ρ) (e : Ext F H F' H') : Rl K F0 H0 F' σ H' ρ := ⟨r.rel.ext e, r.ext.trans e, r.nw⟩
theorem Rl.setVal (r : Rl K F0 H0 F σ H ρ) (h : Frep K F x v) (i : Nat) : Rl K F0 H0 F (σ.set i (some x)) H (ρ.set i (some (.val v))) :=
  ⟨r.rel.setVal h i, r.ext, fun j u a hj ha => by
    rcases get_set hj with ⟨rfl, e, hl⟩ | ⟨hne, e⟩
    · cases e
    · rw [List.getElem?_set_ne (fun z => hne z.symm)] at ha
      exact r.nw j u a e ha⟩
/-- a slot forgotten -/
theorem Rl.setNone (r : Rl K F0 H0 F σ H ρ) (i : Nat) : Rl K F0 H0 F (σ.set i none) H (ρ.set i none) :=
  ⟨⟨r.rel.sub, by simp [r.rel.len], fun j u hj => by
      rcases get_set hj with ⟨rfl, e, hl⟩ | ⟨hne, e⟩
      · cases e
      · rw [List.getElem?_set_ne (fun z => hne z.symm)]
        exact r.rel.val j u e, fun j u hj => by
      rcases get_set hj with ⟨rfl, e, hl⟩ | ⟨hne, e⟩
      · cases e
      · rw [List.getElem?_set_ne (fun z => hne z.symm)]
        exact r.rel.own j u e, fun j k u w a hjk hj hk h1 => by
      rcases get_set hj with ⟨rfl, e, hl⟩ | ⟨hne, e⟩
      · cases e
      · rcases get_set hk with ⟨rfl, e2, hl⟩ | ⟨hne2, e2⟩
        · cases e2
        · rw [List.getElem?_set_ne (fun z => hne z.symm)] at h1
          rw [List.getElem?_set_ne (fun z => hne2 z.symm)]
          exact r.rel.dis j k u w a hjk e e2 h1⟩, r.ext, fun j u a hj ha => by
    rcases get_set hj with ⟨rfl, e, hl⟩ | ⟨hne, e⟩
    · cases e
    · rw [List.getElem?_set_ne (fun z => hne z.symm)] at ha
      exact r.nw j u a e ha⟩
/-- a new thing that the slot alone holds -/
theorem Rl.setOwn (r : Rl K F0 H0 F σ H ρ) (e : Ext F H F' H') (n : H a = none) (n' : F' a = none) (h : H' a = some o) (c : Cnt K F' a o v) (i : Nat) : Rl K F0 H0 F' (σ.set i (some (.ref a))) H' (ρ.set i (some (.own v))) := by
  have r' := r.mono e
  have far : ∀ (j : Nat) u, ρ[j]? = some (some (.own u)) → σ[j]? ≠ some (some (.ref a)) := fun j u hj z => by
    obtain ⟨b, ob, h1, h2, h3, _⟩ := r.rel.own j u hj
    rw [z] at h1
    cases h1
    rw [n] at h3; cases h3
  refine ⟨⟨r'.rel.sub, by simp [r.rel.len], fun j u hj => ?_, fun j u hj => ?_, fun j k u w b hjk hj hk h1 => ?_⟩, r'.ext, fun j u b hj hb => ?_⟩
  · rcases get_set hj with ⟨rfl, e, hl⟩ | ⟨hne, e⟩
    · cases e
    · rw [List.getElem?_set_ne (fun z => hne z.symm)]
      exact r'.rel.val j u e
  · rcases get_set hj with ⟨rfl, e, hl⟩ | ⟨hne, e⟩
    · cases e
      exact ⟨a, o, by rw [List.getElem?_set_self (by rw [r.rel.len]; exact hl)], n', h, c⟩
    · rw [List.getElem?_set_ne (fun z => hne z.symm)]
      exact r'.rel.own j u e
  · rcases get_set hj with ⟨rfl, e, hl⟩ | ⟨hne, e⟩
    · rcases get_set hk with ⟨rfl, e2, hl2⟩ | ⟨hne2, e2⟩
      · exact absurd rfl hjk
      · rw [List.getElem?_set_self (by rw [r.rel.len]; exact hl)] at h1
        cases h1
        rw [List.getElem?_set_ne (fun z => hne2 z.symm)]
        exact far k w e2
    · rw [List.getElem?_set_ne (fun z => hne z.symm)] at h1
      rcases get_set hk with ⟨rfl, e2, hl2⟩ | ⟨hne2, e2⟩
      · rw [List.getElem?_set_self (by rw [r.rel.len]; exact hl2)]
        intro z
        cases z
        exact far j u e h1
      · rw [List.getElem?_set_ne (fun z => hne2 z.symm)]
        exact r.rel.dis j k u w b hjk e e2 h1
  · rcases get_set hj with ⟨rfl, e, hl⟩ | ⟨hne, e⟩
    · rw [List.getElem?_set_self (by rw [r.rel.len]; exact hl)] at hb
      cases hb
      exact r.ext.hh.free n
    · rw [List.getElem?_set_ne (fun z => hne z.symm)] at hb
      exact r.nw j u b e hb
/-- what a slot alone holds, changed -/
theorem Rl.putOwn (r : Rl K F0 H0 F σ H ρ) (hi : ρ[i]? = some (some (.own v))) (ha : σ[i]? = some (some (.ref a))) (hn : F a = none) (c : Cnt K F a o' w) : Rl K F0 H0 F σ (upd H a o') (ρ.set i (some (.own w))) := by
  have hl : i < ρ.length := (List.getElem?_eq_some_iff.mp hi).1
  have z0 := r.nw i v a hi ha
  refine ⟨⟨fun b u q => by rw [upd_ne (ne_of_none q hn)]; exact r.rel.sub b u q, by simp [r.rel.len], fun j u hj => ?_, fun j u hj => ?_, fun j k u w b hjk hj hk h1 => ?_⟩, r.ext.put z0 hn, fun j u b hj hb => ?_⟩
  · rcases get_set hj with ⟨rfl, e, hl⟩ | ⟨hne, e⟩
    · cases e
    · exact r.rel.val j u e
  · rcases get_set hj with ⟨rfl, e, hl⟩ | ⟨hne, e⟩
    · cases e
      exact ⟨a, o', ha, hn, upd_same, c⟩
    · obtain ⟨b, ob, h1, h2, h3, h4⟩ := r.rel.own j u e
      have hb : b ≠ a := fun z => by subst z; exact r.rel.dis j i u v b hne e hi h1 ha
      exact ⟨b, ob, h1, h2, by rw [upd_ne hb]; exact h3, h4⟩
  · have hj' : ∃ u', ρ[j]? = some (some (.own u')) := by
      rcases get_set hj with ⟨rfl, e, hl⟩ | ⟨hne, e⟩
      · exact ⟨v, hi⟩
      · exact ⟨u, e⟩
    have hk' : ∃ u', ρ[k]? = some (some (.own u')) := by
      rcases get_set hk with ⟨rfl, e, hl⟩ | ⟨hne, e⟩
      · exact ⟨v, hi⟩
      · exact ⟨w, e⟩
    obtain ⟨u1, q1⟩ := hj'
    obtain ⟨u2, q2⟩ := hk'
    exact r.rel.dis j k u1 u2 b hjk q1 q2 h1
  · rcases get_set hj with ⟨rfl, e, hl⟩ | ⟨hne, e⟩
    · exact r.nw _ v b hi hb
    · exact r.nw j u b e hb
/-- a slot's own thing frozen -/
theorem Rl.frz1 (r : Rl K F0 H0 F σ H ρ) (i : Nat) : ∃ F', Same F F' ∧ Rl K F0 H0 F' σ H (frz1 ρ i) := by
  unfold RL.frz1
  split
  · rename_i v hi
    obtain ⟨a, o, h1, h2, h3, h4⟩ := r.rel.own i v hi
    have s1 : Same F (upd F a o) := same_upd h2
    refine ⟨upd F a o, s1, ⟨⟨fun b u q => ?_, by simp [r.rel.len], fun j u hj => ?_, fun j u hj => ?_, fun j k u w b hjk hj hk hb => ?_⟩, ⟨r.ext.ff.trans s1, r.ext.hh, fun b u q => ?_, fun b u q => ?_⟩, fun j u b hj hb => ?_⟩⟩
    · by_cases hb : b = a
      · subst hb; rw [upd_same] at q; rw [← q]; exact h3
      · rw [upd_ne hb] at q; exact r.rel.sub b u q
    · rcases get_set hj with ⟨rfl, e, hl⟩ | ⟨hne, e⟩
      · cases e
        exact ⟨.ref a, h1, h4.frep h2⟩
      · obtain ⟨x, q1, q2⟩ := r.rel.val j u e
        exact ⟨x, q1, q2.mono s1⟩
    · rcases get_set hj with ⟨rfl, e, hl⟩ | ⟨hne, e⟩
      · cases e
      · obtain ⟨b, ob, q1, q2, q3, q4⟩ := r.rel.own j u e
        have hb : b ≠ a := fun z => by subst z; exact r.rel.dis j i u v b hne e hi q1 h1
        exact ⟨b, ob, q1, by rw [upd_ne hb]; exact q2, q3, q4.mono s1⟩
    · rcases get_set hj with ⟨rfl, e, hl⟩ | ⟨hne, e⟩
      · cases e
      · rcases get_set hk with ⟨rfl, e2, hl⟩ | ⟨hne2, e2⟩
        · cases e2
        · exact r.rel.dis j k u w b hjk e e2 hb
    · by_cases hb : b = a
      · subst hb; rw [upd_same] at q; rw [← q]; exact h3
      · rw [upd_ne hb] at q; exact r.ext.sub b u q
    · by_cases hb : b = a
      · subst hb; exact .inr (r.nw i v b hi h1)
      · rw [upd_ne hb] at q; exact r.ext.new b u q
    · rcases get_set hj with ⟨rfl, e, hl⟩ | ⟨hne, e⟩
      · cases e
      · exact r.nw j u b e hb
  · exact ⟨F, Same.refl F, r⟩
theorem Rl.frzAll : ∀ {l : List Nat} {ρ : Env} {F : Hp}, Rl K F0 H0 F σ H ρ → ∃ F', Same F F' ∧ Rl K F0 H0 F' σ H (frzAll ρ l)
  | [], ρ, F, r => ⟨F, Same.refl F, r⟩
  | i :: l, ρ, F, r => by
    obtain ⟨F1, s1, r1⟩ := r.frz1 i
    obtain ⟨F2, s2, r2⟩ := Rl.frzAll (l := l) r1
    exact ⟨F2, s1.trans s2, r2⟩
/-- a target's store -/
theorem Rl.stored {σ' : L2.St} {ρ' : Env} {sl : List Nat} (r : Rl K F0 H0 F σ H ρ) (h : Rel K F σ' H ρ') (t : TgP sl σ ρ σ' ρ') : Rl K F0 H0 F σ' H ρ' :=
  ⟨h, r.ext, fun j u b hj hb => by
    obtain ⟨q1, q2⟩ := t.own j u hj
    rw [q2] at hb
    exact r.nw j u b q1 hb⟩
end

/-! ### ends -/
section
variable {T : Tab} {X : Cx} {C : Cfg} {W : WX} {σ : L2.St} {ρ : Env} {F0 H0 F H F' H' : Hp} {D : Ends}
def SPo (T : Tab) (X : Cx) (W : WX) (F0 H0 : Hp) (D : Ends) (F : Hp) : SR → Prop
  | .nx ρ' => ∀ σ' F' H', Same F F' → Rl X.K F0 H0 F' σ' H' ρ' → D.nx σ' H'
  | .rt v => ∀ x F' H', Same F F' → Ext F0 H0 F' H' → Frep X.K F' x v → D.rt x H'
  | .ex c p ρ' => ∀ σ' F' H' cls d, Same F F' → Rl X.K F0 H0 F' σ' H' ρ' → Xr T X.K X.mg c p cls d H' → W cls d σ' H'
  | .bad => False
theorem SPo.mono {r : SR} (s : Same F F') (h : SPo T X W F0 H0 D F r) : SPo T X W F0 H0 D F' r := by
  cases r with
  | nx ρ' => exact fun σ2 F2 H2 s2 => h σ2 F2 H2 (s.trans s2)
  | rt v => exact fun x F2 H2 s2 => h x F2 H2 (s.trans s2)
  | ex c p ρ' => exact fun σ2 F2 H2 cls d s2 => h σ2 F2 H2 cls d (s.trans s2)
  | bad => exact h
theorem of_post {β : Type} {r : Res β} {f : β → SR} (rl : Rl X.K F0 H0 F σ H ρ) (h : SPo T X W F0 H0 D F (SR.of ρ r f)) : Post T X W σ F H (fun F' _ b => SPo T X W F0 H0 D F' (f b)) r := by
  cases r with
  | ok b => exact fun F' H' e => SPo.mono e.ff h
  | exc c p => exact fun F' H' cls d e xr => h σ F' H' cls d e.ff (rl.mono e) xr
  | bad => exact h
theorem sopt {a : Type} {o : Option a} {f : a → SR} (h : SPo T X W F0 H0 D F (SR.opt o f)) : ∃ x, o = some x ∧ SPo T X W F0 H0 D F (f x) := by
  cases o with
  | none => exact h.elim
  | some x => exact ⟨x, rfl, h⟩
def tSt (T : Tab) (X : Cx) (C : Cfg) (W : WX) (F0 H0 : Hp) (s : Stm) : TS := fun D σ H => ∃ F ρ, Rl X.K F0 H0 F σ H ρ ∧ SPo T X W F0 H0 D F (exec C ρ s)
def tSts (T : Tab) (X : Cx) (C : Cfg) (W : WX) (F0 H0 : Hp) (l : List Stm) : TS := fun D σ H => ∃ F ρ, Rl X.K F0 H0 F σ H ρ ∧ SPo T X W F0 H0 D F (execs C ρ l)
theorem PS.imp {st : Stmt} {t t' : TS} (h : PS X st t) (hi : ∀ D σ H, t' D σ H → t D σ H) : PS X st t' := ⟨fun pins s σ H D I hw => h.run pins s σ H D I (hi D σ H hw)⟩
theorem PSs.imp {st : List Stmt} {t t' : TS} (h : PSs X st t) (hi : ∀ D σ H, t' D σ H → t D σ H) : PSs X st t' := ⟨fun pins s σ H D I hw => h.run pins s σ H D I (hi D σ H hw)⟩
/-- an expression whose value is frozen -/
theorem F_bind {e : Ex} {f : Vl → SR} {Q : VK} (rl : Rl X.K F0 H0 F σ H ρ) (h : SPo T X W F0 H0 D F (SR.of ρ (evF C ρ e) f))
    (k : ∀ v x F1 H1, Ext F H F1 H1 → Rl X.K F0 H0 F1 σ H1 ρ → Frep X.K F1 x v → SPo T X W F0 H0 D F1 (f v) → Q x H1) : tE T X C W e σ H Q := by
  refine tE_bind rl.rel (of_post rl h) fun r x F1 H1 er e1 rel1 v1 hp => ?_
  obtain ⟨v, q, hp⟩ := opt_post hp
  have w := hp F1 H1 (Ext.refl rel1.sub)
  obtain ⟨b, u⟩ := r
  cases b with
  | true => cases q
  | false => cases q; exact k _ x F1 H1 e1 (rl.mono e1) v1 w
theorem D_bind {e : Ex} {f : RL.D → SR} {Q : VK} (rl : Rl X.K F0 H0 F σ H ρ) (h : SPo T X W F0 H0 D F (SR.of ρ (evD C ρ e) f))
    (k : ∀ d x F1 H1, Ext F H F1 H1 → Rl X.K F0 H0 F1 σ H1 ρ → Dq X.K F1 x d → SPo T X W F0 H0 D F1 (f d) → Q x H1) : tE T X C W e σ H Q := by
  refine tE_bind rl.rel (of_post rl h) fun r x F1 H1 er e1 rel1 v1 hp => ?_
  obtain ⟨v, q, hp⟩ := opt_post hp
  exact k _ x F1 H1 e1 (rl.mono e1) (v1.dp q) (hp F1 H1 (Ext.refl rel1.sub))
theorem R_bind {e : Ex} {f : RL.D → SR} {Q : VK} (rl : Rl X.K F0 H0 F σ H ρ) (h : SPo T X W F0 H0 D F (SR.of ρ (evR C ρ e) f))
    (k : ∀ d x F1 H1, Ext F H F1 H1 → Rl X.K F0 H0 F1 σ H1 ρ → RD X.K F1 H1 x d → SPo T X W F0 H0 D F1 (f d) → Q x H1) : tE T X C W e σ H Q := by
  refine tE_bind rl.rel (of_post rl h) fun r x F1 H1 er e1 rel1 v1 hp => ?_
  obtain ⟨v, q, hp⟩ := opt_post hp
  exact k _ x F1 H1 e1 (rl.mono e1) (v1.rd rel1 q) (hp F1 H1 (Ext.refl rel1.sub))
theorem E_bind {e : Ex} {f : Bool × Vl → SR} {Q : VK} (rl : Rl X.K F0 H0 F σ H ρ) (h : SPo T X W F0 H0 D F (SR.of ρ (ev C ρ e) f))
    (k : ∀ r x F1 H1, Ext F H F1 H1 → Rl X.K F0 H0 F1 σ H1 ρ → VR X.K F1 σ ρ x r → SPo T X W F0 H0 D F1 (f r) → Q x H1) : tE T X C W e σ H Q := by
  have p := of_post rl h
  refine ⟨F, ρ, rl.rel, ?_⟩
  cases e1 : ev C ρ e with
  | ok r => rw [e1] at p; exact fun F1 H1 ex x v => k r x F1 H1 ex (rl.mono ex) v (p F1 H1 ex)
  | exc c q => rw [e1] at p; exact p
  | bad => rw [e1] at p; exact p
theorem T_bind {e : Ex} {f : Bool → SR} {Q : Bool → Hp → Prop} (rl : Rl X.K F0 H0 F σ H ρ) (h : SPo T X W F0 H0 D F (SR.of ρ (evT C ρ e) f))
    (k : ∀ b F1 H1, Ext F H F1 H1 → Rl X.K F0 H0 F1 σ H1 ρ → SPo T X W F0 H0 D F1 (f b) → Q b H1) : tT T X C W e σ H Q := by
  have p := of_post rl h
  refine ⟨F, ρ, rl.rel, ?_⟩
  cases e1 : evT C ρ e with
  | ok r => rw [e1] at p; exact fun F1 H1 ex => k r F1 H1 ex (rl.mono ex) (p F1 H1 ex)
  | exc c q => rw [e1] at p; exact p
  | bad => rw [e1] at p; exact p
theorem As_bind {es : List Ex} {f : List RL.D → SR} {Q : List V → Hp → Prop} (rl : Rl X.K F0 H0 F σ H ρ) (h : SPo T X W F0 H0 D F (SR.of ρ (evs C ρ es) f))
    (k : ∀ ds vs F1 H1, Ext F H F1 H1 → Rl X.K F0 H0 F1 σ H1 ρ → DqAll X.K F1 vs ds → SPo T X W F0 H0 D F1 (f ds) → Q vs H1) : tEs T X C W es σ H Q := by
  have p := of_post rl h
  refine ⟨F, ρ, rl.rel, ?_⟩
  cases e1 : evs C ρ es with
  | ok r => rw [e1] at p; exact fun F1 H1 ex vs v => k r vs F1 H1 ex (rl.mono ex) v (p F1 H1 ex)
  | exc c q => rw [e1] at p; exact p
  | bad => rw [e1] at p; exact p
/-- a new thing -/
theorem N_bind {e : Ex} {f : Vl → SR} {Q : VK} (rl : Rl X.K F0 H0 F σ H ρ) (h : SPo T X W F0 H0 D F (SR.of ρ (evF C ρ e) f)) (hv : ∀ r, ev C ρ e = .ok r → r.1 = false)
    (k : ∀ v p o F1 H1, Ext F H F1 H1 → H p = none → F1 p = none → H1 p = some o → Cnt X.K F1 p o v → SPo T X W F0 H0 D F1 (f v) → Q (.ref p) H1) : tN T X C W e σ H Q := by
  have p := of_post rl h
  refine ⟨F, ρ, rl.rel, ?_⟩
  unfold evF at p
  cases e1 : ev C ρ e with
  | ok r =>
    obtain ⟨b, v⟩ := r
    have hb : b = false := hv _ e1
    subst hb
    rw [e1] at p
    exact ⟨v, rfl, fun q o F1 H1 ex n1 n2 h1 c => k v q o F1 H1 ex n1 n2 h1 c (p F1 H1 ex)⟩
  | exc c q => rw [e1] at p; exact p
  | bad => rw [e1] at p; exact p
end
end RL
/-! RLStm2: statements against the text; the plain ones. -/
namespace RL
open PySem PySem.Spec PyProof.Rows L2

/-- a name that the def may store -/
def stoB (sc : Scope) (x : Str) : Bool := locB sc x || celB sc x
/-- not a tuple's display, or one of constants -/
def unpC : Expr → Bool
  | .Tuple vs _ _ => vs.all (foldedForSure 8)
  | _ => true
def isComp : Expr → Bool
  | .ListComp _ _ _ _ => true
  | .SetComp _ _ _ _ => true
  | .DictComp _ _ _ _ _ => true
  | _ => false
def isNoneTest : Expr → Bool
  | _ => false
/-- the suites of this program's except clauses: return d if isinstance(e, A) and not isinstance(e, B) else d2 -/
def chkSuite (T : Tab) (N : List Str) (i : Nat) : List Stm → Scope → List Stmt → Bool
  | [.ret (.ite (.and (.isi (.var j) (.cls a)) (.not (.isi (.var j2) (.cls b)))) (.con d) (.con d2))], sc,
    [.Return (some (.IfExp (.BoolOp .And [.Call (.Name f1 _) [.Name e1 _, .Name A _] [] _, .UnaryOp .Not (.Call (.Name f2 _) [.Name e2 _, .Name B _] [] _) _] _) (.Constant c1 _ _) (.Constant c2 _ _) _)) _] =>
      decide (j = i) && decide (j2 = i) && decide (N[i]? = some e1) && decide (e2 = e1) && locB sc e1 && nmB e1 && decide (f1 = ("isinstance" : Str)) && decide (f2 = ("isinstance" : Str)) && glB sc f1
        && decide (T.cls[a]? = some (some A)) && decide (T.cls[b]? = some (some B)) && glB sc A && glB sc B && nmB A && nmB B && constB d c1 && constB d2 c2
  | [.ret (.ite (.and (.isi (.var j) (.cls a)) (.not (.or (.isi (.var j1) (.cls b1)) (.or (.isi (.var j2) (.cls b2)) (.isi (.var j3) (.cls b3)))))) (.con d) (.con d2))], sc,
    [.Assign [.Name o po] (.BoolOp .Or [.Call (.Name g1 _) [.Name x1 _, .Name B1 _] [] _, .Call (.Name g2 _) [.Name x2 _, .Name B2 _] [] _, .Call (.Name g3 _) [.Name x3 _, .Name B3 _] [] _] _) pa,
     .Return (some (.IfExp (.BoolOp .And [.Call (.Name g0 _) [.Name x0 _, .Name A _] [] _, .UnaryOp .Not (.Name o2 _) _] _) (.Constant c1 _ _) (.Constant c2 _ _) _)) _] =>
      (decide (j = i) && decide (j1 = i) && decide (j2 = i) && decide (j3 = i)) && (decide (N[i]? = some x0) && decide (x1 = x0) && decide (x2 = x0) && decide (x3 = x0) && locB sc x0 && nmB x0)
        && (decide (g0 = ("isinstance" : Str)) && decide (g1 = ("isinstance" : Str)) && decide (g2 = ("isinstance" : Str)) && decide (g3 = ("isinstance" : Str)) && glB sc g0)
        && (decide (o2 = o) && decide (N[N.idxOf o]? = some o) && decide (N.idxOf o ≠ i) && locB sc o && nmB o)
        && (decide (T.cls[a]? = some (some A)) && decide (T.cls[b1]? = some (some B1)) && decide (T.cls[b2]? = some (some B2)) && decide (T.cls[b3]? = some (some B3)))
        && (glB sc A && glB sc B1 && glB sc B2 && glB sc B3 && nmB A && nmB B1 && nmB B2 && nmB B3) && constB d c1 && constB d2 c2
  | [.ret (.ite (.and (.isi (.var j) (.cls a)) (.not (.isi (.var j2) (.cls b)))) (.lst [.con (.str z1), .fld (.var j3)]) (.lst [.con (.str z2)]))], sc,
    [.Return (some (.IfExp (.BoolOp .And [.Call (.Name f1 _) [.Name e1 _, .Name A _] [] _, .UnaryOp .Not (.Call (.Name f2 _) [.Name e2 _, .Name B _] [] _) _] _) (.List [.Constant (.str y1) _ _, .Attribute (.Name e3 _) fl _] _) (.List [.Constant (.str y2) _ _] _) _)) _] =>
      (decide (j = i) && decide (j2 = i) && decide (N[i]? = some e1) && decide (e2 = e1) && locB sc e1 && nmB e1 && decide (f1 = ("isinstance" : Str)) && decide (f2 = ("isinstance" : Str)) && glB sc f1
        && decide (T.cls[a]? = some (some A)) && decide (T.cls[b]? = some (some B)) && glB sc A && glB sc B && nmB A && nmB B) && (decide (j3 = i) && decide (e3 = e1) && decide (fl = ("line" : Str)) && decide (z1 = y1) && decide (z2 = y2))
  | _, _, _ => false
/-- isinstance(e, B), e the exception in slot i -/
def chkI (T : Tab) (N : List Str) (i : Nat) (sc : Scope) : Ex → Expr → Bool
  | .isi (.var j) (.cls b), .Call (.Name f _) [.Name e _, .Name B _] [] _ => decide (j = i) && decide (N[i]? = some e) && locB sc e && nmB e && decide (f = ("isinstance" : Str)) && glB sc f && glB sc B && nmB B && (decide (T.cls[b]? = some (some B)) || (decide (b = 16) && decide (B = ("ValueError" : Str))))
  | _, _ => false
def chkIs (T : Tab) (N : List Str) (i : Nat) (sc : Scope) : List Ex → List Expr → Bool
  | [], [] => true
  | e :: es, x :: xs => chkI T N i sc e x && chkIs T N i sc es xs
  | _, _ => false
/-- an expression of a suite that speaks of the exception in slot i -/
def chkX (T : Tab) (N : List Str) (i : Nat) (sc : Scope) : Ex → Expr → Bool
  | .lst es, .List xs _ => chkIs T N i sc es xs
  | .bin .add (.var j) (.lst es), .BinOp (.Name x _) .Add (.List xs _) _ => decide (N[j]? = some x) && decide (j ≠ i) && visB sc x && nmB x && chkIs T N i sc es xs
  | .ite (.cmp .eq (.var j) (.con (.int z))) (.fld (.var j2)) (.con (.str s)), .IfExp (.Compare (.Name x _) [.Eq] [.Constant (.int z') _ _] _) (.Attribute (.Name e _) fl _) (.Constant (.str s') _ _) _ =>
      decide (N[j]? = some x) && decide (j ≠ i) && visB sc x && nmB x && decide (z = z') && decide (j2 = i) && decide (N[i]? = some e) && locB sc e && nmB e && decide (fl = ("line" : Str)) && decide (s = s')
  | e, a => chkI T N i sc e a
/-- the suite looks at the exception at once -/
def startsI (i : Nat) : List Stm → Bool
  | .asg _ (.lst (.isi (.var j) (.cls _) :: _)) :: _ => decide (j = i)
  | _ => false
/-- a suite of assignments -/
def chkY (T : Tab) (N : List Str) (i : Nat) (sc : Scope) : List Stm → List Stmt → Bool
  | [], [] => true
  | .asg j e :: su, .Assign [.Name x _] v _ :: bs => decide (N[j]? = some x) && decide (j ≠ i) && locB sc x && !isComp v && chkX T N i sc e v && chkY T N i sc su bs
  | _, _ => false
def parC (sc : Scope) (xs : List (Str × Pos)) (vs : List Expr) : Bool :=
  (match xs with | (_, p) :: _ => xs.all fun q => q.2.line == p.line | [] => false) && xs.all (fun q => locB sc q.1) && !(vs.any isStar) && !(vs.all (foldedForSure 8)) && !(vs.all (constantsAlone 8))
/-- o.name(..), the receiver a slot's -/
def rcvB (N : List Str) (i : Nat) (sc : Scope) (x : Str) (apos pos : Pos) : Bool := decide (N[i]? = some x) && visB sc x && nmB x && lineB apos pos
def augOk : BOp → Bool
  | .add => true
  | .sub => true
  | .mul => true
  | _ => false
/-- the arguments of pop -/
def popA : Option Int → List Expr → Bool
  | none, [] => true
  | some j, [.Constant (.int j') _ _] => decide (j = j') && decide (-(2 ^ 63) ≤ j) && decide (j < 2 ^ 63)
  | _, _ => false
mutual
def chkS (T : Tab) (N : List Str) : Stm → Scope → Stmt → Bool
  | .asg i e, sc, .Assign [.Name x _] v _ => decide (N[i]? = some x) && stoB sc x && chkE T N e sc v
  | .new i e, sc, .Assign [.Name x _] v _ => fresh e && decide (N[i]? = some x) && stoB sc x && chkE T N e sc v
  | .unp l e, sc, .Assign [.Tuple ts _ _] v _ => unpC v && chkTgs N sc false l ts && chkE T N e sc v
  | .par [i, j] es, sc, .Assign [.Tuple [.Name x px, .Name y py] _ _] (.Tuple [a, b] _ _) _ =>
      decide (N[i]? = some x) && decide (N[j]? = some y) && decide (i ≠ j) && decide (x ≠ y) && parC sc [(x, px), (y, py)] [a, b] && chkEs T N es sc [a, b]
  | .par [i, j, l] es, sc, .Assign [.Tuple [.Name x px, .Name y py, .Name z pz] _ _] (.Tuple [a, b, c] _ _) _ =>
      decide (N[i]? = some x) && decide (N[j]? = some y) && decide (N[l]? = some z) && (decide (i ≠ j) && decide (i ≠ l) && decide (j ≠ l)) && (decide (x ≠ y) && decide (x ≠ z) && decide (y ≠ z)) && parC sc [(x, px), (y, py), (z, pz)] [a, b, c] && chkEs T N es sc [a, b, c]
  | .set i k e, sc, .Assign [.Subscript (.Name x _) kx _] v _ => decide (N[i]? = some x) && visB sc x && nmB x && !isSlice kx && !isComp v && chkE T N k sc kx && chkE T N e sc v
  | .app i e, sc, .Expr (.Call (.Attribute (.Name x _) m apos) [v] [] pos) _ => decide (m = ("append" : Str)) && rcvB N i sc x apos pos && !isStar v && chkE T N e sc v
  | .ext i e, sc, .Expr (.Call (.Attribute (.Name x _) m apos) [v] [] pos) _ => fresh e && decide (m = ("extend" : Str)) && rcvB N i sc x apos pos && !isStar v && chkE T N e sc v
  | .pop t i k, sc, .Assign [tg] (.Call (.Attribute (.Name x _) m apos) args [] pos) _ => decide (m = ("pop" : Str)) && rcvB N i sc x apos pos && popA k args && chkTg N sc false t tg
  | .aug i o e, sc, .AugAssign (.Name x _) op v _ => decide (N[i]? = some x) && stoB sc x && decide (op = opOf o) && augOk o && chkE T N e sc v
  | .exp e, sc, .Expr v _ => !isComp v && chkE T N e sc v
  | .ite c a b, sc, .If t x y _ => chkE T N c sc t && chkSs T N a sc x && chkSs T N b sc y
  | .for_ tg k a b body, sc, .For t iter bd [] _ => chkTg N sc false tg t && !isSet iter && srcC sc (chkE T N a sc) (chkE T N b sc) (bNone b) (isMany tg) k iter && chkSs T N body sc bd
  | .whl c body, sc, .While t bd [] _ => chkE T N c sc t && chkSs T N body sc bd
  | .ret e, sc, .Return (some v) _ => chkE T N e sc v
  | .raise c, sc, .Raise (some (.Call (.Name x _) [.Constant (.str _) _ _] [] _)) none _ => decide (c ≠ 1) && decide (T.cls[c]? = some (some x)) && glB sc x && nmB x
  | .raise1 c e, sc, .Raise (some (.Call (.Name x _) [a] [] _)) none _ => decide (c = 1) && decide (T.cls[1]? = some (some x)) && glB sc x && nmB x && !isStar a && chkE T N e sc a
  | .try_ body h, sc, .Try bd (h0 :: hs) [] [] _ => chkSs T N body sc bd && chkH T N h sc (h0 :: hs)
  | .pass, _, _ => true
  | _, _, _ => false
def chkSs (T : Tab) (N : List Str) : List Stm → Scope → List Stmt → Bool
  | [], _, [] => true
  | s :: ss, sc, l => match s, l with
    | .frz _, l => chkSs T N ss sc l
    | s, a :: as => chkS T N s sc a && chkSs T N ss sc as
    | _, [] => false
  | [], _, _ :: _ => false
def chkH (T : Tab) (N : List Str) : Hs → Scope → List ExceptHandler → Bool
  | .nil, _, [] => true
  | .cons c i su r, sc, .ExceptHandler (some (.Name x _)) (some n) (b0 :: bs) _ :: hs => decide (T.cls[c]? = some (some x)) && glB sc x && nmB x && decide (N[i]? = some n) && locB sc n && (chkSuite T N i su sc (b0 :: bs) || (startsI i su && chkY T N i sc su (b0 :: bs))) && chkH T N r sc hs
  | _, _, _ => false
end
end RL
/-! RLStm3: the plain statements. -/
namespace RL
open PySem PySem.Spec PyProof.Rows L2
/-- a def's body, or a try's -/
structure OkS (T : Tab) (N : List Str) (k : Nat) (C : Cfg) (sc : Scope) (X : Cx) (W : WX) : Prop extends Ok T N k C sc X W where
  fn : ∀ x, X.fn x = true
  stk : X.stack = X.env :: X.outer
  frm : X.env.frame = some X.env.locals
  po : PassesOwn (model X.prog X.w) X.A X.env X.xe
  kd : X.env.scope.kind = .function
section
variable {T : Tab} {N : List Str} {k : Nat} {C : Cfg}
def SS (T : Tab) (N : List Str) (k : Nat) (C : Cfg) (s : Stm) : Prop := ∀ (sc : Scope) (X : Cx) (W : WX) (a : Stmt), OkS T N k C sc X W → chkS T N s sc a = true → ∀ F0 H0, PS X a (tSt T X C W F0 H0 s)
def SSs (T : Tab) (N : List Str) (k : Nat) (C : Cfg) (l : List Stm) : Prop := ∀ (sc : Scope) (X : Cx) (W : WX) (as : List Stmt), OkS T N k C sc X W → chkSs T N l sc as = true → ∀ F0 H0, PSs X as (tSts T X C W F0 H0 l)

theorem stoB_ok {sc : Scope} {x : Str} (h : stoB sc x = true) : Loc sc x := by
  unfold stoB at h
  rw [Bool.or_eq_true] at h
  exact h.imp locB_ok celB_ok
theorem bk_fn {env : PySem.Env} (h : env.scope.kind = .function) : env.blockKind = .function := by
  unfold PySem.Env.blockKind
  rw [h]; rfl
theorem sw_no {v : Expr} {x : Str} {p : Pos} {l : Nat} {env : PySem.Env} (h : isComp v = false) : swapsWith v (some (.Name x p)) l env = pure false := by
  cases v <;> first | rfl | cases h
theorem sw_sub {v t : Expr} {l : Nat} {env : PySem.Env} (ht : ∀ x p, t ≠ .Name x p) : swapsWith v (some t) l env = pure false := by
  cases v <;> first | rfl | (cases t <;> first | rfl | exact absurd rfl (ht _ _))
theorem sw_none {v : Expr} {l : Nat} {env : PySem.Env} (h : isComp v = false) : swapsWith v none l env = pure false := by
  cases v <;> first | rfl | cases h
def swB (sc : Scope) (x : Str) (p q : Pos) (s : Scope) : Bool := locB sc x && p.line == q.line && !(s.names.any fun (n, k) => n == x && (k == .local || k == .cell))
theorem sw_lc {e : Expr} {g : List Comprehension} {s : Scope} {q p : Pos} {x : Str} {l : Nat} {env : PySem.Env} (h : env.scope.kind = .function) :
    swapsWith (.ListComp e g s q) (some (.Name x p)) l env = pure (swB env.scope x p q s) := by
  have e1 : swapsWith (.ListComp e g s q) (some (.Name x p)) l env = pure (env.blockKind == .function && env.kindOf x == some .local && p.line == q.line && !(s.names.any fun (n, k) => n == x && (k == .local || k == .cell))) := rfl
  rw [e1, bk_fn h]
  have e2 : (env.kindOf x == some NameKind.local) = locB env.scope x := by
    show (env.scope.names.lookup x == some NameKind.local) = locB env.scope x
    unfold locB
    cases q : env.scope.names.lookup x with
    | none => rfl
    | some kk => cases kk <;> rfl
  rw [e2]
  unfold swB
  rfl
/-- name = e -/
theorem set_plain {e : Ex} {sc : Scope} {X : Cx} {W : WX} {i : Nat} {x : Str} {p pos : Pos} {v : Expr} {te : TE} (ok : OkS T N k C sc X W) (hi : N[i]? = some x) (hx : stoB sc x = true) (hp : PE X v te) (hs : swapsWith v (some (.Name x p)) pos.line X.env = pure false) :
    PS X (.Assign [.Name x p] v pos) (tAsg te (gName i)) :=
  ps_set (by rw [ok.n]; exact ok.nd) (by rw [ok.n]; exact hi) (by rw [ok.toOk.sc]; exact stoB_ok hx) hp hs (.inl (ok.fn x))
theorem tN_imp {X : Cx} {W : WX} {e : Ex} (hv : ∀ (ρ : Env) r, ev C ρ e = .ok r → r.1 = false) : ∀ σ H Q, tE T X C W e σ H Q → tN T X C W e σ H Q := fun σ H Q ⟨F, ρ, rel, hp⟩ => ⟨F, ρ, rel, by
  cases e1 : ev C ρ e with
  | ok r =>
    rw [e1] at hp
    obtain ⟨b, v⟩ := r
    have : b = false := hv ρ _ e1
    subst this
    refine ⟨v, rfl, fun p o F' H' ex hn fn hs c => ?_⟩
    have ex2 : Ext F H (upd F' p o) H' := ⟨ex.ff.trans (same_upd fn), ex.hh, fun b u q => by
      by_cases hb : b = p
      · subst hb; rw [upd_same] at q; rw [← q]; exact hs
      · rw [upd_ne hb] at q; exact ex.sub b u q, fun b u q => by
      by_cases hb : b = p
      · subst hb; exact .inr hn
      · rw [upd_ne hb] at q; exact ex.new b u q⟩
    exact hp _ _ ex2 (.ref p) (c.frep fn)
  | exc c p => rw [e1] at hp; exact hp
  | bad => rw [e1] at hp; exact hp⟩
/-- name = [..] on one line -/
theorem set_cpr {own : List Nat} {tg : Tg} {kk : Sk} {a b elt : Ex} {sc : Scope} {X : Cx} {W : WX} {i : Nat} {y : Str} {py spos : Pos} {v : Expr} (ok : OkS T N k C sc X W) (hy : N[i]? = some y) (hyl : locB sc y = true)
    (h : chkE T N (.cpr own tg kk a b elt) sc v = true) (hsw : swapsWith v (some (.Name y py)) spos.line X.env = pure true) : PS X (.Assign [.Name y py] v spos) (tAsg (tN T X C W (.cpr own tg kk a b elt)) (gName i)) := by
  obtain ⟨e, t, iter, scope, p, he0, h0⟩ := chk_cpr h
  clear h; subst he0; have h := h0
  simp only [Bool.and_eq_true, Bool.not_eq_true'] at h
  obtain ⟨⟨⟨⟨⟨h1, h2⟩, h3⟩, h4⟩, h5⟩, h6⟩ := h
  obtain ⟨pi, hz⟩ := src_ok (tg := t) ok.toOk (sound a).1 (sound b).1 h5 (tg_many h2)
  have P := ps_setLc (i := i) (own := ownP N own) (scope := scope) (g := tG X tg) (tt := tYes) (te := tE T X C W0 elt) ok.calm (by rw [ok.n]; exact ok.nd) (by rw [ok.n]; exact hy) (by rw [ok.toOk.sc]; exact locB_ok hyl) hsw pi (blkOk_by (by rw [ok.n, ok.toOk.sc]; exact h1))
    (fun s H A cl fp => pg_ok (X := X.blk s H scope (compEnvC scope cl A X.env) fp) ok.n ok.nd (ok.toOk.blk s H A cl fp).sc ok.calm (fun z => by cases z) tg t h2) (fun s H A cl fp => pts_nil)
    (fun s H A cl fp => (sound elt).1 _ _ _ e (ok.toOk.blk s H A cl fp) h6) (fold_ix h4)
  rw [own_map] at P
  exact PS.imp P fun D σ H ⟨F, ρ, rel, hp⟩ => lc_read (cnd := fun _ => .ok true) ok.toOk h3 hz (fun F H σ ρ bb Q rel e1 q => by cases e1; exact q F H (Ext.refl rel.sub)) rel hp
theorem set_cpi {own : List Nat} {tg : Tg} {kk : Sk} {a b c elt : Ex} {sc : Scope} {X : Cx} {W : WX} {i : Nat} {y : Str} {py spos : Pos} {v : Expr} (ok : OkS T N k C sc X W) (hy : N[i]? = some y) (hyl : locB sc y = true)
    (h : chkE T N (.cpi own tg kk a b c elt) sc v = true) (hsw : swapsWith v (some (.Name y py)) spos.line X.env = pure true) : PS X (.Assign [.Name y py] v spos) (tAsg (tN T X C W (.cpi own tg kk a b c elt)) (gName i)) := by
  obtain ⟨e, t, iter, cx, scope, p, he0, h0⟩ := chk_cpi h
  clear h; subst he0; have h := h0
  simp only [Bool.and_eq_true, Bool.not_eq_true'] at h
  obtain ⟨⟨⟨⟨⟨⟨h1, h2⟩, h3⟩, h4⟩, h5⟩, h6⟩, h7⟩ := h
  obtain ⟨pi, hz⟩ := src_ok (tg := t) ok.toOk (sound a).1 (sound b).1 h5 (tg_many h2)
  have P := ps_setLc (i := i) (own := ownP N own) (scope := scope) (g := tG X tg) (tt := tT T X C W0 c) (te := tE T X C W0 elt) ok.calm (by rw [ok.n]; exact ok.nd) (by rw [ok.n]; exact hy) (by rw [ok.toOk.sc]; exact locB_ok hyl) hsw pi (blkOk_by (by rw [ok.n, ok.toOk.sc]; exact h1))
    (fun s H A cl fp => pg_ok (X := X.blk s H scope (compEnvC scope cl A X.env) fp) ok.n ok.nd (ok.toOk.blk s H A cl fp).sc ok.calm (fun z => by cases z) tg t h2) (fun s H A cl fp => pts_one ((sound c).2 _ _ _ cx (ok.toOk.blk s H A cl fp) h7))
    (fun s H A cl fp => (sound elt).1 _ _ _ e (ok.toOk.blk s H A cl fp) h6) (fold_ix h4)
  rw [own_map] at P
  refine PS.imp P fun D σ H ⟨F, ρ, rel, hp⟩ => lc_read (cnd := fun m => evT C m c) ok.toOk h3 hz (fun F H σ ρ bb Q rel e1 q => ⟨F, ρ, rel, ?_⟩) rel hp
  rw [show evT C ρ c = .ok bb from e1]
  exact q
theorem comp_is {e : Ex} {sc : Scope} {v : Expr} (h : chkE T N e sc v = true) (hc : isComp v = true) : (∃ el g s q, v = .ListComp el g s q) ∧ ((∃ own tg kk a b elt, e = .cpr own tg kk a b elt) ∨ ∃ own tg kk a b c elt, e = .cpi own tg kk a b c elt) := by
  unfold chkE at h
  split at h <;> first | exact no h | exact no hc | skip
  · exact ⟨⟨_, _, _, _, rfl⟩, .inl ⟨_, _, _, _, _, _, rfl⟩⟩
  · exact ⟨⟨_, _, _, _, rfl⟩, .inr ⟨_, _, _, _, _, _, _, rfl⟩⟩
theorem fresh_ok {e : Ex} (h : fresh e = true) (ρ : Env) (r : Bool × Vl) (hr : ev C ρ e = .ok r) : r.1 = false := by
  cases e with
  | lst es =>
    obtain ⟨x, _, h⟩ := res_bind_ok hr
    obtain ⟨y, _, h⟩ := opt_ok h
    cases h; rfl
  | dc0 => cases hr; rfl
  | dc1 a b =>
    obtain ⟨x, _, h⟩ := res_bind_ok hr
    obtain ⟨y, _, h⟩ := res_bind_ok h
    obtain ⟨k1, _, h⟩ := opt_ok h
    obtain ⟨k2, _, h⟩ := opt_ok h
    obtain ⟨k3, _, h⟩ := opt_ok h
    cases h; rfl
  | cpr own tg kk a b elt => exact frz_cp hr
  | cpi own tg kk a b c elt => exact frz_cp hr
  | fn1 f a =>
    obtain ⟨x, _, h⟩ := res_bind_ok hr
    obtain ⟨y, _, h⟩ := opt_ok h
    cases h; rfl
  | _ => exact no h
/-- name = e, by any road -/
theorem set_new {e : Ex} {sc : Scope} {X : Cx} {W : WX} {i : Nat} {x : Str} {p pos : Pos} {v : Expr} (ok : OkS T N k C sc X W) (hf : fresh e = true) (hi : N[i]? = some x) (hx : stoB sc x = true) (h : chkE T N e sc v = true) :
    PS X (.Assign [.Name x p] v pos) (tAsg (tN T X C W e) (gName i)) := by
  cases hc : isComp v with
  | false => exact set_plain (e := e) ok hi hx (soundN e hf sc X W v ok.toOk h) (sw_no hc)
  | true =>
    obtain ⟨⟨el, g, s, q, rfl⟩, hw⟩ := comp_is h hc
    have hs := sw_lc (e := el) (g := g) (s := s) (q := q) (p := p) (x := x) (l := pos.line) (env := X.env) ok.kd
    cases hb : swB X.env.scope x p q s with
    | false => rw [hb] at hs; exact set_plain (e := e) ok hi hx (soundN e hf sc X W _ ok.toOk h) hs
    | true =>
      rw [hb] at hs
      have hl : locB sc x = true := by
        unfold swB at hb
        simp only [Bool.and_eq_true] at hb
        rw [← ok.toOk.sc]; exact hb.1.1
      rcases hw with ⟨own, tg, kk, a, b, elt, rfl⟩ | ⟨own, tg, kk, a, b, c, elt, rfl⟩
      · exact set_cpr ok hi hl h hs
      · exact set_cpi ok hi hl h hs
theorem set_any {e : Ex} {sc : Scope} {X : Cx} {W : WX} {i : Nat} {x : Str} {p pos : Pos} {v : Expr} (ok : OkS T N k C sc X W) (hi : N[i]? = some x) (hx : stoB sc x = true) (h : chkE T N e sc v = true) :
    PS X (.Assign [.Name x p] v pos) (tAsg (tE T X C W e) (gName i)) := by
  cases hc : isComp v with
  | false => exact set_plain (e := e) ok hi hx ((sound e).1 sc X W v ok.toOk h) (sw_no hc)
  | true =>
    obtain ⟨_, hw⟩ := comp_is h hc
    have hf : fresh e = true := by
      rcases hw with ⟨own, tg, kk, a, b, elt, rfl⟩ | ⟨own, tg, kk, a, b, c, elt, rfl⟩ <;> rfl
    exact PS.imp (set_new ok hf hi hx h) fun D σ H q => tN_imp (fun ρ r hr => fresh_ok hf ρ r hr) σ H _ q

theorem inv_asg {i : Nat} {e : Ex} {sc : Scope} {st : Stmt} (h : chkS T N (.asg i e) sc st = true) : ∃ x p v pos, st = .Assign [.Name x p] v pos ∧ (decide (N[i]? = some x) && stoB sc x && chkE T N e sc v) = true := by
  unfold chkS at h
  split at h <;> first | exact no h | skip
  all_goals first | contradiction | (injections; subst_vars; exact ⟨_, _, _, _, rfl, h⟩)
theorem ss_asg {i : Nat} {e : Ex} : SS T N k C (.asg i e) := by
  intro sc X W st ok h F0 H0
  obtain ⟨x, p, v, pos, he, h'⟩ := inv_asg h
  subst he
  simp only [Bool.and_eq_true, decide_eq_true_eq] at h'
  refine PS.imp (set_any ok h'.1.1 h'.1.2 h'.2) fun D σ H ⟨F, ρ, rl, hp⟩ => ?_
  refine F_bind rl hp fun u x F1 H1 ex rl1 fr hq => ?_
  exact hq _ F1 H1 (Same.refl _) (rl1.setVal fr i)
theorem inv_new {i : Nat} {e : Ex} {sc : Scope} {st : Stmt} (h : chkS T N (.new i e) sc st = true) : ∃ x p v pos, st = .Assign [.Name x p] v pos ∧ (fresh e && decide (N[i]? = some x) && stoB sc x && chkE T N e sc v) = true := by
  unfold chkS at h
  split at h <;> first | exact no h | skip
  all_goals first | contradiction | (injections; subst_vars; exact ⟨_, _, _, _, rfl, h⟩)
theorem ss_new {i : Nat} {e : Ex} : SS T N k C (.new i e) := by
  intro sc X W st ok h F0 H0
  obtain ⟨x, p, v, pos, he, h'⟩ := inv_new h
  subst he
  simp only [Bool.and_eq_true, decide_eq_true_eq] at h'
  obtain ⟨⟨⟨h1, h2⟩, h3⟩, h4⟩ := h'
  refine PS.imp (set_new ok h1 h2 h3 h4) fun D σ H ⟨F, ρ, rl, hp⟩ => ?_
  obtain ⟨_, _, hp⟩ := sopt hp
  refine N_bind rl hp (fun r hr => fresh_ok h1 ρ r hr) fun v p o F1 H1 ex n1 n2 h5 c hq => ?_
  exact hq _ F1 H1 (Same.refl _) (rl.setOwn ex n1 n2 h5 c i)
theorem inv_ret {e : Ex} {sc : Scope} {st : Stmt} (h : chkS T N (.ret e) sc st = true) : ∃ v pos, st = .Return (some v) pos ∧ (chkE T N e sc v) = true := by
  unfold chkS at h
  split at h <;> first | exact no h | skip
  all_goals first | contradiction | (injections; subst_vars; exact ⟨_, _, rfl, h⟩)
theorem ss_ret {e : Ex} : SS T N k C (.ret e) := by
  intro sc X W st ok h F0 H0
  obtain ⟨v, pos, he, h'⟩ := inv_ret h
  subst he
  refine PS.imp (ps_ret ((sound e).1 sc X W v ok.toOk h')) fun D σ H ⟨F, ρ, rl, hp⟩ => ?_
  exact F_bind rl hp fun u x F1 H1 ex rl1 fr hq => hq x F1 H1 (Same.refl _) rl1.ext fr
theorem inv_exp {e : Ex} {sc : Scope} {st : Stmt} (h : chkS T N (.exp e) sc st = true) : ∃ v pos, st = .Expr v pos ∧ (!isComp v && chkE T N e sc v) = true := by
  unfold chkS at h
  split at h <;> first | exact no h | skip
  all_goals first | contradiction | (injections; subst_vars; exact ⟨_, _, rfl, h⟩)
theorem ss_exp {e : Ex} : SS T N k C (.exp e) := by
  intro sc X W st ok h F0 H0
  obtain ⟨v, pos, he, h'⟩ := inv_exp h
  subst he
  simp only [Bool.and_eq_true, Bool.not_eq_true'] at h'
  refine PS.imp (ps_expr ((sound e).1 sc X W v ok.toOk h'.2) (sw_none h'.1)) fun D σ H ⟨F, ρ, rl, hp⟩ => ?_
  exact E_bind rl hp fun r x F1 H1 ex rl1 vr hq => hq σ F1 H1 (Same.refl _) rl1
theorem inv_ite {c : Ex} {a b : List Stm} {sc : Scope} {st : Stmt} (h : chkS T N (.ite c a b) sc st = true) : ∃ t x y pos, st = .If t x y pos ∧ (chkE T N c sc t && chkSs T N a sc x && chkSs T N b sc y) = true := by
  unfold chkS at h
  split at h <;> first | exact no h | skip
  all_goals first | contradiction | (injections; subst_vars; exact ⟨_, _, _, _, rfl, h⟩)
theorem ss_ite {c : Ex} {a b : List Stm} (ha : SSs T N k C a) (hb : SSs T N k C b) : SS T N k C (.ite c a b) := by
  intro sc X W st ok h F0 H0
  obtain ⟨t, x, y, pos, he, h'⟩ := inv_ite h
  subst he
  simp only [Bool.and_eq_true] at h'
  refine PS.imp (ps_if ((sound c).2 sc X W t ok.toOk h'.1.1) (ha sc X W x ok h'.1.2 F0 H0) (hb sc X W y ok h'.2 F0 H0)) fun D σ H ⟨F, ρ, rl, hp⟩ => ?_
  refine T_bind rl hp fun z F1 H1 ex rl1 hq => ?_
  cases z with
  | true => exact iteT ⟨F1, ρ, rl1, hq⟩
  | false => exact iteF ⟨F1, ρ, rl1, hq⟩
theorem inv_raise {c : Nat} {sc : Scope} {st : Stmt} (h : chkS T N (.raise c) sc st = true) : ∃ x p m j p2 p3 pos, st = .Raise (some (.Call (.Name x p) [.Constant (.str m) j p2] [] p3)) none pos ∧ (decide (c ≠ 1) && decide (T.cls[c]? = some (some x)) && glB sc x && nmB x) = true := by
  unfold chkS at h
  split at h <;> first | exact no h | skip
  all_goals first | contradiction | (injections; subst_vars; exact ⟨_, _, _, _, _, _, _, rfl, h⟩)
theorem raises_cls {X : Cx} {a : Addr} {own : Bool} (h : ClsK X.K a own) : Raises X (.ref a) := raises_own h.exc.hs h.ty
theorem ss_raise {c : Nat} : SS T N k C (.raise c) := by
  intro sc X W st ok h F0 H0
  obtain ⟨x, p, m, j, p2, p3, pos, he, h'⟩ := inv_raise h
  subst he
  simp only [Bool.and_eq_true, decide_eq_true_eq] at h'
  obtain ⟨⟨⟨hc, h1⟩, h2⟩, h3⟩ := h'
  obtain ⟨a, m1, m2⟩ := ok.wd.cls c x h1
  obtain ⟨n1, _, _⟩ := nmB_ok h3
  refine PS.imp (L2.ps_raise ok.calm ok.tk (L2.pmk_own PySem.F.excBase_ValueError (m2.raw (by simp [hc])) m1 m2.kp (raises_cls m2) (glB_ok ok.toOk.sc h2) n1)) fun D σ H ⟨F, ρ, rl, hp⟩ => ?_
  exact hp σ F H _ _ (Same.refl _) rl ⟨x, a, h1, m1, rfl, rfl⟩
theorem inv_app {i : Nat} {e : Ex} {sc : Scope} {st : Stmt} (h : chkS T N (.app i e) sc st = true) : ∃ x p m apos v pos q, st = .Expr (.Call (.Attribute (.Name x p) m apos) [v] [] pos) q ∧ (decide (m = ("append" : Str)) && rcvB N i sc x apos pos && !isStar v && chkE T N e sc v) = true := by
  unfold chkS at h
  split at h <;> first | exact no h | skip
  all_goals first | contradiction | (injections; subst_vars; exact ⟨_, _, _, _, _, _, _, rfl, h⟩)
theorem pe_slot {X : Cx} {sc : Scope} {W : WX} {i : Nat} {x : Str} {p : Pos} (ok : Ok T N k C sc X W) (h1 : N[i]? = some x) (h2 : visB sc x = true) (h3 : nmB x = true) : PE X (.Name x p) (fun σ H Q => ∃ v, σ[i]? = some (some v) ∧ Q v H) := by
  obtain ⟨n1, n2, _⟩ := nmB_ok h3
  exact pe_var (i := i) (by rw [ok.n]; exact h1) (by rw [ok.sc]; exact visB_ok h2) n1 n2
theorem ownL_at {K : W.Frag} {F0 H0 F H : Hp} {σ : L2.St} {ρ : Env} {i : Nat} {xs : List D} (rl : Rl K F0 H0 F σ H ρ) (h : ownL ρ i = some xs) :
    ∃ a vs, ρ[i]? = some (some (.own (.dat (.list xs)))) ∧ σ[i]? = some (some (.ref a)) ∧ F a = none ∧ H a = some (.lst vs) ∧ DqAll K F vs xs := by
  unfold ownL at h
  split at h
  · rename_i ys e
    cases h
    obtain ⟨a, o, h1, h2, h3, h4⟩ := rl.rel.own i _ e
    cases o with
    | lst vs => exact ⟨a, vs, e, h1, h2, h3, h4⟩
    | _ => exact h4.elim
  · cases h
theorem ss_app {i : Nat} {e : Ex} : SS T N k C (.app i e) := by
  intro sc X W st ok h F0 H0
  obtain ⟨x, p, m, apos, v, pos, q, he, h'⟩ := inv_app h
  subst he
  unfold rcvB at h'
  simp only [Bool.and_eq_true, decide_eq_true_eq, Bool.not_eq_true'] at h'
  obtain ⟨⟨⟨rfl, ⟨⟨h1, h2⟩, h3⟩, h4⟩, h5⟩, h6⟩ := h'
  have P := pe_bm (cpos := pos) (apos := apos) PySem.F.plainAttrs_list PySem.slot_list_append PySem.F.type_list_append mt_append (pe_slot (p := p) ok.toOk h1 h2 h3) (pa_cons ((sound e).1 sc X W v ok.toOk h6) pa_nil (star_cons h5)) rfl (by rw [star_cons h5]; rfl) h4 (star_cons h5)
  refine PS.imp (ps_expr P rfl) fun D σ H ⟨F, ρ, rl, hp⟩ => ?_
  obtain ⟨xs, hx, hp⟩ := sopt hp
  obtain ⟨a, vs, e1, e2, e3, e4, e5⟩ := ownL_at rl hx
  refine ⟨.ref a, e2, .inl ⟨rfl, vs, .inl (Rd.of e4)⟩, ?_⟩
  refine D_bind rl hp fun d y F1 H1 ex rl1 hd hq => ?_
  obtain ⟨w, g, hq⟩ := sopt hq
  obtain ⟨g1, g2⟩ := grd_ok g
  cases ok_inj g2
  have e6 : vs.length = xs.length := e5.length
  have z := szOk_le g1
  refine ⟨a, vs, y, rfl, rfl, ex.hh _ _ e4, by rw [e6]; omega, ?_⟩
  exact hq σ F1 _ (Same.refl _) (rl1.putOwn e1 e2 (ex.not e3 e4) (show Cnt X.K F1 _ (.lst (vs ++ [y])) (.dat (.list (xs ++ [d]))) from (DqAll.mono ex.ff _ _ e5).snoc hd))
end
end RL
/-! RLStm4: item stores, unpacking, loops. -/
namespace RL
open PySem PySem.Spec PyProof.Rows L2
section
variable {T : Tab} {N : List Str} {k : Nat} {C : Cfg}
theorem set_both {X : Cx} (hu : X.A.units + 1 < cLine) : PSet X (fun o i v H Q => rSetL o i v H Q ∨ ∃ a H4, o = .ref a ∧ DPut H a i v H4 ∧ Q H4) := by
  intro pins s σ H o i v ov iv u Q I ro ri rv h
  rcases h with h | ⟨a, H4, rfl, g, q⟩
  · exact set_list pins s σ H o i v ov iv u Q I ro ri rv h
  · obtain rfl : ov = Value.ref a := ro
    exact d_setItem hu I g ri rv fun s4 I4 => ⟨H4, I4, q⟩
/-- and a dict by tuples of ints -/
theorem set_three {X : Cx} (hu : X.A.units + 1 < cLine) : PSet X (fun o i v H Q => (rSetL o i v H Q ∨ ∃ a H4, o = .ref a ∧ DPut H a i v H4 ∧ Q H4) ∨
    ∃ F a b xs ep kvs is d, o = .ref a ∧ i = .ref b ∧ Same F H ∧ H a = some (.ext (dPhi a xs ep)) ∧ Paired (EnT X.K F) kvs xs ∧ Dq X.K F (.ref b) (.tuple (is.map .int)) ∧ Dq X.K F v d ∧ kvs.length + 1 ≤ sizeLine ∧ ∀ ys ep', Paired (EnT X.K F) (putT is d kvs) ys → Q (upd H a (.ext (dPhi a ys ep')))) := by
  intro pins s σ H o i v ov iv u Q I ro ri rv h
  rcases h with h | ⟨F, a, b, xs, ep, kvs, is, d, rfl, rfl, sF, ha, p, hk, hd, hl, q⟩
  · exact set_both hu pins s σ H o i v ov iv u Q I ro ri rv h
  · obtain rfl : ov = Value.ref a := ro
    obtain rfl : iv = Value.ref b := ri
    exact dT_set hu I sF ha p hk hd rv hl fun s4 ys ep' I4 p4 => ⟨_, I4, q ys ep' p4⟩
theorem put_any {K : W.Frag} {F : Hp} {k : Int} : ∀ {ks : List (Key × V)} {kvs : List (Int × D)}, Paired (fun (p : Key × V) (q : Int × D) => p.1 = Sum.inl q.1 ∧ Dq K F p.2 q.2) ks kvs →
    (ks.any fun kv => decide (kv.1 = Sum.inl k)) = (kvs.any fun p => decide (p.1 = k))
  | _, _, .nil => rfl
  | _, _, .cons (a := a) (b := b) r t => by
    rw [List.any_cons, List.any_cons, put_any t, r.1]
    congr 1
    simp
theorem put_map {K : W.Frag} {F : Hp} {k : Int} {v : V} {d : D} (hv : Dq K F v d) : ∀ {ks : List (Key × V)} {kvs : List (Int × D)}, Paired (fun (p : Key × V) (q : Int × D) => p.1 = Sum.inl q.1 ∧ Dq K F p.2 q.2) ks kvs →
    Paired (fun (p : Key × V) (q : Int × D) => p.1 = Sum.inl q.1 ∧ Dq K F p.2 q.2) (ks.map fun kv => if kv.1 = Sum.inl k then (kv.1, v) else kv) (kvs.map fun p => if p.1 = k then (p.1, d) else p)
  | _, _, .nil => .nil
  | _, _, .cons (a := a) (b := b) r t => by
    rw [List.map_cons, List.map_cons]
    refine .cons ?_ (put_map hv t)
    obtain ⟨r1, r2⟩ := r
    by_cases e : b.1 = k
    · have e' : a.1 = Sum.inl k := by rw [r1, e]
      rw [if_pos e, if_pos e']; exact ⟨r1, hv⟩
    · have e' : ¬ a.1 = Sum.inl k := by rw [r1]; intro z; exact e (Sum.inl.inj z)
      rw [if_neg e, if_neg e']; exact ⟨r1, r2⟩
theorem paired_snoc {α β : Type} {P : α → β → Prop} {a : α} {b : β} (h : P a b) : ∀ {l : List α} {m : List β}, Paired P l m → Paired P (l ++ [a]) (m ++ [b])
  | _, _, .nil => .cons h .nil
  | _, _, .cons r t => .cons r (paired_snoc h t)
theorem put_ok {K : W.Frag} {F : Hp} {k : Int} {v : V} {d : D} {ks : List (Key × V)} {kvs : List (Int × D)} (hv : Dq K F v d) (h : Paired (fun (p : Key × V) (q : Int × D) => p.1 = Sum.inl q.1 ∧ Dq K F p.2 q.2) ks kvs) :
    Paired (fun (p : Key × V) (q : Int × D) => p.1 = Sum.inl q.1 ∧ Dq K F p.2 q.2) (putK ks (Sum.inl k) v) (putI k d kvs) := by
  unfold putK putI
  rw [put_any h]
  split
  · exact put_map hv h
  · exact paired_snoc ⟨rfl, hv⟩ h
theorem paired_len {α β : Type} {P : α → β → Prop} : ∀ {l : List α} {m : List β}, Paired P l m → l.length = m.length
  | _, _, .nil => rfl
  | _, _, .cons _ t => by simp [paired_len t]
theorem inv_set {i : Nat} {kx e : Ex} {sc : Scope} {st : Stmt} (h : chkS T N (.set i kx e) sc st = true) : ∃ x p y p2 v pos, st = .Assign [.Subscript (.Name x p) y p2] v pos ∧ (decide (N[i]? = some x) && visB sc x && nmB x && !isSlice y && !isComp v && chkE T N kx sc y && chkE T N e sc v) = true := by
  unfold chkS at h
  split at h <;> first | exact no h | skip
  all_goals first | contradiction | (injections; subst_vars; exact ⟨_, _, _, _, _, _, rfl, h⟩)
theorem ss_set {i : Nat} {kx e : Ex} : SS T N k C (.set i kx e) := by
  intro sc X W st ok h F0 H0
  obtain ⟨x, p, y, p2, v, pos, he, h'⟩ := inv_set h
  subst he
  simp only [Bool.and_eq_true, decide_eq_true_eq, Bool.not_eq_true'] at h'
  obtain ⟨⟨⟨⟨⟨⟨h1, h2⟩, h3⟩, h4⟩, h5⟩, h6⟩, h7⟩ := h'
  have G := pg_sub (pos := p2) (pe_slot (p := p) ok.toOk h1 h2 h3) ((sound kx).1 sc X W y ok.toOk h6) (set_three (by have := ok.toOk.hu; omega)) (by intro u; cases y <;> first | rfl | cases h4)
  refine PS.imp (ps_asg ((sound e).1 sc X W v ok.toOk h7) G (by unfold swapsWithSole; exact sw_sub (by intro _ _ z; cases z)) (by cases v <;> rfl) rfl) fun D σ H ⟨F, ρ, rl, hp⟩ => ?_
  obtain ⟨w, hw, hp⟩ := sopt hp
  have hw' : ρ[i]? = some (some (.own w)) := by
    unfold ownAt at hw
    split at hw
    · rename_i z e; cases hw; exact e
    · cases hw
  obtain ⟨a, o, e2, e3, e4, e5⟩ := rl.rel.own i w hw'
  refine D_bind rl hp fun d u F1 H1 ex rl1 hd hq => ?_
  refine ⟨.ref a, e2, ?_⟩
  refine R_bind rl1 hq fun dk z F2 H2 ex2 rl2 hk hq => ?_
  obtain ⟨w2, g, hq⟩ := sopt hq
  have exx := ex.trans ex2
  have n2 := exx.not e3 e4
  have hd2 := Dq.mono ex2.ff _ _ hd
  have fin : ∀ o2, Cnt X.K F2 a o2 w2 → D.nx σ (upd H2 a o2) := fun o2 c => hq σ F2 _ (Same.refl _) (rl2.putOwn hw' e2 n2 c)
  have e5' := e5.mono exx.ff
  have e4' := exx.hh _ _ e4
  cases w with
  | dat dd =>
    cases o with
    | lst vs =>
      cases dd with
      | list xs =>
        cases dk with
        | int kk =>
          obtain ⟨j, g1, g2⟩ := bind_ok g
          cases ok_inj g2
          have := hk.int
          subst this
          refine .inl (.inl ⟨a, vs, kk, j, rfl, rfl, e4', ?_, fin _ (DqAll.set j e5' hd2)⟩)
          rw [show vs.length = xs.length from DqAll.length e5']; exact g1
        | _ => cases g
      | _ => exact e5.elim
    | _ => exact e5.elim
  | dI kvs =>
    cases o with
    | dK ks =>
      cases dk with
      | int kk =>
        obtain ⟨g1, g2⟩ := grd_ok g
        cases ok_inj g2
        have := hk.int
        subst this
        have l1 := paired_len e5'
        have l2 := szOk_le g1
        exact .inl (.inr ⟨a, _, rfl, DPut.k (k := Sum.inl kk) e4' (by omega), fin _ (put_ok hd2 e5')⟩)
      | _ => cases g
    | _ => exact e5.elim
  | dT kvs =>
    cases o with
    | ext φ =>
      obtain ⟨xs, ep, rfl, pr⟩ := e5'
      cases ek : keyT dk with
      | none =>
        have g : (match keyT dk with | some is => grdO (szOk (kvs.length + 1)) (some (Vl.dT (putT is d kvs))) | none => none) = some w2 := g
        rw [ek] at g; cases g
      | some is =>
        have g : (match keyT dk with | some is => grdO (szOk (kvs.length + 1)) (some (Vl.dT (putT is d kvs))) | none => none) = some w2 := g
        rw [ek] at g
        obtain ⟨g1, g2⟩ := grd_ok g
        cases ok_inj g2
        obtain ⟨p, rfl, hkk⟩ := hk.key ek
        exact .inr ⟨F2, a, p, xs, ep, kvs, is, d, rfl, rfl, rl2.rel.sub, e4', pr, hkk, hd2, szOk_le g1, fun ys ep' py => fin _ ⟨ys, ep', rfl, py⟩⟩
    | _ => exact e5.elim
  | exn _ _ => cases o <;> exact e5.elim
end
end RL
/-! RLStm5: unpacking, loops, lists of statements. -/
namespace RL
open PySem PySem.Spec PyProof.Rows L2
section
variable {T : Tab} {N : List Str} {k : Nat} {C : Cfg}

theorem inv_unp {l : List Tg} {e : Ex} {sc : Scope} {st : Stmt} (h : chkS T N (.unp l e) sc st = true) : ∃ ts kt pt v pos, st = .Assign [.Tuple ts kt pt] v pos ∧ (unpC v && chkTgs N sc false l ts && chkE T N e sc v) = true := by
  unfold chkS at h
  split at h <;> first | exact no h | skip
  all_goals first | contradiction | (injections; subst_vars; exact ⟨_, _, _, _, _, rfl, h⟩)
theorem inv_par {l : List Nat} {es : List Ex} {sc : Scope} {st : Stmt} (h : chkS T N (.par l es) sc st = true) : (∃ i j x px y py kt pt a b k2 pt2 pos, st = .Assign [.Tuple [.Name x px, .Name y py] kt pt] (.Tuple [a, b] k2 pt2) pos ∧ l = [i, j] ∧
    (decide (N[i]? = some x) && decide (N[j]? = some y) && decide (i ≠ j) && decide (x ≠ y) && parC sc [(x, px), (y, py)] [a, b] && chkEs T N es sc [a, b]) = true) ∨
    (∃ i j m x px y py z pz kt pt a b c k2 pt2 pos, st = .Assign [.Tuple [.Name x px, .Name y py, .Name z pz] kt pt] (.Tuple [a, b, c] k2 pt2) pos ∧ l = [i, j, m] ∧
    (decide (N[i]? = some x) && decide (N[j]? = some y) && decide (N[m]? = some z) && (decide (i ≠ j) && decide (i ≠ m) && decide (j ≠ m)) && (decide (x ≠ y) && decide (x ≠ z) && decide (y ≠ z)) && parC sc [(x, px), (y, py), (z, pz)] [a, b, c] && chkEs T N es sc [a, b, c]) = true) := by
  unfold chkS at h
  split at h <;> first | exact no h | skip
  all_goals first | contradiction | (injections; subst_vars; first | exact .inl ⟨_, _, _, _, _, _, _, _, _, _, _, _, _, rfl, rfl, h⟩ | exact .inr ⟨_, _, _, _, _, _, _, _, _, _, _, _, _, _, _, _, _, rfl, rfl, h⟩)
theorem locB_eq {env : PySem.Env} {x : Str} (h : locB env.scope x = true) : env.kindOf x = some .local := locB_ok h
theorem par_sw {X : Cx} {x y : Str} {px py : Pos} {a b : Expr} {kt k2} {pt pt2 : Pos} (hk : X.env.scope.kind = .function) (hxy : x ≠ y) (h : parC X.env.scope [(x, px), (y, py)] [a, b] = true) :
    swappedStores [.Tuple [.Name x px, .Name y py] kt pt] (.Tuple [a, b] k2 pt2) X.env = pure (some [x, y]) := by
  unfold parC at h
  simp only [Bool.and_eq_true, List.all_cons, List.all_nil, Bool.and_true, Bool.not_eq_true', beq_iff_eq] at h
  obtain ⟨⟨⟨⟨⟨h1, h1'⟩, h2, h3⟩, h4⟩, h5⟩, h6⟩ := h
  have l1 := locB_eq h2
  have l2 := locB_eq h3
  have s1 : ([a, b].any fun | .Starred .. => true | _ => false) = false := by
    have : ([a, b].any isStar) = false := h4
    simp only [List.any_cons, List.any_nil, Bool.or_false, Bool.or_eq_false_iff] at this ⊢
    constructor
    · cases a <;> first | rfl | exact this.1
    · cases b <;> first | rfl | exact this.2
  have n1 : ((x == y) = false) := by simpa using hxy
  have n2 : ((y == x) = false) := by simpa using fun z => hxy z.symm
  have b1 := bk_fn hk
  unfold swappedStores
  dsimp only
  rw [b1]
  rw [if_neg (by simp)]
  rw [if_neg (by intro z; exact Bool.false_ne_true (s1.symm.trans z))]
  have f1 : ([Expr.Name x px, Expr.Name y py].filterMap fun
    | .Name id pos => if (X.env.kindOf id == some .local && pos.line == (([Expr.Name x px, Expr.Name y py].head?.map (·.pos.line)).getD 0)) = true then some id else none
    | _ => none) = [x, y] := by
    have e1 : ([Expr.Name x px, Expr.Name y py].head?.map (·.pos.line)).getD 0 = px.line := rfl
    rw [e1]
    simp only [List.filterMap_cons, l1, l2, List.filterMap_nil]
    simp [h1']
  have key : ∀ nm : List Str, nm = [x, y] → (if (nm.length != [Expr.Name x px, Expr.Name y py].length || nm.eraseDups.length != nm.length) = true then (pure none : Sem (Option (List Str))) else
      if [a, b].all (foldedForSure 8) = true then pure none else
        if [a, b].all (constantsAlone 8) = true then do
          let _ ← (unsupported "assign.tuple-of-constant-expressions:order-of-the-stores" : Sem PUnit)
          pure (some nm)
        else pure (some nm)) = pure (some [x, y]) := by
    rintro nm rfl
    have d1 : [x, y].eraseDups = [x, y] := by
      simp [List.eraseDups_cons, n2]
    rw [if_neg (by rw [d1]; simp), if_neg (by simpa using h5), if_neg (by simpa using h6)]
  exact key _ f1
theorem par_sw3 {X : Cx} {x y z : Str} {px py pz : Pos} {a b c : Expr} {kt k2} {pt pt2 : Pos} (hk : X.env.scope.kind = .function) (hxy : x ≠ y) (hxz : x ≠ z) (hyz : y ≠ z) (h : parC X.env.scope [(x, px), (y, py), (z, pz)] [a, b, c] = true) :
    swappedStores [.Tuple [.Name x px, .Name y py, .Name z pz] kt pt] (.Tuple [a, b, c] k2 pt2) X.env = pure (some [x, y, z]) := by
  unfold parC at h
  simp only [Bool.and_eq_true, List.all_cons, List.all_nil, Bool.and_true, Bool.not_eq_true', beq_iff_eq] at h
  obtain ⟨⟨⟨⟨⟨h1, h1', h1''⟩, h2, h3, h3'⟩, h4⟩, h5⟩, h6⟩ := h
  have l1 := locB_eq h2
  have l2 := locB_eq h3
  have l3 := locB_eq h3'
  have s1 : ([a, b, c].any fun | .Starred .. => true | _ => false) = false := by
    have : ([a, b, c].any isStar) = false := h4
    simp only [List.any_cons, List.any_nil, Bool.or_false, Bool.or_eq_false_iff] at this ⊢
    refine ⟨?_, ?_, ?_⟩
    · cases a <;> first | rfl | exact this.1
    · cases b <;> first | rfl | exact this.2.1
    · cases c <;> first | rfl | exact this.2.2
  have n2 : ((y == x) = false) := by simpa using fun q => hxy q.symm
  have n3 : ((z == x) = false) := by simpa using fun q => hxz q.symm
  have n4 : ((z == y) = false) := by simpa using fun q => hyz q.symm
  have b1 := bk_fn hk
  unfold swappedStores
  dsimp only
  rw [b1]
  rw [if_neg (by simp)]
  rw [if_neg (by intro q; exact Bool.false_ne_true (s1.symm.trans q))]
  have f1 : ([Expr.Name x px, Expr.Name y py, Expr.Name z pz].filterMap fun
    | .Name id pos => if (X.env.kindOf id == some .local && pos.line == (([Expr.Name x px, Expr.Name y py, Expr.Name z pz].head?.map (·.pos.line)).getD 0)) = true then some id else none
    | _ => none) = [x, y, z] := by
    have e1 : ([Expr.Name x px, Expr.Name y py, Expr.Name z pz].head?.map (·.pos.line)).getD 0 = px.line := rfl
    rw [e1]
    simp only [List.filterMap_cons, l1, l2, l3, List.filterMap_nil]
    simp [h1', h1'']
  have key : ∀ nm : List Str, nm = [x, y, z] → (if (nm.length != [Expr.Name x px, Expr.Name y py, Expr.Name z pz].length || nm.eraseDups.length != nm.length) = true then (pure none : Sem (Option (List Str))) else
      if [a, b, c].all (foldedForSure 8) = true then pure none else
        if [a, b, c].all (constantsAlone 8) = true then do
          let _ ← (unsupported "assign.tuple-of-constant-expressions:order-of-the-stores" : Sem PUnit)
          pure (some nm)
        else pure (some nm)) = pure (some [x, y, z]) := by
    rintro nm rfl
    have d1 : [x, y, z].eraseDups = [x, y, z] := by
      simp [List.eraseDups_cons, n2, n3, n4]
    rw [if_neg (by rw [d1]; simp), if_neg (by simpa using h5), if_neg (by simpa using h6)]
  exact key _ f1
theorem ss_par {l : List Nat} {es : List Ex} : SS T N k C (.par l es) := by
  intro sc X W st ok h F0 H0
  rcases inv_par h with ⟨i, j, x, px, y, py, kt, pt, a, b, k2, pt2, pos, he, hl, h'⟩ | ⟨i, j, m, x, px, y, py, z, pz, kt, pt, a, b, c, k2, pt2, pos, he, hl, h'⟩
  · subst he hl
    simp only [Bool.and_eq_true, decide_eq_true_eq] at h'
    obtain ⟨⟨⟨⟨⟨h1, h2⟩, h3⟩, hxy⟩, h4⟩, h5⟩ := h'
    have hp := h4
    unfold parC at hp
    simp only [Bool.and_eq_true, List.all_cons, List.all_nil, Bool.and_true] at hp
    refine PS.imp (ps_par (kt := kt) (pt := pt) (k2 := k2) (pt2 := pt2) (pos := pos) ok.calm (by rw [ok.n]; exact ok.nd) (by rw [ok.n]; exact h1) (by rw [ok.n]; exact h2) h3 (by rw [ok.toOk.sc]; exact locB_ok hp.1.1.1.2.1) (by rw [ok.toOk.sc]; exact locB_ok hp.1.1.1.2.2)
      (soundL es sc X W [a, b] ok.toOk h5) (par_sw ok.kd hxy (by rw [ok.toOk.sc]; exact h4)) rfl) fun D σ H ⟨F, ρ, rl, hq⟩ => ?_
    refine As_bind rl hq fun ds vs F1 H1 ex rl1 hd hq => ?_
    obtain ⟨ρ', g, hq⟩ := sopt hq
    match ds, hd, g with
    | [d1, d2], .cons q1 (.cons q2 .nil), g =>
      cases ok_inj (show some ((ρ.set i (some (.val (.dat d1)))).set j (some (.val (.dat d2)))) = some ρ' from g)
      exact ⟨_, _, rfl, hq _ F1 H1 (Same.refl _) ((rl1.setVal (v := .dat d1) q1 i).setVal (v := .dat d2) q2 j)⟩
    | [], .nil, g => cases g
    | [_], .cons _ .nil, g => cases g
    | _ :: _ :: _ :: _, .cons _ (.cons _ (.cons _ _)), g => cases g
  · subst he hl
    simp only [Bool.and_eq_true, decide_eq_true_eq] at h'
    obtain ⟨⟨⟨⟨⟨⟨h1, h2⟩, h2'⟩, ⟨h3, h3'⟩, h3''⟩, ⟨hxy, hxz⟩, hyz⟩, h4⟩, h5⟩ := h'
    have hp := h4
    unfold parC at hp
    simp only [Bool.and_eq_true, List.all_cons, List.all_nil, Bool.and_true] at hp
    refine PS.imp (ps_par3 (kt := kt) (pt := pt) (k2 := k2) (pt2 := pt2) (pos := pos) ok.calm (by rw [ok.n]; exact ok.nd) (by rw [ok.n]; exact h1) (by rw [ok.n]; exact h2) (by rw [ok.n]; exact h2') h3 h3' h3'' (by rw [ok.toOk.sc]; exact locB_ok hp.1.1.1.2.1) (by rw [ok.toOk.sc]; exact locB_ok hp.1.1.1.2.2.1) (by rw [ok.toOk.sc]; exact locB_ok hp.1.1.1.2.2.2)
      (soundL es sc X W [a, b, c] ok.toOk h5) (par_sw3 ok.kd hxy hxz hyz (by rw [ok.toOk.sc]; exact h4)) rfl) fun D σ H ⟨F, ρ, rl, hq⟩ => ?_
    refine As_bind rl hq fun ds vs F1 H1 ex rl1 hd hq => ?_
    obtain ⟨ρ', g, hq⟩ := sopt hq
    match ds, hd, g with
    | [d1, d2, d3], .cons q1 (.cons q2 (.cons q3 .nil)), g =>
      cases ok_inj (show some (((ρ.set i (some (.val (.dat d1)))).set j (some (.val (.dat d2)))).set m (some (.val (.dat d3)))) = some ρ' from g)
      exact ⟨_, _, _, rfl, hq _ F1 H1 (Same.refl _) (((rl1.setVal (v := .dat d1) q1 i).setVal (v := .dat d2) q2 j).setVal (v := .dat d3) q3 m)⟩
    | [], .nil, g => cases g
    | [_], .cons _ .nil, g => cases g
    | [_, _], .cons _ (.cons _ .nil), g => cases g
    | _ :: _ :: _ :: _ :: _, .cons _ (.cons _ (.cons _ (.cons _ _))), g => cases g
theorem PG.or {X : Cx} {e : Expr} {t u : TG} (h : PG X e t) (h2 : PG X e u) : PG X e (fun v σ H Q => t v σ H Q ∨ u v σ H Q) := ⟨fun pins s σ H v w Q I r hw => hw.elim (h.run pins s σ H v w Q I r) (h2.run pins s σ H v w Q I r)⟩
theorem unp_sw {ts vs : List Expr} {kt k2} {pt pt2 : Pos} {env : PySem.Env} (h : vs.all (foldedForSure 8) = true) : swappedStores [.Tuple ts kt pt] (.Tuple vs k2 pt2) env = pure none := by
  unfold swappedStores
  dsimp only
  rw [if_pos h]
  repeat' split
  all_goals rfl
theorem ss_unp {l : List Tg} {e : Ex} : SS T N k C (.unp l e) := by
  intro sc X W st ok h F0 H0
  obtain ⟨ts, kt, pt, v, pos, he, h'⟩ := inv_unp h
  subst he
  simp only [Bool.and_eq_true] at h'
  obtain ⟨⟨h1, h2⟩, h3⟩ := h'
  obtain ⟨g1, g2, g3⟩ := pgs_ok (X := X) ok.n ok.nd ok.toOk.sc ok.calm (fun _ => ok.fn) l ts h2
  have G := PG.or (pg_tup (pos := pt) ok.calm g1 g2 g3) (pg_unl (pos := pt) (k := kt) ok.calm g1 g2 g3)
  refine PS.imp (ps_asg ((sound e).1 sc X W v ok.toOk h3) G (by unfold swapsWithSole; exact sw_sub (by intro _ _ z; cases z)) (by cases v <;> first | rfl | exact unp_sw h1) rfl) fun D σ H ⟨F, ρ, rl, hp⟩ => ?_
  refine R_bind rl hp fun d x F1 H1 ex rl1 hd hq => ?_
  obtain ⟨ρ', g, hq2⟩ := sopt hq
  cases d with
  | list xs =>
    obtain ⟨p, vs, rfl, t1, r1⟩ := hd.list rl1.rel.sub
    have hl := bindTgs_len (show bindTgs ρ xs l = some ρ' from g)
    refine .inr ⟨p, vs, rfl, .inl t1, by rw [r1.length]; exact hl, F1, ρ, xs, ρ', rl1.rel, r1, g, fun σ' rel' tp => hq2 σ' F1 H1 (Same.refl _) (rl1.stored rel' tp)⟩
  | tuple xs =>
    obtain ⟨p, vs, rfl, t1, _, r1⟩ := hd.tup rl1.rel.sub
    have hl := bindTgs_len (show bindTgs ρ xs l = some ρ' from g)
    refine .inl ⟨p, vs, rfl, t1, by rw [r1.length]; exact hl, F1, ρ, xs, ρ', rl1.rel, r1, g, fun σ' rel' tp => hq2 σ' F1 H1 (Same.refl _) (rl1.stored rel' tp)⟩
  | _ => cases g
end
end RL
/-! RLStm6: loops, lists of statements. -/
namespace RL
open PySem PySem.Spec PyProof.Rows L2
section
variable {T : Tab} {N : List Str} {k : Nat} {C : Cfg}
theorem seq_post {X : Cx} {W : WX} {F0 H0 F : Hp} {r : SR} {f : Env → SR} {D D' : Ends} (hr : D'.rt = D.rt) (hn : ∀ ρ' σ' F' H', Same F F' → Rl X.K F0 H0 F' σ' H' ρ' → SPo T X W F0 H0 D F' (f ρ') → D'.nx σ' H') (h : SPo T X W F0 H0 D F (r.seq f)) :
    SPo T X W F0 H0 D' F r := by
  cases r with
  | nx ρ' => exact fun σ' F' H' s rl => hn ρ' σ' F' H' s rl (SPo.mono s h)
  | rt v => intro x F' H' s e fr; rw [hr]; exact h x F' H' s e fr
  | ex c p ρ' => exact h
  | bad => exact h
theorem inv_for {tg : Tg} {kk : Sk} {a b : Ex} {body : List Stm} {sc : Scope} {st : Stmt} (h : chkS T N (.for_ tg kk a b body) sc st = true) : ∃ t iter bd pos, st = .For t iter bd [] pos ∧
    (chkTg N sc false tg t && !isSet iter && srcC sc (chkE T N a sc) (chkE T N b sc) (bNone b) (isMany tg) kk iter && chkSs T N body sc bd) = true := by
  unfold chkS at h
  split at h <;> first | exact no h | skip
  all_goals first | contradiction | (injections; subst_vars; exact ⟨_, _, _, _, rfl, h⟩)
theorem inv_whl {c : Ex} {body : List Stm} {sc : Scope} {st : Stmt} (h : chkS T N (.whl c body) sc st = true) : ∃ t bd pos, st = .While t bd [] pos ∧ (chkE T N c sc t && chkSs T N body sc bd) = true := by
  unfold chkS at h
  split at h <;> first | exact no h | skip
  all_goals first | contradiction | (injections; subst_vars; exact ⟨_, _, _, rfl, h⟩)
theorem ss_for {tg : Tg} {kk : Sk} {a b : Ex} {body : List Stm} (hb : SSs T N k C body) : SS T N k C (.for_ tg kk a b body) := by
  intro sc X W st ok h F0 H0
  obtain ⟨t, iter, bd, pos, he, h'⟩ := inv_for h
  subst he
  simp only [Bool.and_eq_true, Bool.not_eq_true'] at h'
  obtain ⟨⟨⟨h1, h2⟩, h3⟩, h4⟩ := h'
  obtain ⟨pi, hz⟩ := src_ok (tg := t) ok.toOk (sound a).1 (sound b).1 h3 (tg_many h1)
  refine PS.imp (ps_for ok.po ok.calm pi (pg_ok (X := X) ok.n ok.nd ok.toOk.sc ok.calm (fun _ => ok.fn) tg t h1) (hb sc X W bd ok h4 F0 H0) (fold_ix h2)) fun D σ H ⟨F, ρ, rl, hp⟩ => ?_
  refine ⟨F, ρ, rl.rel, ?_⟩
  have hp : SPo T X W F0 H0 D F (SR.of ρ (ev C ρ a) fun x => SR.of ρ (ev C ρ b) fun y => SR.opt (grdO (!x.1 && !y.1) (itemsOf kk x.2 y.2)) fun its => forL (fun r d => SR.opt (bindTg r d tg) fun r => execs C r body) its ρ) := hp
  generalize hst : (fun (r : Env) (d : RL.D) => SR.opt (bindTg r d tg) fun r => execs C r body) = step at hp
  cases ea : ev C ρ a with
  | bad => rw [ea] at hp; exact hp.elim
  | exc c p => rw [ea] at hp; exact fun F' H' cls d ex xr => hp σ F' H' cls d ex.ff (rl.mono ex) xr
  | ok x =>
    rw [ea] at hp
    simp only [SR.of] at hp
    simp only [Res.bind]
    cases eb : ev C ρ b with
    | bad => rw [eb] at hp; exact hp.elim
    | exc c p => rw [eb] at hp; exact fun F' H' cls d ex xr => hp σ F' H' cls d ex.ff (rl.mono ex) xr
    | ok y =>
      rw [eb] at hp
      simp only at hp ⊢
      obtain ⟨its, g, hp⟩ := sopt hp
      obtain ⟨g1, g2⟩ := grd_ok g
      rw [g2]
      simp only [Bool.and_eq_true, Bool.not_eq_true'] at g1
      simp only [opt]
      intro F1 H1 ex J jok
      have jok : JOk X.K (isZip kk) J F1 F1 its := by
        have : (if (x.1 || y.1) = true then H1 else F1) = F1 := by rw [g1.1, g1.2]; rfl
        rw [this] at jok; exact jok
      refine ⟨fun i m σ' H' => m = its.length - i ∧ i ≤ its.length ∧ ∃ Fi ρi, Same F1 Fi ∧ Rl X.K F0 H0 Fi σ' H' ρi ∧ SPo T X W F0 H0 D Fi (forL step (its.drop i) ρi), ⟨its.length, by simp, Nat.zero_le _, F1, ρ, Same.refl _, rl.mono ex, SPo.mono ex.ff hp⟩, ?_⟩
      rintro i m σi Hi ⟨rfl, hi, Fi, ρi, si, rli, hpi⟩
      have sB : Same F1 Hi := si.trans rli.rel.sub
      by_cases hlt : i < its.length
      · refine .inr ⟨jok.go i Hi sB hlt, fun σ' H' => i + 1 ≤ its.length ∧ ∃ Fi ρi, Same F1 Fi ∧ Rl X.K F0 H0 Fi σ' H' ρi ∧ SPo T X W F0 H0 D Fi (forL step (its.drop (i + 1)) ρi), fun σ' H' p' => ⟨its.length - (i + 1), by omega, rfl, p'⟩, fun v Hy yy => ?_⟩
        obtain ⟨d, ed, sy, iw⟩ := jok.yld i Hi v Hy sB hlt yy
        have rly := rli.mono (Ext.grow rli.rel.sub sy)
        have hdrop : its.drop i = d :: its.drop (i + 1) := by
          obtain ⟨hl, hd⟩ := List.getElem?_eq_some_iff.mp ed
          rw [List.drop_eq_getElem_cons hl, hd]
        rw [hdrop] at hpi
        have hpi : SPo T X W F0 H0 D Fi ((step ρi d).seq fun r => forL step (its.drop (i + 1)) r) := hpi
        rw [← hst] at hpi
        cases bd : bindTg ρi d tg with
        | none => simp only [SR.opt, bd, SR.seq] at hpi; exact hpi.elim
        | some ρ' =>
          simp only [SR.opt, bd] at hpi
          refine ⟨Fi, ρi, d, ρ', rly.rel, Ifor.item si iw hz, bd, fun σ2 rel2 tp => ⟨Fi, ρ', rly.stored rel2 tp, ?_⟩⟩
          refine seq_post (D := D) rfl (fun ρ3 σ3 F3 H3 s3 rl3 h3 => ⟨hlt, F3, ρ3, si.trans s3, rl3, ?_⟩) hpi
          rw [← hst]; exact h3
      · have hie : i = its.length := by omega
        refine .inl ⟨jok.stop i Hi sB (by omega), ?_⟩
        subst hie
        rw [List.drop_length] at hpi
        exact hpi σi Fi Hi (Same.refl _) rli
theorem ss_whl {c : Ex} {body : List Stm} (hb : SSs T N k C body) : SS T N k C (.whl c body) := by
  intro sc X W st ok h F0 H0
  obtain ⟨t, bd, pos, he, h'⟩ := inv_whl h
  subst he
  simp only [Bool.and_eq_true] at h'
  refine PS.imp (ps_while ok.po ((sound c).2 sc X W t ok.toOk h'.1) (hb sc X W bd ok h'.2 F0 H0)) fun D σ H ⟨F, ρ, rl, hp⟩ => ?_
  refine ⟨fun m σ H => ∃ F ρ, Rl X.K F0 H0 F σ H ρ ∧ SPo T X W F0 H0 D F (whlL (fun r => evT C r c) (fun r => execs C r body) m ρ), ⟨iterMax, F, ρ, rl, hp⟩, ?_⟩
  rintro m σ H ⟨F, ρ, rl, hp⟩
  cases m with
  | zero => exact hp.elim
  | succ m =>
    refine T_bind rl hp fun z F1 H1 ex rl1 hq => ?_
    cases z with
    | false => exact iteF (hq σ F1 H1 (Same.refl _) rl1)
    | true =>
      refine iteT ⟨fun σ H => ∃ F ρ, Rl X.K F0 H0 F σ H ρ ∧ SPo T X W F0 H0 D F (whlL (fun r => evT C r c) (fun r => execs C r body) m ρ), fun σ' H' q => ⟨m, Nat.lt_succ_self m, q⟩, F1, ρ, rl1, ?_⟩
      exact seq_post (D := D) rfl (fun ρ3 σ3 F3 H3 s3 rl3 h3 => ⟨F3, ρ3, rl3, h3⟩) hq
theorem sss_nil : SSs T N k C [] := by
  intro sc X W as ok h F0 H0
  cases as with
  | nil => exact PSs.imp pss_nil fun D σ H ⟨F, ρ, rl, hp⟩ => hp σ F H (Same.refl _) rl
  | cons _ _ => exact no h
def isFrz : Stm → Bool
  | .frz _ => true
  | _ => false
theorem chkSs_cons {s : Stm} {ss : List Stm} {sc : Scope} {l : List Stmt} (hf : isFrz s = false) (h : chkSs T N (s :: ss) sc l = true) : ∃ a as, l = a :: as ∧ chkS T N s sc a = true ∧ chkSs T N ss sc as = true := by
  cases l with
  | nil => cases s <;> first | exact no h | exact no hf.symm
  | cons a as =>
    refine ⟨a, as, rfl, ?_⟩
    have : (chkS T N s sc a && chkSs T N ss sc as) = true := by cases s <;> first | exact h | exact no hf.symm
    rw [Bool.and_eq_true] at this
    exact this
theorem sss_frz {l : List Nat} {ss : List Stm} (hs : SSs T N k C ss) : SSs T N k C (.frz l :: ss) := by
  intro sc X W as ok h F0 H0
  refine PSs.imp (hs sc X W as ok h F0 H0) fun D σ H ⟨F, ρ, rl, hp⟩ => ?_
  obtain ⟨F', s', rl'⟩ := rl.frzAll (l := l)
  exact ⟨F', _, rl', SPo.mono s' (show SPo T X W F0 H0 D F (execs C (frzAll ρ l) ss) from hp)⟩
theorem sss_cons {s : Stm} {ss : List Stm} (hf : isFrz s = false) (h1 : SS T N k C s) (hs : SSs T N k C ss) : SSs T N k C (s :: ss) := by
  intro sc X W as ok h F0 H0
  obtain ⟨a, as', e, q1, q2⟩ := chkSs_cons hf h
  subst e
  refine PSs.imp (pss_cons (h1 sc X W a ok q1 F0 H0) (hs sc X W as' ok q2 F0 H0)) fun D σ H ⟨F, ρ, rl, hp⟩ => ?_
  exact ⟨F, ρ, rl, seq_post (D := D) rfl (fun ρ3 σ3 F3 H3 s3 rl3 h3 => ⟨F3, ρ3, rl3, h3⟩) (show SPo T X W F0 H0 D F ((exec C ρ s).seq fun r => execs C r ss) from hp)⟩
end
end RL
/-! RLStm7: extend, pop, op=. -/
namespace RL
open PySem PySem.Spec PyProof.Rows L2
section
variable {T : Tab} {N : List Str} {k : Nat} {C : Cfg}
theorem inv_ext {i : Nat} {e : Ex} {sc : Scope} {st : Stmt} (h : chkS T N (.ext i e) sc st = true) : ∃ x p m apos v pos q, st = .Expr (.Call (.Attribute (.Name x p) m apos) [v] [] pos) q ∧ (fresh e && decide (m = ("extend" : Str)) && rcvB N i sc x apos pos && !isStar v && chkE T N e sc v) = true := by
  unfold chkS at h
  split at h <;> first | exact no h | skip
  all_goals first | contradiction | (injections; subst_vars; exact ⟨_, _, _, _, _, _, _, rfl, h⟩)
theorem inv_pop {t : Tg} {i : Nat} {kk : Option Int} {sc : Scope} {st : Stmt} (h : chkS T N (.pop t i kk) sc st = true) : ∃ tg x p m apos args pos q, st = .Assign [tg] (.Call (.Attribute (.Name x p) m apos) args [] pos) q ∧ (decide (m = ("pop" : Str)) && rcvB N i sc x apos pos && popA kk args && chkTg N sc false t tg) = true := by
  unfold chkS at h
  split at h <;> first | exact no h | skip
  all_goals first | contradiction | (injections; subst_vars; exact ⟨_, _, _, _, _, _, _, _, rfl, h⟩)
theorem inv_aug {i : Nat} {o : BOp} {e : Ex} {sc : Scope} {st : Stmt} (h : chkS T N (.aug i o e) sc st = true) : ∃ x p op v pos, st = .AugAssign (.Name x p) op v pos ∧ (decide (N[i]? = some x) && stoB sc x && decide (op = opOf o) && augOk o && chkE T N e sc v) = true := by
  unfold chkS at h
  split at h <;> first | exact no h | skip
  all_goals first | contradiction | (injections; subst_vars; exact ⟨_, _, _, _, _, rfl, h⟩)
theorem inv_popA {j : Int} {args : List Expr} (h : popA (some j) args = true) : ∃ c1 c2, args = [.Constant (.int j) c1 c2] ∧ -(2 ^ 63) ≤ j ∧ j < 2 ^ 63 := by
  unfold popA at h
  split at h <;> first | exact no h | contradiction | skip
  all_goals (injections; subst_vars; simp only [Bool.and_eq_true, decide_eq_true_eq] at h; obtain ⟨⟨h1, h2⟩, h3⟩ := h; subst h1; exact ⟨_, _, rfl, h2, h3⟩)
theorem ss_ext {i : Nat} {e : Ex} : SS T N k C (.ext i e) := by
  intro sc X W st ok h F0 H0
  obtain ⟨x, p, m, apos, v, pos, q, he, h'⟩ := inv_ext h
  subst he
  unfold rcvB at h'
  simp only [Bool.and_eq_true, decide_eq_true_eq, Bool.not_eq_true'] at h'
  obtain ⟨⟨⟨⟨hf, rfl⟩, ⟨⟨h1, h2⟩, h3⟩, h4⟩, h5⟩, h6⟩ := h'
  have P := pe_bm (cpos := pos) (apos := apos) PySem.F.plainAttrs_list PySem.F.slot_list_extend PySem.F.type_list_extend mt_extend (pe_slot (p := p) ok.toOk h1 h2 h3) (pa_cons (soundN e hf sc X W v ok.toOk h6) pa_nil (star_cons h5)) rfl (by rw [star_cons h5]; rfl) h4 (star_cons h5)
  refine PS.imp (ps_expr P rfl) fun D σ H ⟨F, ρ, rl, hp⟩ => ?_
  obtain ⟨xs, hx, hp⟩ := sopt hp
  obtain ⟨a, vs, e1, e2, e3, e4, e5⟩ := ownL_at rl hx
  refine ⟨.ref a, e2, .inl ⟨rfl, vs, .inl (Rd.of e4)⟩, ?_⟩
  -- the new list, then its items
  have hp2 : SPo T X W F0 H0 D F (SR.of ρ (evF C ρ e) fun u => SR.opt (match u with | .dat d => some d | _ => none) fun d => SR.opt (extV (.dat (.list xs)) d) fun v => .nx (ρ.set i (some (.own v)))) := by
    have e0 : ∀ r, ev C ρ e = .ok r → r.1 = false := fun r hr => fresh_ok hf ρ r hr
    have hp : SPo T X W F0 H0 D F (SR.of ρ (evD C ρ e) fun d => SR.opt (extV (.dat (.list xs)) d) fun v => .nx (ρ.set i (some (.own v)))) := hp
    unfold evD at hp
    unfold evF
    cases ee : ev C ρ e with
    | ok r =>
      obtain ⟨b, u⟩ := r
      have := e0 _ ee
      cases this
      rw [ee] at hp
      cases u with
      | dat d => exact hp
      | _ => exact hp.elim
    | exc c p => rw [ee] at hp; exact hp
    | bad => rw [ee] at hp; exact hp
  refine N_bind rl hp2 (fun r hr => fresh_ok hf ρ r hr) fun w b o F1 H1 ex n1 n2 h7 c hq => ?_
  obtain ⟨d0, g0, hq0⟩ := sopt hq
  cases w with
  | dat d' =>
    have e0 : d' = d0 := Option.some.inj g0
    subst e0
    obtain ⟨w2, g, hq1⟩ := sopt hq0
    cases o with
    | lst zs =>
      cases d' with
      | list ys =>
        obtain ⟨g1, g2⟩ := grd_ok g
        cases ok_inj g2
        have c : DqAll X.K F1 zs ys := c
        have e6 : vs.length = xs.length := e5.length
        have e7 : zs.length = ys.length := c.length
        have z := szOk_le g1
        refine ⟨a, b, vs, zs, rfl, rfl, ex.hh _ _ e4, h7, by omega, ?_⟩
        have rl1 := rl.mono ex
        exact hq1 σ F1 _ (Same.refl _) (rl1.putOwn e1 e2 (ex.not e3 e4) (show Cnt X.K F1 _ (.lst (vs ++ zs)) (.dat (.list (xs ++ ys))) from (DqAll.mono ex.ff _ _ e5).append c))
      | _ => exact c.elim
    | _ => exact c.elim
  | _ => cases g0
theorem ss_pop {t : Tg} {i : Nat} {kk : Option Int} : SS T N k C (.pop t i kk) := by
  intro sc X W st ok h F0 H0
  obtain ⟨tg, x, p, m, apos, args, pos, q, he, h'⟩ := inv_pop h
  subst he
  unfold rcvB at h'
  simp only [Bool.and_eq_true, decide_eq_true_eq, Bool.not_eq_true'] at h'
  obtain ⟨⟨⟨rfl, ⟨⟨h1, h2⟩, h3⟩, h4⟩, h5⟩, h6⟩ := h'
  have G := pg_ok (X := X) ok.n ok.nd ok.toOk.sc ok.calm (fun _ => ok.fn) t tg h6
  have hae : (assignEach [tg] X.env).map (·.2) = [assign tg X.env] := by
    cases tg <;> first | rfl | exact no (show false = true by cases t <;> exact h6)
  have hsw : ∀ v, isComp v = false → swapsWithSole [tg] v q.line X.env = pure false := fun v hv => by
    unfold swapsWithSole
    cases tg with
    | Name y py => exact sw_no hv
    | _ => exact sw_sub (by intro _ _ z; cases z)
  have fin : ∀ {D : Ends} {σ : L2.St} {H F : Hp} {ρ : Env} {xs : List RL.D} {a : Addr} {vs : List V} {y : V} {d : RL.D} {vs' : List V} {xs' : List RL.D}, Rl X.K F0 H0 F σ H ρ → ρ[i]? = some (some (.own (.dat (.list xs)))) → σ[i]? = some (some (.ref a)) → F a = none → H a = some (.lst vs) →
      Dq X.K F y d → DqAll X.K F vs' xs' → SPo T X W F0 H0 D F (SR.opt (bindTg (ρ.set i (some (.own (.dat (.list xs'))))) d t) fun r => .nx r) → tG X t y σ (upd H a (.lst vs')) D.nx := fun {D σ H F ρ xs a vs y d vs' xs'} rl e1 e2 e3 e4 hd hx hp => by
    obtain ⟨ρ', g, hp⟩ := sopt hp
    have rl2 := rl.putOwn e1 e2 e3 (show Cnt X.K F _ (.lst vs') (.dat (.list xs')) from hx)
    exact ⟨F, _, d, ρ', rl2.rel, Ifor.of t hd, g, fun σ' rel' tp => hp σ' F _ (Same.refl _) (rl2.stored rel' tp)⟩
  have own_list : ∀ {ρ : Env} {w : Vl} {pr : RL.D × Vl}, ownAt ρ i = some w → popV w kk = some pr → ∃ xs, ownL ρ i = some xs ∧ w = .dat (.list xs) := fun {ρ w pr} hw hpv => by
    unfold ownAt at hw
    unfold ownL
    split at hw
    · rename_i z ez
      cases hw
      cases w with
      | dat d =>
        cases d with
        | list xs => rw [ez]; exact ⟨xs, rfl, rfl⟩
        | _ => cases hpv
      | _ => cases hpv
    · cases hw
  cases kk with
  | none =>
    have ha : args = [] := by
      cases args with
      | nil => rfl
      | cons _ _ => exact no h5
    subst ha
    have P := pe_bm0 (cpos := pos) (apos := apos) PySem.F.plainAttrs_list PySem.F.slot_list_pop PySem.F.type_list_pop mt_pop (pe_slot (p := p) ok.toOk h1 h2 h3) rfl h4
    refine PS.imp (ps_asg P G (hsw _ rfl) (by cases tg <;> rfl) hae) fun D σ H ⟨F, ρ, rl, hp⟩ => ?_
    obtain ⟨w, hw, hp⟩ := sopt hp
    obtain ⟨pr, hpv, hp⟩ := sopt hp
    obtain ⟨xs, hx, rfl⟩ := own_list hw hpv
    obtain ⟨a, vs, e1, e2, e3, e4, e5⟩ := ownL_at rl hx
    have hpv : (match xs[xs.length - 1]? with
      | some y => some (y, Vl.dat (.list xs.dropLast))
      | none => none) = some pr := hpv
    cases ex : xs[xs.length - 1]? with
    | none => rw [ex] at hpv; cases hpv
    | some d =>
      rw [ex] at hpv
      cases hpv
      have hl : vs.length = xs.length := e5.length
      obtain ⟨y, f1, f2⟩ := e5.get ex
      exact ⟨.ref a, e2, .inl ⟨rfl, vs, .inl (Rd.of e4)⟩, a, vs, y, rfl, rfl, e4, by rw [hl]; exact f1, fin rl e1 e2 e3 e4 f2 e5.dropLast hp⟩
  | some j =>
      obtain ⟨c1, c2, rfl, b1, b2⟩ := inv_popA h5
      have P := pe_bm (cpos := pos) (apos := apos) PySem.F.plainAttrs_list PySem.F.slot_list_pop PySem.F.type_list_pop mt_popAt (pe_slot (p := p) ok.toOk h1 h2 h3) (pa_cons (pe_int (i := j) (j := c1) (pos := c2)) pa_nil rfl) rfl rfl h4 rfl
      refine PS.imp (ps_asg P G (hsw _ rfl) (by cases tg <;> rfl) hae) fun D σ H ⟨F, ρ, rl, hp⟩ => ?_
      obtain ⟨w, hw, hp⟩ := sopt hp
      obtain ⟨pr, hpv, hp⟩ := sopt hp
      obtain ⟨xs, hx, rfl⟩ := own_list hw hpv
      obtain ⟨a, vs, e1, e2, e3, e4, e5⟩ := ownL_at rl hx
      obtain ⟨n, g1, g2⟩ := bind_ok (show (L2.ixN xs.length j).bind (fun n => match xs[n]? with
        | some y => some (y, Vl.dat (.list (xs.eraseIdx n)))
        | none => none) = some pr from hpv)
      have hl : vs.length = xs.length := e5.length
      obtain ⟨s1, s2, s3, s4⟩ := ixN_seq g1
      cases ex : xs[n]? with
      | none => rw [ex] at g2; cases g2
      | some d =>
        rw [ex] at g2
        cases g2
        obtain ⟨y, f1, f2⟩ := e5.get ex
        exact ⟨.ref a, e2, .inl ⟨rfl, vs, .inl (Rd.of e4)⟩, a, vs, j, n, y, rfl, rfl, e4, b1, b2, by rw [hl]; exact s1, f1, fin rl e1 e2 e3 e4 f2 (e5.eraseIdx n) hp⟩
theorem ss_aug {i : Nat} {o : BOp} {e : Ex} : SS T N k C (.aug i o e) := by
  intro sc X W st ok h F0 H0
  obtain ⟨x, p, op, v, pos, he, h'⟩ := inv_aug h
  subst he
  simp only [Bool.and_eq_true, decide_eq_true_eq] at h'
  obtain ⟨⟨⟨⟨h1, h2⟩, rfl⟩, h4⟩, h5⟩ := h'
  have P := (sound e).1 sc X W v ok.toOk h5
  have go : ∀ {ti : TIp}, PIp X (opOf o) ti → (∀ (a b : Int) (z : D) (H : Hp) (Q : VK), augD o (.int a) (.int b) = some z → (∀ y, Dq X.K (fun _ => none) y z → Q y H) → ti (.int a) (.int b) H Q) → PS X (.AugAssign (.Name x p) (opOf o) v pos) (tSt T X C W F0 H0 (.aug i o e)) := fun {ti} hip hti => by
    refine PS.imp (ps_aug (by rw [ok.n]; exact ok.nd) (by rw [ok.n]; exact h1) (by rw [ok.toOk.sc]; exact stoB_ok h2) P hip (.inl (ok.fn x))) fun D σ H ⟨F, ρ, rl, hp⟩ => ?_
    obtain ⟨a, ha, hp1⟩ := sopt hp
    have ha : ρ[i]? = some (some (.val (.dat (.int a)))) := by
      unfold valI at ha
      split at ha
      · rename_i q; cases ha; exact q
      · cases ha
    obtain ⟨y, y1, y2⟩ := rl.rel.val i _ ha
    have y2 : Dq X.K F y (.int a) := y2
    cases y2
    refine ⟨.int a, y1, R_bind rl hp1 fun d u F1 H1 ex rl1 hd hq => ?_⟩
    obtain ⟨z, g, hq1⟩ := sopt hq
    cases d with
    | int b =>
      have := hd.int
      subst this
      exact hti a b z H1 _ g fun y hy => hq1 _ F1 H1 (Same.refl _) (rl1.setVal (v := .dat z) (Dq.mono (fun _ _ q => by cases q) _ _ hy) i)
    | _ => cases g
  cases o with
  | add => exact go ip_add fun a b z H Q g q => by cases ok_inj g; exact ⟨a, b, rfl, rfl, q _ (.int _)⟩
  | sub => exact go ip_sub fun a b z H Q g q => by cases ok_inj g; exact ⟨a, b, rfl, rfl, q _ (.int _)⟩
  | mul =>
    refine go (ti := fun x y H Q => ∃ i j, x = .int i ∧ y = .int j ∧ (smallI i || smallI j) = true ∧ Q (.int (i * j)) H) ?_ fun a b z H Q g q => by
      obtain ⟨g1, g2⟩ := grd_ok (show grdO (smallI a || smallI b) (rI (a * b)) = some z from g)
      cases ok_inj g2
      exact ⟨a, b, rfl, rfl, g1, q _ (.int _)⟩
    intro pins s σ H x y v u Q I r1 r2 h
    obtain ⟨i, j, e1, e2, g, q⟩ := h
    subst e1; subst e2
    obtain ⟨t, rfl⟩ := r1
    obtain ⟨t', rfl⟩ := r2
    have hm : CMul i j := by
      rw [Bool.or_eq_true] at g
      exact g.imp smallI_ok smallI_ok
    exact imul_int ⟨.int _, H, I.tok _, ⟨_, rfl⟩, q⟩ hm.ok
  | _ => exact no h4
end
end RL
/-! RLRz: raise of a class with its own __init__ and a field. -/
namespace RL
open PySem PySem.Spec PyProof.Rows L2
theorem flat_all {K : W.Frag} {F : Hp} {x : V} {d : D} (h : Dq K F x d) (f : flatD d = true) : ∀ F', Dq K F' x d := by
  intro F'
  cases h with
  | non => exact .non
  | int i => exact .int i
  | _ => exact no f
section
variable {T : Tab} {N : List Str} {k : Nat} {C : Cfg}
theorem inv_raise1 {c : Nat} {e : Ex} {sc : Scope} {st : Stmt} (h : chkS T N (.raise1 c e) sc st = true) : ∃ x p a p3 pos, st = .Raise (some (.Call (.Name x p) [a] [] p3)) none pos ∧ (decide (c = 1) && decide (T.cls[1]? = some (some x)) && glB sc x && nmB x && !isStar a && chkE T N e sc a) = true := by
  unfold chkS at h
  split at h <;> first | exact no h | skip
  all_goals first | contradiction | (injections; subst_vars; exact ⟨_, _, _, _, _, rfl, h⟩)
theorem ss_raise1 {c : Nat} {e : Ex} : SS T N k C (.raise1 c e) := by
  intro sc X W st ok h F0 H0
  obtain ⟨x, p, a, p3, pos, he, h'⟩ := inv_raise1 h
  subst he
  simp only [Bool.and_eq_true, decide_eq_true_eq, Bool.not_eq_true'] at h'
  obtain ⟨⟨⟨⟨⟨rfl, h1⟩, h2⟩, h3⟩, h4⟩, h5⟩ := h'
  obtain ⟨Ca, b, fI, fd, ps, m1, M, B, FO⟩ := ok.wd.pe x h1
  obtain ⟨n1, _, _⟩ := nmB_ok h3
  have PM := pmk_oex (X := X) (p := p) (pos := p3) (dvs := []) M.ox M.ini M.ty FO (ok.room.mono (by omega)) B .nil pass0 (glB_ok ok.toOk.sc h2) m1 (pa_cons ((sound e).1 sc X W a ok.toOk h5) pa_nil (star_cons h4)) n1 (star_cons h4) rfl
  refine PS.imp (L2.ps_raise ok.calm ok.tk PM) fun D σ H ⟨F, ρ, rl, hp⟩ => ?_
  refine D_bind rl hp fun d y F1 H1 ex rl1 hd hq => ?_
  obtain ⟨_, hf, hq⟩ := sopt hq
  obtain ⟨hf, _⟩ := grd_ok hf
  refine ⟨by simp, fun a' ha' => ⟨a', y, rfl, upd_same, fun dx hdx hne => ⟨rfl, dx, [("line", y)], upd_same, by rw [upd_ne hne, upd_same], ?_, ?_⟩⟩⟩
  · rw [upd_ne hne] at hdx; exact hdx
  · have hdx' : H1 dx = none := by rw [upd_ne hne] at hdx; exact hdx
    have sm : Same H1 (upd (del (upd (upd (upd H1 a' (exo a' Ca none)) dx (exd dx [("line", y)])) a' (exo a' Ca (some dx))) a') dx (.xd [("line", y)])) := fun b u q => by
      have hb1 : b ≠ dx := ne_of_none q hdx'
      have hb2 : b ≠ a' := ne_of_none q ha'
      rw [upd_ne hb1, del_ne hb2, upd_ne hb2, upd_ne hb1, upd_ne hb2]
      exact q
    have e2 : Ext F1 H1 F1 (upd (del (upd (upd (upd H1 a' (exo a' Ca none)) dx (exd dx [("line", y)])) a' (exo a' Ca (some dx))) a') dx (.xd [("line", y)])) := ⟨Same.refl _, sm, fun b u q => sm b u (rl1.rel.sub b u q), fun _ _ h => .inl h⟩
    exact hq σ F1 _ _ _ (Same.refl _) (rl1.mono e2) ⟨x, Ca, h1, m1, rfl, dx, y, rfl, upd_same, flat_all hd hf⟩
end
end RL
/-! RLTry: try with several clauses 'except X as e'. The walk follows HandS.Exc's ps_try_as and HandS.TryMany's ps_try_many. -/
namespace RL
open PySem PySem.Spec PyProof.Rows L2

abbrev Clause := Value × Nat × (Addr → Value → Option Addr → TS)
def endsAt (i : Nat) (D : Ends) : Ends := { nx := fun σ' H' => D.nx (σ'.set i none) H', rt := D.rt, bk := fun σ' H' => D.bk (σ'.set i none) H', ct := fun σ' H' => D.ct (σ'.set i none) H' }
/-- what the clauses wish of an exception, one after the other -/
def wMA (K : PySem.W.Frag) (Wout : WX) (D : Ends) : List Clause → WX
  | [] => Wout
  | (c, i, ts) :: r => fun cls d σ H => ∃ b, PySem.W.exmOne K cls c = some b ∧ (b = true → ∀ a, H a = none → ts a cls d (endsAt i D) (σ.set i (some (.ref a))) H) ∧ (b = false → wMA K Wout D r cls d σ H)
inductive HdA (X : Cx) : List ExceptHandler → List Clause → Prop
  | nil : HdA X [] []
  | cons {x n : Str} {c : Value} {i : Nat} {ts : Addr → Value → Option Addr → TS} {b₀ : Stmt} {suite : List Stmt} {np pos' : Pos} {hds : List ExceptHandler} {l : List Clause} (hc : Names X x c) (hi : X.N[i]? = some n) (hln : X.env.kindOf n = some .local)
      (hsu : ∀ (a : Addr) (oe : Obj) (cls : Value) (d : Option Addr) (pn : List (Addr × Obj)), Zc cls d oe → (∃ vs, oe.data = .fields vs) → PSs (X.suite a ((a, oe) :: pn)) (b₀ :: suite) (ts a cls d)) (r : HdA X hds l) :
      HdA X (.ExceptHandler (some (.Name x np)) (some n) (b₀ :: suite) pos' :: hds) ((c, i, ts) :: l)
section
variable {X : Cx} {body : List Stmt} {h₀ : ExceptHandler} {hds : List ExceptHandler} {l : List Clause} {pos : Pos} {tb : WX → TS} {Wout : WX}
theorem ps_tryA (hs : X.stack = X.env :: X.outer) (hf : X.env.frame = some X.env.locals) (hN : X.N.Nodup) (tk : Takes X Wout)
    (hb : ∀ (W : WX) (pn : List (Addr × Obj)) (xe : Value → Shared → Prop), Takes (X.tr pn xe) W → PassesOwn (model X.prog X.w) X.A X.env xe → PSs (X.tr pn xe) body (tb W))
    (hh : HdA X (h₀ :: hds) l) : PS X (.Try body (h₀ :: hds) [] [] pos) (fun D σ H => tb (wMA X.K Wout D l) D σ H) := by
  refine ⟨fun pins s σ H D I h => ?_⟩
  have ok := I.ok
  have hfr : X.A.frames = some (X.env :: X.outer) := by rw [ok.frames, hs]
  refine wpAny_Try_except ?_
  refine wpAny_mono ((hb (wMA X.K Wout D l) (X.pn ++ pins) (fun e s₁ => wpAny (model X.prog X.w) X.A (noteFrame e X.env) (fun _ s₂ => wpAny (model X.prog X.w) X.A (setFlight e none) (fun _ s₃ =>
    wpAny (model X.prog X.w) X.A (handleBy e X.env (h₀ :: hds)) (SP X pins D) X.xe s₃) X.xe s₂) X.xe s₁) (fun u s' xx => ?_) PassesOwn.looking).run [] s σ H D (I.toTry _) h) (fun f s1 hsp => ?_) (fun e s1 he => he)
  · obtain ⟨a, B, sI, pins', σ', H', cls, d, rfl, J', nb, up, sky, na, os, ag, w⟩ := xx
    have J : Inv X pins σ' H' sI := J'.ofTry ok
    have sky' : Sky B (X.env :: X.outer) a (Zc cls d) X.env.locals s'.heap := by rw [← hs]; exact sky
    show wpAny (model X.prog X.w) X.A (noteFrame (.ref a) X.env) _ _ _
    refine Sky.land Zc.steady hfr hf sky' fun h3 fl3 up3 => ?_
    have J3 : Inv X pins σ' H' { s' with heap := h3 } := J.landed nb fl3.1 (up.trans up3) os ag
    obtain ⟨oe3, vs3, he3, hz3, hd3⟩ := fl3.there
    have notFr : ∀ {h : Heap} {o : Obj} {vs : Array Value}, h.FunFrames B (X.env :: X.outer) → h.get? a = some o → o.data = .fields vs → a ∉ frs (X.env :: X.outer) := fun {h o vs} ff e dd hm => by
      obtain ⟨_, o', e', hnf⟩ := ff.mem hm
      rw [e] at e'; cases e'
      exact hnf _ dd
    have nfr := notFr fl3.2.2.1 he3 hd3
    have nL : a ≠ X.env.locals := fun z => nfr (List.mem_filterMap.mpr ⟨X.env, List.mem_cons_self, by rw [hf, z]⟩)
    have nF : a ∉ X.fs := fun hm => by
      obtain ⟨e, he, q⟩ := List.mem_filterMap.mp hm
      exact nfr (List.mem_filterMap.mpr ⟨e, List.mem_cons_of_mem _ he, q⟩)
    have S3 := J3.suite he3 hd3 na nL nF
    have go : ∀ {hds' : List ExceptHandler} {l' : List Clause}, HdA X hds' l' → wMA X.K Wout D l' cls d σ' H' →
        wpAny (model X.prog X.w) X.A (handleBy (.ref a) X.env hds') (SP X pins D) X.xe { s' with heap := h3 } := by
      intro hds' l' hk
      induction hk with
      | nil =>
        intro w
        refine wpAny_handleBy_nil ?_
        obtain ⟨k1, k2, k3, oe, vs, T, oT, ts', he, hz, hd, h1, hr⟩ := id fl3
        unfold PySem.passOn
        refine wpAny_bind (wpAny_field he hd h1 ?_)
        rw [if_neg (show ¬ ((Value.ref T == Value.none) = true) from by simp)]
        have fin : wpAny (model X.prog X.w) X.A (setFlight (.ref a) X.env.frame) (fun _ s4 => wpAny (model X.prog X.w) X.A (throw (.ref a) : Sem Flow) (SP X pins D) X.xe s4) X.xe { s' with heap := h3 } := by
          rw [hf]
          refine HandSPX.setFlight_upZ fl3 fun h4 hh4 up4 => wpAny_throw (tk _ _ ?_)
          exact ⟨a, B, sI, pins, σ', H', cls, d, rfl, J, nb, (up.trans up3).trans up4, .inr (.inr (by rw [hs]; exact hh4)), na, os, ag, w⟩
        first
          | exact wpAny_bind (wpAny_pure (wpAny_bind fin))
          | exact wpAny_bind fin
      | @cons x n c i ts b₀ suite np pos' hds2 l2 hc hi hln hsu r ih =>
        intro w
        obtain ⟨b, hb1, hyes, hno⟩ := w
        have hloc : L2.Loc X.env.scope n := .inl hln
        refine wpAny_handleBy_cons (codeAny_handlers_test ?_) (by intro q; cases q)
        have LT : PySem.W.Looks (model X.prog X.w) h3 (typeOf (.ref a)) cls := fun A Q E s k q => wpAny_typeOf_ref (k _ _ he3) (by rw [hz3.1]; exact q)
        have LM := PySem.W.exm_one (M := model X.prog X.w) (J3.kIn) LT hb1
        have test : ∀ {Q : Value → Shared → Prop} {E : Value → Shared → Prop}, Q c { s' with heap := h3 } → wpAny (model X.prog X.w) (X.A.mark (some (.ref a))) (eval (.Name x np) X.env) Q E { s' with heap := h3 } := fun {Q E} q => by
          obtain ⟨hg, hdbg, hm | ⟨hm, hv, hnn⟩⟩ := hc
          · exact ld_glob (X := X.suite a ((a, oe3) :: (X.pn ++ pins))) S3 hg hm q hdbg
          · exact ld_blt (X := X.suite a ((a, oe3) :: (X.pn ++ pins))) S3 hg hm hv q hnn hdbg
        refine test (LM.here ?_)
        cases b with
        | true =>
          refine codeAny_handlers_suite_as ?_
          refine HandSPX.lands_againZ fl3 fun h4 fl4 up4 => ?_
          have J4 : Inv X pins σ' H' { s' with heap := h4 } := J.landed nb fl4.1 ((up.trans up3).trans up4) os ag
          obtain ⟨oe4, vs4, he4, hz4, hd4⟩ := fl4.there
          have S4 := J4.suite he4 hd4 na nL nF
          refine store_ok (X := X.suite a ((a, oe4) :: (X.pn ++ pins))) (v := .ref a) S4 hN hi hloc rfl (fun s5 S5 => ?_) (.inr hln)
          refine wpAny_mono ((hsu a oe4 cls d (X.pn ++ pins) hz4 ⟨_, hd4⟩).run [] s5 _ H' _ S5 (hyes rfl a na)) (fun f s6 hsp => ?_) (fun _ _ z => False.elim z)
          have end_ : ∀ {σ6 : L2.St} {H6 : Hp} {Q : Shared → Prop}, Inv (X.suite a ((a, oe4) :: (X.pn ++ pins))) [] σ6 H6 s6 → (∀ s7, Inv X pins (σ6.set i none) H6 s7 → Q s7) →
              wpAny (model X.prog X.w) X.A (do bindName X.env n .none; unbindBehindTheSuite X.env n pos') (fun _ s7 => Q s7) X.xe s6 := fun {σ6 H6 Q} S6 hq => gone_ok (S6.unsuite ok) hN hi hln hq
          cases f with
          | next =>
            obtain ⟨σ6, H6, S6, q6⟩ := hsp
            exact end_ S6 fun s7 J7 => ⟨_, _, J7, q6⟩
          | brk =>
            obtain ⟨σ6, H6, S6, q6⟩ := hsp
            exact end_ S6 fun s7 J7 => ⟨_, _, J7, q6⟩
          | cont =>
            obtain ⟨σ6, H6, S6, q6⟩ := hsp
            exact end_ S6 fun s7 J7 => ⟨_, _, J7, q6⟩
          | ret u =>
            obtain ⟨v6, σ6, H6, S6, r6, q6⟩ := hsp
            exact end_ S6 fun s7 J7 => ⟨_, _, _, J7, r6, q6⟩
        | false =>
          show wpAny _ X.A (handleBy (.ref a) X.env hds2) _ _ _
          exact ih (hno rfl)
    exact go hh w
  · cases f with
    | next =>
      obtain ⟨σ', H', J', q⟩ := hsp
      exact wpAny_execs_nil ⟨σ', H', J'.ofTry ok, q⟩
    | brk =>
      obtain ⟨σ', H', J', q⟩ := hsp
      exact ⟨σ', H', J'.ofTry ok, q⟩
    | cont =>
      obtain ⟨σ', H', J', q⟩ := hsp
      exact ⟨σ', H', J'.ofTry ok, q⟩
    | ret u =>
      obtain ⟨v, σ', H', J', r, q⟩ := hsp
      exact ⟨v, σ', H', J'.ofTry ok, r, q⟩
end
end RL
/-! RLTry2: this program's suites; every statement. -/
namespace RL
open PySem PySem.Spec PyProof.Rows L2
section
variable {T : Tab} {N : List Str} {k : Nat} {C : Cfg}
theorem con_pe {K : W.Frag} {d : D} {c : Const} (h : constB d c = true) : ∃ v : V, (∀ (Y : Cx) (j : Nat) (p : Pos), PE Y (.Constant c j p) (tC v)) ∧ ∀ F, Dq K F v d := by
  cases d with
  | none => cases c <;> first | exact ⟨.non, fun _ _ _ => pe_non, fun _ => .non⟩ | exact no h
  | bool b =>
    cases c with
    | bool b' =>
      have e : b = b' := eq_of_beq h
      subst e
      exact ⟨.bl b, fun _ _ _ => pe_bl, fun _ => .bl b⟩
    | _ => exact no h
  | int i =>
    cases c with
    | int i' =>
      have e : i = i' := of_decide_eq_true h
      subst e
      exact ⟨.int i, fun _ _ _ => pe_int, fun _ => .int i⟩
    | _ => exact no h
  | str i =>
    cases c with
    | str i' =>
      have e : i = i' := of_decide_eq_true h
      subst e
      exact ⟨.str i, fun _ _ _ => pe_str, fun _ => .str i⟩
    | _ => exact no h
  | _ => cases c <;> exact no h
/-- an exception's dict, where it has one -/
def PayH (dd : Option Addr) (H : Hp) : Prop := ∀ b, dd = some b → ∃ fs, H b = some (.xd fs)
theorem call_isX {X : Cx} {a Dc : Addr} {dd : Option Addr} {oe : Obj} {pn : List (Addr × Obj)} (C : ExcC X.K Dc) (hz : Zc (.ref Dc) dd oe) (hf : ∃ vs, oe.data = .fields vs) : CallR (X.suite a ((a, oe) :: pn)) (.builtin "isinstance") (fun xs H Q => PayH dd H ∧ rIsE X.K Dc a xs H Q) := by
  cases dd with
  | none => exact fun pins s σ H xs us Q I r h => call_isE C hz hf pins s σ H xs us Q I r h.2
  | some b0 =>
    intro pins s σ H xs us Q I r h
    obtain ⟨hpay, c, cv, b, rfl, hcv, e, q⟩ := h
    obtain ⟨fs, hfs⟩ := hpay b0 rfl
    cases r with
    | cons rx rr =>
      cases rr with
      | cons rt rr =>
        cases rr
        cases rx
        have ec := hcv _ rt
        subst ec
        obtain ⟨hget, _⟩ := I.pin (a, oe) (List.mem_append.mpr (.inl List.mem_cons_self))
        obtain ⟨vs, hv⟩ := hf
        have hx : ObjOk X.prog X.w H s.heap b0 (.xd fs) := I.hok b0 _ hfs
        obtain ⟨mA, hns, hr⟩ := hx
        obtain ⟨od, ho, hl⟩ := lookIn_ns hns
        have J : PySem.W.InstAt s.heap a oe Dc (some od) := ⟨hget, hz.1, by unfold PySem.W.notCls; rw [hv] <;> rfl, by rw [hz.2]; exact ho⟩
        have hcl : (PySem.W.clsIn X.K Dc).isSome = true := by obtain ⟨cd, hc, _⟩ := PySem.W.any_some C.hd; rw [hc]; rfl
        exact PySem.W.kia_one (PySem.W.kitx_exc hcl C.hg C.hk C.hs C.ha C.hn C.ht C.hm) I.kIn J e (fun z => nomatch z) fun tk => ⟨.bl b, H, I.kept (t' := tk) fun _ _ z => z, rfl, q⟩
/-- isinstance(e, A) in a suite -/
theorem pe_isS {X : Cx} {W : WX} {sc : Scope} {ae Dc vA : Addr} {dd : Option Addr} {oe : Obj} {pn : List (Addr × Obj)} {i : Nat} {e A : Str} {p1 p2 p3 p4 : Pos} (ok : Ok T N k C sc X W) (C1 : ExcC X.K Dc) (hz : Zc (.ref Dc) dd oe) (hf : ∃ vs, oe.data = .fields vs)
    (hi : N[i]? = some e) (hl : locB sc e = true) (hn : nmB e = true) (hgi : glB sc "isinstance" = true) (hgA : glB sc A = true) (hnA : nmB A = true) (hmA : X.mg A = some (.ref vA)) :
    PE (X.suite ae ((ae, oe) :: pn)) (.Call (.Name "isinstance" p1) [.Name e p2, .Name A p3] [] p4) (fun σ H Q => (σ[i]? = some (some (.ref ae)) ∧ PayH dd H) ∧ ∃ b, PySem.W.kitOne X.K (.ref Dc) (.ref vA) = some b ∧ Q (.bl b) H) := by
  obtain ⟨n1, n2, _⟩ := nmB_ok hn
  obtain ⟨m1, m2, _⟩ := nmB_ok hnA
  have P1 : PE (X.suite ae ((ae, oe) :: pn)) (.Name e p2) (tVar i) := pe_var (i := i) (show X.N[i]? = some e by rw [ok.n]; exact hi) (show L2.Vis X.env.scope e by rw [ok.sc]; exact .inl (locB_ok hl)) n1 n2
  have P2 : PE (X.suite ae ((ae, oe) :: pn)) (.Name A p3) (tC (.ref vA)) := pe_glob (X := X.suite ae ((ae, oe) :: pn)) (v := .ref vA) (show Gl X A from glB_ok ok.sc hgA) hmA rfl m1
  refine PE.imp (pe_callB (X := X.suite ae ((ae, oe) :: pn)) (call_isX C1 hz hf) (show Gl X "isinstance" from glB_ok ok.sc hgi) (ok.wd.blt _ (by simp [bltNames])) (by decide +kernel) (pa_cons P1 (pa_cons P2 pa_nil rfl) rfl) (by decide) (by decide) rfl) fun σ H Q ⟨⟨h1, h0⟩, b, h2, q⟩ => ?_
  exact ⟨.ref ae, h1, h0, .ref vA, .ref vA, b, rfl, fun u r => r, h2, q⟩
theorem tru_bl {K : W.Frag} {H : Hp} {b : Bool} : TruV K (.bl b) H b := rfl
/-- the suite -/
theorem suite_ps {X : Cx} {W : WX} {sc : Scope} {ae Dc vA vB : Addr} {oe : Obj} {pn : List (Addr × Obj)} {i : Nat} {e A B : Str} {p1 p2 p3 p4 q1 q2 q3 q4 r1 r2 r5 r6 : Pos} (ok : Ok T N k C sc X W) (C1 : ExcC X.K Dc)
    {dd : Option Addr} (hz : Zc (.ref Dc) dd oe) (hf : ∃ vs, oe.data = .fields vs) (hi : N[i]? = some e) (hl : locB sc e = true) (hn : nmB e = true) (hgi : glB sc "isinstance" = true) (hgA : glB sc A = true) (hnA : nmB A = true) (hmA : X.mg A = some (.ref vA))
    (hgB : glB sc B = true) (hnB : nmB B = true) (hmB : X.mg B = some (.ref vB)) {x1 x2 : Expr} {t1 t2 : TE} (hc1 : PE (X.suite ae ((ae, oe) :: pn)) x1 t1) (hc2 : PE (X.suite ae ((ae, oe) :: pn)) x2 t2) :
    PSs (X.suite ae ((ae, oe) :: pn)) [.Return (some (.IfExp (.BoolOp .And [.Call (.Name "isinstance" p1) [.Name e p2, .Name A p3] [] p4, .UnaryOp .Not (.Call (.Name "isinstance" q1) [.Name e q2, .Name B q3] [] q4) r1] r2) x1 x2 r5)) r6]
      (fun D σ H => (σ[i]? = some (some (.ref ae)) ∧ PayH dd H) ∧ ∃ bA bB, PySem.W.kitOne X.K (.ref Dc) (.ref vA) = some bA ∧ PySem.W.kitOne X.K (.ref Dc) (.ref vB) = some bB ∧ (if (bA && !bB) = true then t1 σ H D.rt else t2 σ H D.rt)) := by
  have T1 := pt_truth (pe_isS (ae := ae) (pn := pn) (p1 := p1) (p2 := p2) (p3 := p3) (p4 := p4) ok C1 hz hf hi hl hn hgi hgA hnA hmA) (plainT_ok rfl)
  have T2 := pt_truth (pe_isS (ae := ae) (pn := pn) (p1 := q1) (p2 := q2) (p3 := q3) (p4 := q4) ok C1 hz hf hi hl hn hgi hgB hnB hmB) (plainT_ok rfl)
  have TA := PW.pt (pw_and (pos := r2) T1 (pw_and1 (pos := r2) (pt_not (pos := r1) T2)))
  refine PSs.imp (pss_one (ps_ret (pos := r6) (pe_ifExp (pos := r5) TA hc1 hc2))) fun D σ H ⟨h1, bA, bB, h2, h3, q⟩ => ?_
  refine ⟨h1, bA, h2, bA, rfl, ?_⟩
  cases bA with
  | false => exact iteF (iteF q)
  | true =>
    refine iteT ⟨h1, bB, h3, bB, rfl, ?_⟩
    cases bB with
    | true => exact iteF q
    | false => exact iteT q
theorem ev_isE {ρ : Env} {i c a : Nat} {p : Option D} (h : ρ[i]? = some (some (.val (.exn c p)))) : ev C ρ (.isi (.var i) (.cls a)) = retB (C.sub c a) := by
  have e : ev C ρ (.var i) = .ok (false, .exn c p) := by
    show (match ρ[i]? with
      | some (some (.val v)) => (.ok (false, v) : Res (Bool × Vl))
      | some (some (.own v)) => .ok (true, v)
      | _ => .bad) = _
    rw [h]
  show (ev C ρ (.var i)).bind (fun x => opt (isiD C.sub x.2 (.cls a)) retB) = _
  rw [e]; rfl
theorem ev_isN {ρ : Env} {i a : Nat} (h : ρ[i]? = none) : ev C ρ (.isi (.var i) (.cls a)) = .bad := by
  have e : ev C ρ (.var i) = .bad := by
    show (match ρ[i]? with
      | some (some (.val v)) => (.ok (false, v) : Res (Bool × Vl))
      | some (some (.own v)) => .ok (true, v)
      | _ => .bad) = _
    rw [h]
  show (ev C ρ (.var i)).bind (fun x => opt (isiD C.sub x.2 (.cls a)) retB) = _
  rw [e]; rfl
/-- the suite's end -/
theorem suite_ev {ρ : Env} {i c a b : Nat} {d d2 : D} {e1 : Res (Bool × Vl)} (h : ev C ρ (.isi (.var i) (.cls a)) = e1) :
    execs C ρ [.ret (.ite (.and (.isi (.var i) (.cls a)) (.not (.isi (.var i) (.cls b)))) (.con d) (.con d2))] = (SR.of ρ (((e1.bind fun x => opt (truthy x.2) fun k => match k with
      | true => (ev C ρ (.isi (.var i) (.cls b))).bind fun x => opt (truthy x.2) fun k => retB (!k)
      | false => .ok x).bind fun x => opt (truthy x.2) fun k => match k with
      | true => ret d
      | false => ret d2).bind fun x => opt (frozen x) .ok) fun v => .rt v).seq fun r => .nx r := by
  rw [← h]; rfl
theorem suite_val {ρ : Env} {i c a b : Nat} {p : Option D} {d d2 : D} (h : ρ[i]? = some (some (.val (.exn c p)))) :
    execs C ρ [.ret (.ite (.and (.isi (.var i) (.cls a)) (.not (.isi (.var i) (.cls b)))) (.con d) (.con d2))] = .rt (.dat (if (C.sub c a && !C.sub c b) = true then d else d2)) := by
  rw [suite_ev (c := c) (ev_isE (a := a) h), ev_isE (a := b) h]
  cases C.sub c a <;> cases C.sub c b <;> rfl
/-- the field of an exception that a suite holds -/
def Pay (K : W.Frag) (p : Option D) (dd : Option Addr) (H : Hp) : Prop := match p with
  | none => dd = none
  | some q => ∃ b v, dd = some b ∧ H b = some (.xd [("line", v)]) ∧ ∀ F, Dq K F v q
theorem Pay.h {K : W.Frag} {p : Option D} {dd : Option Addr} {H : Hp} (h : Pay K p dd H) : PayH dd H := by
  cases p with
  | none => intro b e; rw [show dd = none from h] at e; cases e
  | some q =>
    obtain ⟨b, v, e, f, _⟩ := h
    intro b' e'
    rw [e] at e'
    cases e'
    exact ⟨_, f⟩
/-- what a suite is good for: its end by the evaluator, and its run -/
def SuiteP (T : Tab) (N : List Str) (k : Nat) (C : Cfg) (X : Cx) (i : Nat) (su : List Stm) (bs : List Stmt) : Prop := ∃ res : Nat → Option D → Option D,
  (∀ (ρ : Env) c p, ρ[i]? = some (some (.val (.exn c p))) → execs C ρ su = match res c p with
    | some d => .rt (.dat d)
    | none => .bad) ∧ (∀ ρ : Env, ρ[i]? = none → execs C ρ su = .bad) ∧
    ∀ (ae Dc : Addr) (dd : Option Addr) (oe : Obj) (pn : List (Addr × Obj)) (c : Nat) (y : Str) (p : Option D), T.cls[c]? = some (some y) → X.mg y = some (.ref Dc) → ExcC X.K Dc → Zc (.ref Dc) dd oe → (∃ vs, oe.data = .fields vs) →
      PSs (X.suite ae ((ae, oe) :: pn)) bs (fun D σ H => σ[i]? = some (some (.ref ae)) ∧ Pay X.K p dd H ∧ ∃ d F, res c p = some d ∧ Same F H ∧ ∀ w F' H', Ext F H F' H' → Dq X.K F' w d → D.rt w H')
theorem suite_one {X : Cx} {W : WX} {sc : Scope} {i : Nat} (ok : Ok T N k C sc X W) {a b : Nat} {d d2 : D} {e A B : Str} {c1 c2 : Const} {j1 j2 : Nat} {p1 p2 p3 p4 q1 q2 q3 q4 r1 r2 r3 r4 r5 r6 : Pos}
    (hi : N[i]? = some e) (hl : locB sc e = true) (hn : nmB e = true) (hgi : glB sc "isinstance" = true) (s5 : T.cls[a]? = some (some A)) (s6 : T.cls[b]? = some (some B)) (hgA : glB sc A = true) (hgB : glB sc B = true) (hnA : nmB A = true) (hnB : nmB B = true) (k1 : constB d c1 = true) (k2 : constB d2 c2 = true) :
    SuiteP T N k C X i [.ret (.ite (.and (.isi (.var i) (.cls a)) (.not (.isi (.var i) (.cls b)))) (.con d) (.con d2))]
      [.Return (some (.IfExp (.BoolOp .And [.Call (.Name "isinstance" p1) [.Name e p2, .Name A p3] [] p4, .UnaryOp .Not (.Call (.Name "isinstance" q1) [.Name e q2, .Name B q3] [] q4) r1] r2) (.Constant c1 j1 r3) (.Constant c2 j2 r4) r5)) r6] := by
  obtain ⟨vA, mA, kA⟩ := ok.wd.cls a A s5
  obtain ⟨vB, mB, kB⟩ := ok.wd.cls b B s6
  obtain ⟨w1, k1, k1'⟩ := con_pe (K := X.K) k1
  obtain ⟨w2, k2, k2'⟩ := con_pe (K := X.K) k2
  refine ⟨fun c _ => some (if (C.sub c a && !C.sub c b) = true then d else d2), fun ρ c p h => suite_val h, fun ρ h => by rw [suite_ev (c := 0) (ev_isN h)]; rfl, fun ae Dc dd oe pn c y p hc hm C1 hz hf => ?_⟩
  obtain ⟨u1, u2⟩ := ok.wd.sub c a y A Dc vA hc s5 hm mA
  obtain ⟨u3, u4⟩ := ok.wd.sub c b y B Dc vB hc s6 hm mB
  refine PSs.imp (suite_ps ok C1 hz hf hi hl hn hgi hgA hnA mA hgB hnB mB (k1 _ j1 r3) (k2 _ j2 r4)) fun D σ H ⟨t1, t0, dx, F, t2, sF, t3⟩ => ⟨⟨t1, t0.h⟩, C.sub c a, C.sub c b, u2, u4, ?_⟩
  cases ok_inj t2
  split
  · rename_i z; rw [if_pos z] at t3; exact t3 _ F H (Ext.refl sF) (k1' F)
  · rename_i z; rw [if_neg z] at t3; exact t3 _ F H (Ext.refl sF) (k2' F)
theorem pe_never {X : Cx} {e : Expr} : PE X e (fun _ _ _ => False) := ⟨fun _ _ _ _ _ _ h => h.elim⟩
theorem suite3_val {ρ : Env} {i c a b : Nat} {p : Option D} {z1 z2 : Str} (h : ρ[i]? = some (some (.val (.exn c p)))) :
    execs C ρ [.ret (.ite (.and (.isi (.var i) (.cls a)) (.not (.isi (.var i) (.cls b)))) (.lst [.con (.str z1), .fld (.var i)]) (.lst [.con (.str z2)]))] = match (if (C.sub c a && !C.sub c b) = true then (fldD (.exn c p)).bind fun q => some (PyData.list [.str z1, q]) else some (.list [.str z2])) with
      | some d => .rt (.dat d)
      | none => .bad := by
  have e0 := ev_isE (C := C) (a := a) h
  have e1 := ev_isE (C := C) (a := b) h
  have ef : ev C ρ (.fld (.var i)) = opt (fldD (.exn c p)) ret := by
    show (ev C ρ (.var i)).bind (fun x => opt (fldD x.2) ret) = _
    have e : ev C ρ (.var i) = .ok (false, .exn c p) := by
      show (match ρ[i]? with
        | some (some (.val v)) => (.ok (false, v) : Res (Bool × Vl))
        | some (some (.own v)) => .ok (true, v)
        | _ => .bad) = _
      rw [h]
    rw [e]; rfl
  show (SR.of ρ ((((ev C ρ (.isi (.var i) (.cls a))).bind fun x => opt (truthy x.2) fun k => match k with
    | true => (ev C ρ (.isi (.var i) (.cls b))).bind fun x => opt (truthy x.2) fun k => retB (!k)
    | false => .ok x).bind fun x => opt (truthy x.2) fun k => match k with
    | true => ((ret (.str z1)).bind fun x => opt (dat x) fun d => ((ev C ρ (.fld (.var i))).bind fun x => opt (dat x) fun d => (Res.ok []).bind fun ds => .ok (d :: ds)).bind fun ds => .ok (d :: ds)).bind fun xs => opt (grdO (szOk xs.length) (some (.list xs))) ret
    | false => ret (.list [.str z2])).bind fun x => opt (frozen x) .ok) fun v => .rt v).seq (fun r => .nx r) = _
  rw [e0, e1, ef]
  cases C.sub c a <;> cases C.sub c b <;> first | rfl | (cases fldD (.exn c p) <;> rfl)
theorem suite3_bad {ρ : Env} {i a : Nat} {e x1 x2 : Ex} (h : ev C ρ (.isi (.var i) (.cls a)) = .bad) : execs C ρ [.ret (.ite (.and (.isi (.var i) (.cls a)) e) x1 x2)] = .bad := by
  show (SR.of ρ ((((ev C ρ (.isi (.var i) (.cls a))).bind fun x => opt (truthy x.2) fun k => match k with
    | true => ev C ρ e
    | false => .ok x).bind fun x => opt (truthy x.2) fun k => match k with
    | true => ev C ρ x1
    | false => ev C ρ x2).bind fun x => opt (frozen x) .ok) fun v => .rt v).seq (fun r => .nx r) = _
  rw [h]; rfl
theorem suite_three {X : Cx} {W : WX} {sc : Scope} {i : Nat} (ok : Ok T N k C sc X W) {a b : Nat} {e A B z1 z2 : Str} {j1 j2 : Nat} {p1 p2 p3 p4 q1 q2 q3 q4 r1 r2 r3 r4 r5 r6 s1 s2 s3 s4 : Pos}
    (hi : N[i]? = some e) (hl : locB sc e = true) (hn : nmB e = true) (hgi : glB sc "isinstance" = true) (s5 : T.cls[a]? = some (some A)) (s6 : T.cls[b]? = some (some B)) (hgA : glB sc A = true) (hgB : glB sc B = true) (hnA : nmB A = true) (hnB : nmB B = true) :
    SuiteP T N k C X i [.ret (.ite (.and (.isi (.var i) (.cls a)) (.not (.isi (.var i) (.cls b)))) (.lst [.con (.str z1), .fld (.var i)]) (.lst [.con (.str z2)]))]
      [.Return (some (.IfExp (.BoolOp .And [.Call (.Name "isinstance" p1) [.Name e p2, .Name A p3] [] p4, .UnaryOp .Not (.Call (.Name "isinstance" q1) [.Name e q2, .Name B q3] [] q4) r1] r2) (.List [.Constant (.str z1) j1 r3, .Attribute (.Name e s1) "line" s2] s3) (.List [.Constant (.str z2) j2 r4] s4) r5)) r6] := by
  obtain ⟨vA, mA, kA⟩ := ok.wd.cls a A s5
  obtain ⟨vB, mB, kB⟩ := ok.wd.cls b B s6
  obtain ⟨n1, n2, _⟩ := nmB_ok hn
  refine ⟨fun c p => if (C.sub c a && !C.sub c b) = true then (fldD (.exn c p)).bind fun q => some (PyData.list [.str z1, q]) else some (.list [.str z2]), fun ρ c p h => suite3_val h, fun ρ h => suite3_bad (ev_isN h), fun ae Dc dd oe pn c y p hc hm C1 hz hf => ?_⟩
  obtain ⟨u1, u2⟩ := ok.wd.sub c a y A Dc vA hc s5 hm mA
  obtain ⟨u3, u4⟩ := ok.wd.sub c b y B Dc vB hc s6 hm mB
  have P2 : PE (X.suite ae ((ae, oe) :: pn)) (.List [.Constant (.str z2) j2 r4] s4) (tLst (tCons (tC (.str z2)) tNil)) := pe_lst (pa_cons pe_str pa_nil rfl)
  have PV : PE (X.suite ae ((ae, oe) :: pn)) (.Name e s1) (tVar i) := pe_var (i := i) (show X.N[i]? = some e by rw [ok.n]; exact hi) (show L2.Vis X.env.scope e by rw [ok.sc]; exact .inl (locB_ok hl)) n1 n2
  have fin2 : ∀ {D : Ends} {σ : L2.St} {F H : Hp}, Same F H → (∀ w F' H', Ext F H F' H' → Dq X.K F' w (.list [.str z2]) → D.rt w H') → tLst (tCons (tC (.str z2)) tNil) σ H D.rt := fun {D σ F H} sF t3 => ⟨by rw [sizeLine_eq]; show 1 ≤ 16777216; decide, fun pp hp => t3 _ _ _ (Ext.laid sF hp) (lay_list sF hp (.cons (.str _) .nil))⟩
  by_cases h1 : c = 1
  · subst h1
    obtain ⟨Ca, b', fI, fd, ps, m1, M, _, _⟩ := ok.wd.pe y hc
    have eC : Ca = Dc := by rw [hm] at m1; cases m1; rfl
    subst eC
    have PF := pe_xf (X := X) (a := ae) (pn := pn) (n := "line") (pos := s2) ⟨C1.hg, C1.hk, C1.hs, C1.hd⟩ M.no hz hf PV rfl
    have P1 : PE (X.suite ae ((ae, oe) :: pn)) (.List [.Constant (.str z1) j1 r3, .Attribute (.Name e s1) "line" s2] s3) (tLst (tCons (tC (.str z1)) (tCons (tXf ae (.ref Ca) dd Ca "line" (tVar i)) tNil))) := pe_lst (pa_cons pe_str (pa_cons PF pa_nil rfl) rfl)
    refine PSs.imp (suite_ps ok C1 hz hf hi hl hn hgi hgA hnA mA hgB hnB mB P1 P2) fun D σ H ⟨t1, t0, dx, F, t2, sF, t3⟩ => ⟨⟨t1, t0.h⟩, C.sub 1 a, C.sub 1 b, u2, u4, ?_⟩
    split
    · rename_i z
      have t2 : (if (C.sub 1 a && !C.sub 1 b) = true then (fldD (.exn 1 p)).bind fun q => some (PyData.list [.str z1, q]) else some (.list [.str z2])) = some dx := t2
      rw [if_pos z] at t2
      cases p with
      | none => cases t2
      | some q =>
        cases ok_inj t2
        obtain ⟨b0, v, e0, e1, e2⟩ := t0
        refine ⟨.ref ae, t1, rfl, rfl, b0, [("line", v)], v, e0, e1, rfl, ?_, fun pp hp => t3 _ _ _ (Ext.laid sF hp) (lay_list sF hp (.cons (.str _) (.cons (e2 F) .nil)))⟩
        rw [sizeLine_eq]; show 2 ≤ 16777216; decide
    · rename_i z
      have t2 : (if (C.sub 1 a && !C.sub 1 b) = true then (fldD (.exn 1 p)).bind fun q => some (PyData.list [.str z1, q]) else some (.list [.str z2])) = some dx := t2
      rw [if_neg z] at t2
      cases ok_inj t2
      exact fin2 sF t3
  · refine PSs.imp (suite_ps ok C1 hz hf hi hl hn hgi hgA hnA mA hgB hnB mB pe_never P2) fun D σ H ⟨t1, t0, dx, F, t2, sF, t3⟩ => ⟨⟨t1, t0.h⟩, C.sub c a, C.sub c b, u2, u4, ?_⟩
    have t2 : (if (C.sub c a && !C.sub c b) = true then (fldD (.exn c p)).bind fun q => some (PyData.list [.str z1, q]) else some (.list [.str z2])) = some dx := t2
    split
    · rename_i z
      rw [if_pos z] at t2
      have : fldD (.exn c p) = none := by
        unfold fldD
        split
        · rename_i e; cases e; exact absurd rfl h1
        · rfl
      rw [this] at t2
      cases t2
    · rename_i z
      rw [if_neg z] at t2
      cases ok_inj t2
      exact fin2 sF t3
theorem suite2_val {ρ : Env} {i c a b1 b2 b3 : Nat} {p : Option D} {d d2 : D} (h : ρ[i]? = some (some (.val (.exn c p)))) :
    execs C ρ [.ret (.ite (.and (.isi (.var i) (.cls a)) (.not (.or (.isi (.var i) (.cls b1)) (.or (.isi (.var i) (.cls b2)) (.isi (.var i) (.cls b3)))))) (.con d) (.con d2))] = .rt (.dat (if (C.sub c a && !(C.sub c b1 || (C.sub c b2 || C.sub c b3))) = true then d else d2)) := by
  have e0 := ev_isE (C := C) (a := a) h
  have e1 := ev_isE (C := C) (a := b1) h
  have e2 := ev_isE (C := C) (a := b2) h
  have e3 := ev_isE (C := C) (a := b3) h
  show (SR.of ρ ((((ev C ρ (.isi (.var i) (.cls a))).bind fun x => opt (truthy x.2) fun k => match k with
    | true => (((ev C ρ (.isi (.var i) (.cls b1))).bind fun x => opt (truthy x.2) fun k => match k with
      | true => .ok x
      | false => (ev C ρ (.isi (.var i) (.cls b2))).bind fun x => opt (truthy x.2) fun k => match k with
        | true => .ok x
        | false => ev C ρ (.isi (.var i) (.cls b3)))).bind fun x => opt (truthy x.2) fun k => retB (!k)
    | false => .ok x).bind fun x => opt (truthy x.2) fun k => match k with
    | true => ret d
    | false => ret d2).bind fun x => opt (frozen x) .ok) fun v => .rt v).seq (fun r => .nx r) = _
  rw [e0, e1, e2, e3]
  cases C.sub c a <;> cases C.sub c b1 <;> cases C.sub c b2 <;> cases C.sub c b3 <;> rfl
theorem suite2_bad {ρ : Env} {i a : Nat} {e : Ex} {d d2 : D} (h : ev C ρ (.isi (.var i) (.cls a)) = .bad) : execs C ρ [.ret (.ite (.and (.isi (.var i) (.cls a)) e) (.con d) (.con d2))] = .bad := by
  show (SR.of ρ ((((ev C ρ (.isi (.var i) (.cls a))).bind fun x => opt (truthy x.2) fun k => match k with
    | true => ev C ρ e
    | false => .ok x).bind fun x => opt (truthy x.2) fun k => match k with
    | true => ret d
    | false => ret d2).bind fun x => opt (frozen x) .ok) fun v => .rt v).seq (fun r => .nx r) = _
  rw [h]; rfl
theorem suite_two {X : Cx} {W : WX} {sc : Scope} {i : Nat} (ok : Ok T N k C sc X W) {a b1 b2 b3 : Nat} {d d2 : D} {e o A B1 B2 B3 : Str} {c1 c2 : Const} {j1 j2 : Nat} {p1 p2 p3 p4 q1 q2 q3 q4 t1 t2 t3 t4 u1 u2 u3 u4 r1 r2 r3 r4 r5 r6 o1 o2 o3 o4 : Pos}
    (hi : N[i]? = some e) (hl : locB sc e = true) (hn : nmB e = true) (hgi : glB sc "isinstance" = true) (ho : N[N.idxOf o]? = some o) (hoi : N.idxOf o ≠ i) (hol : locB sc o = true) (hon : nmB o = true)
    (s0 : T.cls[a]? = some (some A)) (s1 : T.cls[b1]? = some (some B1)) (s2 : T.cls[b2]? = some (some B2)) (s3 : T.cls[b3]? = some (some B3)) (hgA : glB sc A = true) (hg1 : glB sc B1 = true) (hg2 : glB sc B2 = true) (hg3 : glB sc B3 = true) (hnA : nmB A = true) (hn1 : nmB B1 = true) (hn2 : nmB B2 = true) (hn3 : nmB B3 = true) (k1 : constB d c1 = true) (k2 : constB d2 c2 = true) :
    SuiteP T N k C X i [.ret (.ite (.and (.isi (.var i) (.cls a)) (.not (.or (.isi (.var i) (.cls b1)) (.or (.isi (.var i) (.cls b2)) (.isi (.var i) (.cls b3)))))) (.con d) (.con d2))]
      [.Assign [.Name o o1] (.BoolOp .Or [.Call (.Name "isinstance" q1) [.Name e q2, .Name B1 q3] [] q4, .Call (.Name "isinstance" t1) [.Name e t2, .Name B2 t3] [] t4, .Call (.Name "isinstance" u1) [.Name e u2, .Name B3 u3] [] u4] o2) o3,
       .Return (some (.IfExp (.BoolOp .And [.Call (.Name "isinstance" p1) [.Name e p2, .Name A p3] [] p4, .UnaryOp .Not (.Name o o4) r1] r2) (.Constant c1 j1 r3) (.Constant c2 j2 r4) r5)) r6] := by
  obtain ⟨vA, mA, kA⟩ := ok.wd.cls a A s0
  obtain ⟨v1, m1, kB1⟩ := ok.wd.cls b1 B1 s1
  obtain ⟨v2, m2, kB2⟩ := ok.wd.cls b2 B2 s2
  obtain ⟨v3, m3, kB3⟩ := ok.wd.cls b3 B3 s3
  obtain ⟨w1, k1, k1'⟩ := con_pe (K := X.K) k1
  obtain ⟨w2, k2, k2'⟩ := con_pe (K := X.K) k2
  obtain ⟨n1, n2, _⟩ := nmB_ok hon
  refine ⟨fun c _ => some (if (C.sub c a && !(C.sub c b1 || (C.sub c b2 || C.sub c b3))) = true then d else d2), fun ρ c p h => suite2_val h, fun ρ h => suite2_bad (ev_isN h), fun ae Dc dd oe pn c y p hc hm C1 hz hf => ?_⟩
  obtain ⟨_, z0⟩ := ok.wd.sub c a y A Dc vA hc s0 hm mA
  obtain ⟨_, z1⟩ := ok.wd.sub c b1 y B1 Dc v1 hc s1 hm m1
  obtain ⟨_, z2⟩ := ok.wd.sub c b2 y B2 Dc v2 hc s2 hm m2
  obtain ⟨_, z3⟩ := ok.wd.sub c b3 y B3 Dc v3 hc s3 hm m3
  have P1 := pe_isS (ae := ae) (pn := pn) (p1 := q1) (p2 := q2) (p3 := q3) (p4 := q4) ok C1 hz hf hi hl hn hgi hg1 hn1 m1
  have P2 := pe_isS (ae := ae) (pn := pn) (p1 := t1) (p2 := t2) (p3 := t3) (p4 := t4) ok C1 hz hf hi hl hn hgi hg2 hn2 m2
  have P3 := pe_isS (ae := ae) (pn := pn) (p1 := u1) (p2 := u2) (p3 := u3) (p4 := u4) ok C1 hz hf hi hl hn hgi hg3 hn3 m3
  have T0 := pt_truth (pe_isS (ae := ae) (pn := pn) (p1 := p1) (p2 := p2) (p3 := p3) (p4 := p4) ok C1 hz hf hi hl hn hgi hgA hnA mA) (plainT_ok rfl)
  have PO := pe_orT (pos := o2) P1 (pe_orT (pos := o2) P2 (pe_one (pos := o2) P3))
  have PV : PE (X.suite ae ((ae, oe) :: pn)) (.Name o o4) (tVar (N.idxOf o)) := pe_var (i := N.idxOf o) (show X.N[N.idxOf o]? = some o by rw [ok.n]; exact ho) (show L2.Vis X.env.scope o by rw [ok.sc]; exact .inl (locB_ok hol)) n1 n2
  have TV := pt_truth PV (plainT_ok rfl)
  have TA := PW.pt (pw_and (pos := r2) T0 (pw_and1 (pos := r2) (pt_not (pos := r1) TV)))
  have S1 := ps_set (X := X.suite ae ((ae, oe) :: pn)) (i := N.idxOf o) (x := o) (pos := o3) (pos' := o1) (show X.N.Nodup by rw [ok.n]; exact ok.nd) (show X.N[N.idxOf o]? = some o by rw [ok.n]; exact ho) (show L2.Loc X.env.scope o by rw [ok.sc]; exact .inl (locB_ok hol)) PO rfl (.inr (by show X.env.scope.names.lookup o = _; rw [ok.sc]; exact locB_ok hol))
  have S2 : PSs (X.suite ae ((ae, oe) :: pn)) [.Return (some (.IfExp (.BoolOp .And [.Call (.Name "isinstance" p1) [.Name e p2, .Name A p3] [] p4, .UnaryOp .Not (.Name o o4) r1] r2) (.Constant c1 j1 r3) (.Constant c2 j2 r4) r5)) r6]
      (fun D σ H => ∃ bb : Bool, (σ[i]? = some (some (.ref ae)) ∧ PayH dd H) ∧ σ[N.idxOf o]? = some (some (.bl bb)) ∧ D.rt (if (C.sub c a && !bb) = true then w1 else w2) H) := by
    refine PSs.imp (pss_one (ps_ret (pos := r6) (pe_ifExp (pos := r5) TA (k1 _ j1 r3) (k2 _ j2 r4)))) fun D σ H ⟨bb, g1, g2, q⟩ => ?_
    refine ⟨g1, C.sub c a, z0, C.sub c a, rfl, ?_⟩
    cases hA : C.sub c a with
    | false => rw [hA] at q; exact iteF (iteF q)
    | true =>
      rw [hA] at q
      refine iteT ⟨.bl bb, g2, bb, rfl, ?_⟩
      cases bb with
      | true => exact iteF q
      | false => exact iteT q
  refine ⟨fun pins s σ H D I ⟨h1, t0, dx, F, t2, sF, t3⟩ => (pss_cons S1 S2).run pins s σ H D I ?_⟩
  have h0 := t0.h
  cases ok_inj t2
  have hlen : σ.length = N.length := by have := I.len; rw [← ok.n]; exact this
  have hio : N.idxOf o < σ.length := by rw [hlen]; exact (List.getElem?_eq_some_iff.mp ho).1
  have fin : ∀ bb : Bool, bb = (C.sub c b1 || (C.sub c b2 || C.sub c b3)) → ∃ b2' : Bool, ((σ.set (N.idxOf o) (some (V.bl bb)))[i]? = some (some (.ref ae)) ∧ PayH dd H) ∧ (σ.set (N.idxOf o) (some (V.bl bb)))[N.idxOf o]? = some (some (.bl b2')) ∧ D.rt (if (C.sub c a && !b2') = true then w1 else w2) H := fun bb hbb => by
    refine ⟨bb, ⟨by rw [List.getElem?_set_ne hoi]; exact h1, h0⟩, List.getElem?_set_self hio, ?_⟩
    rw [hbb]
    refine t3 _ F H (Ext.refl sF) ?_
    show Dq X.K F _ (if (C.sub c a && !(C.sub c b1 || (C.sub c b2 || C.sub c b3))) = true then d else d2)
    split
    · exact k1' F
    · exact k2' F
  refine ⟨⟨h1, h0⟩, C.sub c b1, z1, C.sub c b1, rfl, ?_⟩
  cases e1 : C.sub c b1 with
  | true => exact iteT (fin true (by rw [e1]; rfl))
  | false =>
    refine iteF ⟨⟨h1, h0⟩, C.sub c b2, z2, C.sub c b2, rfl, ?_⟩
    cases e2 : C.sub c b2 with
    | true => exact iteT (fin true (by rw [e1, e2]; rfl))
    | false => exact iteF ⟨⟨h1, h0⟩, C.sub c b3, z3, fin _ (by rw [e1, e2]; rfl)⟩
theorem suite_any {X : Cx} {W : WX} {sc : Scope} {i : Nat} {su : List Stm} {bs : List Stmt} (ok : Ok T N k C sc X W) (h : chkSuite T N i su sc bs = true) : SuiteP T N k C X i su bs := by
  unfold chkSuite at h
  split at h
  · simp only [Bool.and_eq_true, decide_eq_true_eq] at h
    obtain ⟨⟨⟨⟨⟨⟨⟨⟨⟨⟨⟨⟨⟨⟨⟨⟨h1, h2⟩, h3⟩, h4⟩, h5⟩, h6⟩, h7⟩, h8⟩, h9⟩, h10⟩, h11⟩, h12⟩, h13⟩, h14⟩, h15⟩, h16⟩, h17⟩ := h
    subst h1 h2 h4 h7 h8
    exact suite_one ok h3 h5 h6 h9 h10 h11 h12 h13 h14 h15 h16 h17
  · simp only [Bool.and_eq_true, decide_eq_true_eq] at h
    obtain ⟨⟨⟨⟨⟨⟨⟨a1, a2⟩, a3⟩, a4⟩, a5⟩, a6⟩, a7⟩, a8⟩ := h
    obtain ⟨⟨⟨f1, f2⟩, f3⟩, f4⟩ := a1
    obtain ⟨⟨⟨⟨⟨g1, g2⟩, g3⟩, g4⟩, g5⟩, g6⟩ := a2
    obtain ⟨⟨⟨⟨i1, i2⟩, i3⟩, i4⟩, i5⟩ := a3
    obtain ⟨⟨⟨⟨l1, l2⟩, l3⟩, l4⟩, l5⟩ := a4
    obtain ⟨⟨⟨m1, m2⟩, m3⟩, m4⟩ := a5
    obtain ⟨⟨⟨⟨⟨⟨⟨n1, n2⟩, n3⟩, n4⟩, n5⟩, n6⟩, n7⟩, n8⟩ := a6
    subst f1 f2 f3 f4 g2 g3 g4 i1 i2 i3 i4 l1
    exact suite_two ok g1 g5 g6 i5 l2 l3 l4 l5 m1 m2 m3 m4 n1 n2 n3 n4 n5 n6 n7 n8 a7 a8
  · simp only [Bool.and_eq_true, decide_eq_true_eq] at h
    obtain ⟨⟨⟨⟨⟨⟨⟨⟨⟨⟨⟨⟨⟨⟨⟨h1, h2⟩, h3⟩, h4⟩, h5⟩, h6⟩, h7⟩, h8⟩, h9⟩, h10⟩, h11⟩, h12⟩, h13⟩, h14⟩, h15⟩, ⟨⟨⟨g1, g2⟩, g3⟩, g4⟩, g5⟩ := h
    subst h1 h2 h4 h7 h8 g1 g2 g3 g4 g5
    exact suite_three ok h3 h5 h6 h9 h10 h11 h12 h13 h14 h15
  · exact no h
end
end RL
/-! RLTryX: suites of assignments that speak of the exception. -/
namespace RL
open PySem PySem.Spec PyProof.Rows L2
section
variable {T : Tab} {N : List Str} {k : Nat} {C : Cfg}
/-- the state in a suite: e in slot i -/
structure RX (T : Tab) (X : Cx) (i : Nat) (F0 H0 : Hp) (ae : Addr) (c : Nat) (p : Option D) (dd : Option Addr) (F : Hp) (σ : L2.St) (H : Hp) (ρ : Env) : Prop where
  ex : ρ[i]? = some (some (.val (.exn c p)))
  rl : Rl X.K F0 H0 F σ H (ρ.set i none)
  at_ : σ[i]? = some (some (.ref ae))
  pay : Pay X.K p dd H
theorem Pay.ext {K : W.Frag} {p : Option D} {dd : Option Addr} {F H F' H' : Hp} (h : Pay K p dd H) (e : Ext F H F' H') : Pay K p dd H' := by
  cases p with
  | none => exact h
  | some q =>
    obtain ⟨b, v, e1, e2, e3⟩ := h
    exact ⟨b, v, e1, e.hh _ _ e2, e3⟩
section
variable {X : Cx} {W : WX} {sc : Scope} {i c : Nat} {p : Option D} {dd : Option Addr} {F0 H0 F H F' H' : Hp} {ae Dc : Addr} {oe : Obj} {pn : List (Addr × Obj)} {σ : L2.St} {ρ : Env} {y : Str}
theorem RX.ext (r : RX T X i F0 H0 ae c p dd F σ H ρ) (e : Ext F H F' H') : RX T X i F0 H0 ae c p dd F' σ H' ρ := ⟨r.ex, r.rl.mono e, r.at_, r.pay.ext e⟩
def XE (K : PySem.W.Frag) (F H : Hp) (Q : VK) : Res (Bool × Vl) → Prop
  | .ok (false, .dat d) => ∀ F' H' x, Ext F H F' H' → Dq K F' x d → Q x H'
  | _ => False
def tX (T : Tab) (X : Cx) (C : Cfg) (i : Nat) (F0 H0 : Hp) (ae : Addr) (c : Nat) (p : Option D) (dd : Option Addr) (e : Ex) : TE := fun σ H Q => ∃ F ρ, RX T X i F0 H0 ae c p dd F σ H ρ ∧ XE X.K F H Q (ev C ρ e)
def tXs (T : Tab) (X : Cx) (C : Cfg) (i : Nat) (F0 H0 : Hp) (ae : Addr) (c : Nat) (p : Option D) (dd : Option Addr) (es : List Ex) : TA := fun σ H Q => ∃ F ρ, RX T X i F0 H0 ae c p dd F σ H ρ ∧ (match evs C ρ es with
  | .ok ds => ∀ F' H' vs, Ext F H F' H' → DqAll X.K F' vs ds → Q vs H'
  | _ => False)
theorem XE.inv {Q : VK} {r : Res (Bool × Vl)} (h : XE X.K F H Q r) : ∃ d, r = .ok (false, .dat d) ∧ ∀ F' H' x, Ext F H F' H' → Dq X.K F' x d → Q x H' := by
  cases r with
  | ok z =>
    obtain ⟨b, v⟩ := z
    cases b with
    | true => exact h.elim
    | false =>
      cases v with
      | dat d => exact ⟨d, rfl, h⟩
      | _ => exact h.elim
  | _ => exact h.elim
theorem var_at {j : Nat} {v : Vl} {b : Bool} (r : RX T X i F0 H0 ae c p dd F σ H ρ) (hj : j ≠ i) (h : ev C ρ (.var j) = .ok (b, v)) : ∃ x, σ[j]? = some (some x) ∧ RV X.K F H x v := by
  have h : (match ρ[j]? with
    | some (some (.val v)) => (.ok (false, v) : Res (Bool × Vl))
    | some (some (.own v)) => .ok (true, v)
    | _ => .bad) = .ok (b, v) := h
  have e : (ρ.set i none)[j]? = ρ[j]? := List.getElem?_set_ne (fun z => hj z.symm)
  split at h
  · rename_i u q
    cases h
    obtain ⟨x, h1, h2⟩ := r.rl.rel.val j _ (by rw [e]; exact q)
    exact ⟨x, h1, .inl h2⟩
  · rename_i u q
    cases h
    obtain ⟨a, o, h1, h2, h3, h4⟩ := r.rl.rel.own j _ (by rw [e]; exact q)
    exact ⟨.ref a, h1, .inr ⟨a, o, rfl, h2, h3, h4⟩⟩
  · cases h
section
variable (ok : Ok T N k C sc X W) (hc : T.cls[c]? = some (some y)) (hm : X.mg y = some (.ref Dc)) (hz : Zc (.ref Dc) dd oe) (hf : ∃ vs, oe.data = .fields vs)
include ok hc hm hz hf
theorem sx_isi {j b : Nat} {f e B : Str} {p1 p2 p3 p4 : Pos} (h : chkI T N i sc (.isi (.var j) (.cls b)) (.Call (.Name f p1) [.Name e p2, .Name B p3] [] p4) = true) :
    PE (X.suite ae ((ae, oe) :: pn)) (.Call (.Name f p1) [.Name e p2, .Name B p3] [] p4) (tX T X C i F0 H0 ae c p dd (.isi (.var j) (.cls b))) := by
  have h : (decide (j = i) && decide (N[i]? = some e) && locB sc e && nmB e && decide (f = ("isinstance" : Str)) && glB sc f && glB sc B && nmB B && (decide (T.cls[b]? = some (some B)) || (decide (b = 16) && decide (B = ("ValueError" : Str))))) = true := h
  simp only [Bool.and_eq_true, Bool.or_eq_true, decide_eq_true_eq] at h
  obtain ⟨⟨⟨⟨⟨⟨⟨⟨rfl, h2⟩, h3⟩, h4⟩, rfl⟩, h6⟩, h7⟩, h8⟩, h9⟩ := h
  obtain ⟨xa, xm, xk⟩ := ok.wd.cls c y hc
  have exa : xa = Dc := by rw [hm] at xm; cases xm; rfl
  subst exa
  obtain ⟨n1, n2, _⟩ := nmB_ok h4
  have fin : ∀ {F H : Hp} {σ : L2.St} {ρ : Env} {Q : VK}, RX T X j F0 H0 ae c p dd F σ H ρ → XE X.K F H Q (ev C ρ (.isi (.var j) (.cls b))) → Q (.bl (C.sub c b)) H := fun {F H σ ρ Q} r hx => by
    rw [ev_isE r.ex] at hx
    exact hx F H _ (Ext.refl r.rl.rel.sub) (.bl _)
  rcases h9 with h9 | ⟨rfl, rfl⟩
  · obtain ⟨vB, mB, kB⟩ := ok.wd.cls b B h9
    obtain ⟨_, u2⟩ := ok.wd.sub c b y B xa vB hc h9 hm mB
    exact PE.imp (pe_isS (ae := ae) (pn := pn) (p1 := p1) (p2 := p2) (p3 := p3) (p4 := p4) ok xk.exc hz hf h2 h3 h4 h6 h7 h8 mB) fun σ H Q ⟨F, ρ, r, hx⟩ => ⟨⟨r.at_, r.pay.h⟩, _, u2, fin r hx⟩
  · have P1 : PE (X.suite ae ((ae, oe) :: pn)) (.Name e p2) (tVar j) := pe_var (i := j) (show X.N[j]? = some e by rw [ok.n]; exact h2) (show L2.Vis X.env.scope e by rw [ok.sc]; exact .inl (locB_ok h3)) n1 n2
    have P2 : PE (X.suite ae ((ae, oe) :: pn)) (.Name "ValueError" p3) (tC (.ty "ValueError")) := pe_bltn (X := X.suite ae ((ae, oe) :: pn)) (v := .ty "ValueError") (show Gl X "ValueError" from glB_ok ok.sc h7) (ok.wd.blt _ (by simp [bltNames])) PyProof.Rows.Boot.«ValueError» rfl (by decide) (by decide)
    refine PE.imp (pe_callB (X := X.suite ae ((ae, oe) :: pn)) (call_isX xk.exc hz hf) (show Gl X "isinstance" from glB_ok ok.sc h6) (ok.wd.blt _ (by simp [bltNames])) (by decide +kernel) (pa_cons P1 (pa_cons P2 pa_nil rfl) rfl) (by decide) (by decide) rfl) fun σ H Q ⟨F, ρ, r, hx⟩ => ?_
    refine ⟨.ref ae, r.at_, r.pay.h, .ty "ValueError", .type "ValueError", true, rfl, fun u r => r, xk.vl, ?_⟩
    have := fin r hx
    rw [ok.wd.s16 c y hc] at this
    exact this
omit hc hm hz hf ok in
theorem inv_I {e : Ex} {a : Expr} (h : chkI T N i sc e a = true) : ∃ j b f e' B p1 p2 p3 p4, e = .isi (.var j) (.cls b) ∧ a = .Call (.Name f p1) [.Name e' p2, .Name B p3] [] p4 := by
  unfold chkI at h
  split at h
  · exact ⟨_, _, _, _, _, _, _, _, _, rfl, rfl⟩
  · exact no h
theorem sxi {e : Ex} {a : Expr} (h : chkI T N i sc e a = true) : PE (X.suite ae ((ae, oe) :: pn)) a (tX T X C i F0 H0 ae c p dd e) := by
  obtain ⟨j, b, f, e', B, p1, p2, p3, p4, rfl, rfl⟩ := inv_I h
  exact sx_isi ok hc hm hz hf h
omit hc hm hz hf ok in
theorem star_I {e : Ex} {a : Expr} (h : chkI T N i sc e a = true) : isStar a = false := by
  obtain ⟨j, b, f, e', B, p1, p2, p3, p4, rfl, rfl⟩ := inv_I h
  rfl
theorem sxs : ∀ (es : List Ex) (as : List Expr), chkIs T N i sc es as = true → PA (X.suite ae ((ae, oe) :: pn)) as (tXs T X C i F0 H0 ae c p dd es)
  | [], [], _ => ⟨fun pos pins s σ H Q I ⟨F, ρ, r, hx⟩ => pa_nil.run pos pins s σ H Q I (hx F H [] (Ext.refl r.rl.rel.sub) .nil)⟩
  | [], _ :: _, h => no h
  | _ :: _, [], h => no h
  | e :: es, a :: as, h => by
    have h : (chkI T N i sc e a && chkIs T N i sc es as) = true := h
    rw [Bool.and_eq_true] at h
    refine PA.imp (pa_cons (sxi (F0 := F0) (H0 := H0) (p := p) ok hc hm hz hf h.1) (sxs es as h.2) (star_cons (star_I h.1))) fun σ H Q ⟨F, ρ, r, hx⟩ => ?_
    have hx : (match (ev C ρ e).bind (fun x => opt (dat x) fun d => (evs C ρ es).bind fun ds => .ok (d :: ds)) with
      | .ok ds => ∀ F' H' vs, Ext F H F' H' → DqAll X.K F' vs ds → Q vs H'
      | _ => False) := hx
    refine ⟨F, ρ, r, ?_⟩
    cases q : ev C ρ e with
    | exc _ _ => rw [q] at hx; exact hx.elim
    | bad => rw [q] at hx; exact hx.elim
    | ok z =>
      rw [q] at hx
      obtain ⟨b, v⟩ := z
      cases b with
      | true => exact hx.elim
      | false =>
        cases v with
        | dat d =>
          intro F1 H1 x e1 hd
          refine ⟨F1, ρ, r.ext e1, ?_⟩
          have hx : (match (evs C ρ es).bind fun ds => .ok (d :: ds) with
            | .ok ds => ∀ F' H' vs, Ext F H F' H' → DqAll X.K F' vs ds → Q vs H'
            | _ => False) := hx
          cases q2 : evs C ρ es with
          | exc _ _ => rw [q2] at hx; exact hx.elim
          | bad => rw [q2] at hx; exact hx.elim
          | ok ds =>
            rw [q2] at hx
            exact fun F2 H2 vs e2 hv => hx F2 H2 (x :: vs) (e1.trans e2) (.cons (Dq.mono e2.ff _ _ hd) hv)
        | _ => exact hx.elim
theorem sxl {es : List Ex} {as : List Expr} {pos : Pos} (h : chkIs T N i sc es as = true) : PE (X.suite ae ((ae, oe) :: pn)) (.List as pos) (tX T X C i F0 H0 ae c p dd (.lst es)) := by
  refine PE.imp (pe_lst (pos := pos) (sxs ok hc hm hz hf es as h)) fun σ H Q ⟨F, ρ, r, hx⟩ => ⟨F, ρ, r, ?_⟩
  have hx : XE X.K F H Q ((evs C ρ es).bind fun xs => opt (grdO (szOk xs.length) (some (.list xs))) ret) := hx
  cases q : evs C ρ es with
  | exc _ _ => rw [q] at hx; exact hx.elim
  | bad => rw [q] at hx; exact hx.elim
  | ok ds =>
    rw [q] at hx
    intro F1 H1 vs e1 hv
    have hx : XE X.K F H Q (opt (grdO (szOk ds.length) (some (.list ds))) ret) := hx
    cases g : szOk ds.length with
    | false => rw [g] at hx; exact hx.elim
    | true =>
      rw [g] at hx
      refine ⟨by rw [hv.length]; exact szOk_le g, fun pp hp => ?_⟩
      exact hx _ _ _ (e1.trans (Ext.laid e1.sub hp)) (lay_list e1.sub hp hv)
theorem sx {e : Ex} {a : Expr} (h : chkX T N i sc e a = true) : PE (X.suite ae ((ae, oe) :: pn)) a (tX T X C i F0 H0 ae c p dd e) := by
  unfold chkX at h
  split at h
  · exact sxl ok hc hm hz hf h
  · rename_i j es x px xs pl pp
    simp only [Bool.and_eq_true, decide_eq_true_eq] at h
    obtain ⟨⟨⟨⟨h1, h2⟩, h3⟩, h4⟩, h5⟩ := h
    obtain ⟨n1, n2, _⟩ := nmB_ok h4
    have PV : PE (X.suite ae ((ae, oe) :: pn)) (.Name x px) (tVar j) := pe_var (i := j) (show X.N[j]? = some x by rw [ok.n]; exact h1) (show L2.Vis X.env.scope x by rw [ok.sc]; exact visB_ok h3) n1 n2
    refine PE.imp (pe_op (pos := pp) (op_bin .add) PV (sxl (F0 := F0) (H0 := H0) (p := p) (pos := pl) ok hc hm hz hf h5)) fun σ H Q ⟨F, ρ, r, hx⟩ => ?_
    have hx : XE X.K F H Q ((ev C ρ (.var j)).bind fun x => (ev C ρ (.lst es)).bind fun y => opt (datR x) fun x => opt (datR y) fun y => opt (binD .add x y) ret) := hx
    cases q : ev C ρ (.var j) with
    | exc _ _ => rw [q] at hx; exact hx.elim
    | bad => rw [q] at hx; exact hx.elim
    | ok z =>
      rw [q] at hx
      obtain ⟨b, v⟩ := z
      obtain ⟨u, hu, hrv⟩ := var_at (C := C) r h2 q
      refine ⟨u, hu, F, ρ, r, ?_⟩
      have hx : XE X.K F H Q ((ev C ρ (.lst es)).bind fun y => opt (datR (b, v)) fun x => opt (datR y) fun y => opt (binD .add x y) ret) := hx
      cases q2 : ev C ρ (.lst es) with
      | exc _ _ => rw [q2] at hx; exact hx.elim
      | bad => rw [q2] at hx; exact hx.elim
      | ok z2 =>
        rw [q2] at hx
        obtain ⟨b2, v2⟩ := z2
        have hf2 : b2 = false ∧ ∃ d2, v2 = .dat d2 := by
          have q2 : (evs C ρ es).bind (fun xs => opt (grdO (szOk xs.length) (some (PyData.list xs))) ret) = .ok (b2, v2) := q2
          cases q3 : evs C ρ es with
          | exc _ _ => rw [q3] at q2; cases q2
          | bad => rw [q3] at q2; cases q2
          | ok ds =>
            rw [q3] at q2
            have q2 : opt (grdO (szOk ds.length) (some (PyData.list ds))) ret = .ok (b2, v2) := q2
            cases g : szOk ds.length with
            | false => rw [g] at q2; cases q2
            | true => rw [g] at q2; cases q2; exact ⟨rfl, _, rfl⟩
        obtain ⟨rfl, d2, rfl⟩ := hf2
        intro F1 H1 x2 e1 hd2
        cases v with
        | dat d1 =>
          have hx : XE X.K F H Q (opt (binD .add d1 d2) ret) := by cases b <;> exact hx
          cases q4 : binD .add d1 d2 with
          | none => rw [q4] at hx; exact hx.elim
          | some z =>
            rw [q4] at hx
            have rd1 : RD X.K F1 H1 u d1 := RD.mono e1 hrv.rd
            exact ⟨F1, d1, d2, z, e1.sub, rd1, .inl hd2, q4, fun x' F2 H2 e2 hz2 => hx F2 H2 x' (e1.trans e2) hz2⟩
        | _ => cases b <;> exact hx.elim
  · rename_i j z j2 s x px z' jz pz pc e pe fl pf s' js ps pi
    simp only [Bool.and_eq_true, decide_eq_true_eq] at h
    obtain ⟨⟨⟨⟨⟨⟨⟨⟨⟨⟨h1, h2⟩, h3⟩, h4⟩, rfl⟩, rfl⟩, h7⟩, h8⟩, h9⟩, rfl⟩, rfl⟩ := h
    obtain ⟨n1, n2, _⟩ := nmB_ok h4
    obtain ⟨n3, n4, _⟩ := nmB_ok h9
    have hu : (X.suite ae ((ae, oe) :: pn)).A.units + 65 < cLine := by
      have := ok.room.un
      show X.A.units + 65 < cLine
      omega
    have PV : PE (X.suite ae ((ae, oe) :: pn)) (.Name x px) (tVar j) := pe_var (i := j) (show X.N[j]? = some x by rw [ok.n]; exact h1) (show L2.Vis X.env.scope x by rw [ok.sc]; exact visB_ok h3) n1 n2
    have PE2 : PE (X.suite ae ((ae, oe) :: pn)) (.Name e pe) (tVar j2) := pe_var (i := j2) (show X.N[j2]? = some e by rw [ok.n]; exact h7) (show L2.Vis X.env.scope e by rw [ok.sc]; exact .inl (locB_ok h8)) n3 n4
    have TC := pt_cmpR (X := X.suite ae ((ae, oe) :: pn)) (pos := pc) (op_cmp hu .eq) PV (pe_int (i := z) (j := jz) (pos := pz)) rfl
    have key : ∀ {F H : Hp} {σ : L2.St} {ρ : Env} {Q : VK}, RX T X j2 F0 H0 ae c p dd F σ H ρ → XE X.K F H Q (ev C ρ (.ite (.cmp .eq (.var j) (.con (.int z))) (.fld (.var j2)) (.con (.str s)))) → ∃ u d1 bb, σ[j]? = some (some u) ∧ RD X.K F H u d1 ∧ cmpD .eq d1 (.dat (.int z)) = some bb ∧
        (match bb with
        | true => XE X.K F H Q (opt (fldD (.exn c p)) ret)
        | false => XE X.K F H Q (ret (.str s))) := fun {F H σ ρ Q} r hx => by
      have hx : XE X.K F H Q (((ev C ρ (.var j)).bind fun x => (ret (.int z)).bind fun y => opt (datR x) fun x => opt (cmpD .eq x y.2) retB).bind fun x => opt (truthy x.2) fun k => match k with
        | true => ev C ρ (.fld (.var j2))
        | false => ret (.str s)) := hx
      have ef : ev C ρ (.fld (.var j2)) = opt (fldD (.exn c p)) ret := by
        show (ev C ρ (.var j2)).bind (fun x => opt (fldD x.2) ret) = _
        have e : ev C ρ (.var j2) = .ok (false, .exn c p) := by
          show (match ρ[j2]? with
            | some (some (.val v)) => (.ok (false, v) : Res (Bool × Vl))
            | some (some (.own v)) => .ok (true, v)
            | _ => .bad) = _
          rw [r.ex]
        rw [e]; rfl
      rw [ef] at hx
      cases q : ev C ρ (.var j) with
      | exc _ _ => rw [q] at hx; exact hx.elim
      | bad => rw [q] at hx; exact hx.elim
      | ok zz =>
        rw [q] at hx
        obtain ⟨b, v⟩ := zz
        obtain ⟨u, hu, hrv⟩ := var_at (C := C) r h2 q
        cases v with
        | dat d1 =>
          have hx : XE X.K F H Q ((opt (cmpD .eq d1 (.dat (.int z))) retB).bind fun x => opt (truthy x.2) fun k => match k with
            | true => opt (fldD (.exn c p)) ret
            | false => ret (.str s)) := by cases b <;> exact hx
          cases q4 : cmpD .eq d1 (.dat (.int z)) with
          | none => rw [q4] at hx; exact hx.elim
          | some bb =>
            rw [q4] at hx
            refine ⟨u, d1, bb, hu, hrv.rd, q4, ?_⟩
            cases bb <;> exact hx
        | _ => cases b <;> exact hx.elim
    by_cases h1c : c = 1
    · subst h1c
      obtain ⟨Ca, b', fI, fd, ps', m1, M, _, _⟩ := ok.wd.pe y hc
      have eC : Ca = Dc := by rw [hm] at m1; cases m1; rfl
      subst eC
      obtain ⟨xa, xm, xk⟩ := ok.wd.cls 1 y hc
      have exa : xa = Ca := by rw [hm] at xm; cases xm; rfl
      subst exa
      have PF := pe_xf (X := X) (a := ae) (pn := pn) (n := "line") (pos := pf) ⟨xk.exc.hg, xk.exc.hk, xk.exc.hs, xk.exc.hd⟩ M.no hz hf PE2 rfl
      refine PE.imp (pe_ifExp (pos := pi) TC PF (pe_str (x := s) (j := js) (pos := ps))) fun σ H Q ⟨F, ρ, r, hx⟩ => ?_
      obtain ⟨u, d1, bb, g1, g2, g3, g4⟩ := key r hx
      refine ⟨u, g1, F, d1, .dat (.int z), bb, r.rl.rel.sub, g2, .inl (.int z), g3, bb, rfl, ?_⟩
      cases bb with
      | true =>
        have g4 : XE X.K F H Q (opt (fldD (.exn 1 p)) ret) := g4
        cases p with
        | none => exact g4.elim
        | some qq =>
          obtain ⟨b0, vv, e0, e1, e2⟩ := r.pay
          exact iteT ⟨.ref ae, r.at_, rfl, rfl, b0, [("line", vv)], vv, e0, e1, rfl, g4 F H vv (Ext.refl r.rl.rel.sub) (e2 F)⟩
      | false => exact iteF (g4 F H _ (Ext.refl r.rl.rel.sub) (.str s))
    · refine PE.imp (pe_ifExp (pos := pi) TC pe_never (pe_str (x := s) (j := js) (pos := ps))) fun σ H Q ⟨F, ρ, r, hx⟩ => ?_
      obtain ⟨u, d1, bb, g1, g2, g3, g4⟩ := key r hx
      refine ⟨u, g1, F, d1, .dat (.int z), bb, r.rl.rel.sub, g2, .inl (.int z), g3, bb, rfl, ?_⟩
      cases bb with
      | true =>
        exfalso
        have g4 : XE X.K F H Q (opt (fldD (.exn c p)) ret) := g4
        have : fldD (.exn c p) = none := by
          unfold fldD
          split
          · rename_i e; cases e; exact absurd rfl h1c
          · rfl
        rw [this] at g4
        exact g4
      | false => exact iteF (g4 F H _ (Ext.refl r.rl.rel.sub) (.str s))
  · exact sxi ok hc hm hz hf h
end
end
theorem evx_dat {N : List Str} {i : Nat} {sc : Scope} {e : Ex} {a : Expr} {ρ : Env} {b : Bool} {v : Vl} (h : chkX T N i sc e a = true) (q : ev C ρ e = .ok (b, v)) : ∃ d, v = .dat d := by
  unfold chkX at h
  split at h
  · obtain ⟨xs, _, q⟩ := res_bind_ok (show (evs C ρ _).bind (fun xs => opt (grdO (szOk xs.length) (some (PyData.list xs))) ret) = .ok (b, v) from q)
    obtain ⟨d, _, q⟩ := opt_ok q
    cases q; exact ⟨_, rfl⟩
  · obtain ⟨x1, _, q⟩ := res_bind_ok (show (ev C ρ _).bind (fun x => (ev C ρ _).bind fun y => opt (datR x) fun x => opt (datR y) fun y => opt (binD .add x y) ret) = .ok (b, v) from q)
    obtain ⟨x2, _, q⟩ := res_bind_ok q
    obtain ⟨d1, _, q⟩ := opt_ok q
    obtain ⟨d2, _, q⟩ := opt_ok q
    obtain ⟨d3, _, q⟩ := opt_ok q
    cases q; exact ⟨_, rfl⟩
  · obtain ⟨x1, _, q⟩ := res_bind_ok (show (ev C ρ (.cmp .eq (.var _) (.con (.int _)))).bind (fun x => opt (truthy x.2) fun k => match k with
      | true => ev C ρ (.fld (.var _))
      | false => ev C ρ (.con (.str _))) = .ok (b, v) from q)
    obtain ⟨k1, _, q⟩ := opt_ok q
    cases k1 with
    | true =>
      obtain ⟨x2, _, q⟩ := res_bind_ok (show (ev C ρ (.var _)).bind (fun x => opt (fldD x.2) ret) = .ok (b, v) from q)
      obtain ⟨d, _, q⟩ := opt_ok q
      cases q; exact ⟨_, rfl⟩
    | false => cases q; exact ⟨_, rfl⟩
  · obtain ⟨j, b', f, e', B, p1, p2, p3, p4, rfl, rfl⟩ := inv_I h
    obtain ⟨x1, _, q⟩ := res_bind_ok (show (ev C ρ (.var _)).bind (fun x => opt (isiD C.sub x.2 _) retB) = .ok (b, v) from q)
    obtain ⟨d, _, q⟩ := opt_ok q
    cases q; exact ⟨_, rfl⟩
/-! ### statements of a suite -/
section
variable {X : Cx} {W : WX} {sc : Scope} {i c : Nat} {p : Option D} {dd : Option Addr} {F0 H0 : Hp} {ae Dc : Addr} {oe : Obj} {pn : List (Addr × Obj)} {y : Str}
theorem set_comm' {ρ : Env} {i j : Nat} {a b : Option Sl} (h : i ≠ j) : (ρ.set i a).set j b = (ρ.set j b).set i a := List.set_comm a b h
def XPo (T : Tab) (X : Cx) (i : Nat) (F0 H0 : Hp) (ae : Addr) (c : Nat) (p : Option D) (dd : Option Addr) (D : Ends) (F : Hp) : SR → Prop
  | .nx ρ' => ∀ σ' F' H', Same F F' → RX T X i F0 H0 ae c p dd F' σ' H' ρ' → D.nx σ' H'
  | _ => False
theorem sy (ok : Ok T N k C sc X W) (hc : T.cls[c]? = some (some y)) (hm : X.mg y = some (.ref Dc)) (hz : Zc (.ref Dc) dd oe) (hf : ∃ vs, oe.data = .fields vs) : ∀ (su : List Stm) (bs : List Stmt), chkY T N i sc su bs = true →
    PSs (X.suite ae ((ae, oe) :: pn)) bs (fun D σ H => ∃ F ρ, RX T X i F0 H0 ae c p dd F σ H ρ ∧ XPo T X i F0 H0 ae c p dd D F (execs C ρ su))
  | [], bs, h => by
    cases bs with
    | nil => exact PSs.imp pss_nil fun D σ H ⟨F, ρ, r, hp⟩ => hp σ F H (Same.refl _) r
    | cons _ _ => exact no h
  | st :: su, bs, h => by
    obtain ⟨j, e, x, px, v, pa, bs', e0, e1, h'⟩ : ∃ j e x px v pa bs', st = .asg j e ∧ bs = .Assign [.Name x px] v pa :: bs' ∧ (decide (N[j]? = some x) && decide (j ≠ i) && locB sc x && !isComp v && chkX T N i sc e v && chkY T N i sc su bs') = true := by
      unfold chkY at h
      split at h <;> first | contradiction | exact no h | skip
      all_goals (injections; subst_vars; exact ⟨_, _, _, _, _, _, _, rfl, rfl, h⟩)
    subst e0 e1
    simp only [Bool.and_eq_true, decide_eq_true_eq, Bool.not_eq_true'] at h'
    obtain ⟨⟨⟨⟨⟨h1, h2⟩, h3⟩, h4⟩, h5⟩, h6⟩ := h'
    have S1 := ps_set (X := X.suite ae ((ae, oe) :: pn)) (i := j) (x := x) (pos := pa) (pos' := px) (show X.N.Nodup by rw [ok.n]; exact ok.nd) (show X.N[j]? = some x by rw [ok.n]; exact h1) (show L2.Loc X.env.scope x by rw [ok.sc]; exact .inl (locB_ok h3)) (sx (F0 := F0) (H0 := H0) (p := p) ok hc hm hz hf h5) (sw_no h4) (.inr (by show X.env.scope.names.lookup x = _; rw [ok.sc]; exact locB_ok h3))
    refine PSs.imp (pss_cons S1 (sy ok hc hm hz hf su bs' h6)) fun D σ H ⟨F, ρ, r, hp⟩ => ⟨F, ρ, r, ?_⟩
    have hp : XPo T X i F0 H0 ae c p dd D F ((SR.of ρ ((ev C ρ e).bind fun x => opt (frozen x) .ok) fun v => .nx (ρ.set j (some (.val v)))).seq fun r => execs C r su) := hp
    cases q : ev C ρ e with
    | exc _ _ => rw [q] at hp; exact hp.elim
    | bad => rw [q] at hp; exact hp.elim
    | ok z =>
      rw [q] at hp
      obtain ⟨b, v⟩ := z
      cases b with
      | true => exact hp.elim
      | false =>
        obtain ⟨d, rfl⟩ := evx_dat h5 q
        · intro F1 H1 u e1 hd
          have r1 := r.ext e1
          have hp : XPo T X i F0 H0 ae c p dd D F (execs C (ρ.set j (some (.val (.dat d)))) su) := hp
          refine ⟨F1, ρ.set j (some (.val (.dat d))), ⟨?_, ?_, ?_, r1.pay⟩, ?_⟩
          · rw [List.getElem?_set_ne h2]; exact r.ex
          · rw [set_comm' h2]
            exact r1.rl.setVal (v := .dat d) hd j
          · rw [List.getElem?_set_ne h2]; exact r.at_
          · cases q2 : execs C (ρ.set j (some (.val (.dat d)))) su with
            | nx ρ' => rw [q2] at hp; exact fun σ' F' H' s' => hp σ' F' H' (e1.ff.trans s')
            | _ => rw [q2] at hp; exact hp.elim
end
/-! ### nothing is raised in such a suite -/
def calm0 {α : Type} (r : Res α) : Prop := ∀ c p, r ≠ .exc c p
theorem calm_ok {α : Type} {x : α} : calm0 (.ok x) := fun _ _ h => nomatch h
theorem calm_bad {α : Type} : calm0 (.bad : Res α) := fun _ _ h => nomatch h
theorem calm_bind {α β : Type} {r : Res α} {f : α → Res β} (h : calm0 r) (hf : ∀ x, calm0 (f x)) : calm0 (r.bind f) := by
  cases r with
  | ok x => exact hf x
  | exc c p => exact absurd rfl (h c p)
  | bad => exact calm_bad
theorem calm_opt {α β : Type} {o : Option α} {f : α → Res β} (hf : ∀ x, calm0 (f x)) : calm0 (opt o f) := by
  cases o with
  | none => exact calm_bad
  | some x => exact hf x
theorem calm_var {ρ : Env} {j : Nat} : calm0 (ev C ρ (.var j)) := by
  show calm0 (match ρ[j]? with
    | some (some (.val v)) => (.ok (false, v) : Res (Bool × Vl))
    | some (some (.own v)) => .ok (true, v)
    | _ => .bad)
  split
  · exact calm_ok
  · exact calm_ok
  · exact calm_bad
theorem calm_I {N : List Str} {i : Nat} {sc : Scope} {e : Ex} {a : Expr} {ρ : Env} (h : chkI T N i sc e a = true) : calm0 (ev C ρ e) := by
  obtain ⟨j, b, f, e', B, p1, p2, p3, p4, rfl, rfl⟩ := inv_I h
  exact calm_bind calm_var fun x => calm_opt fun _ => calm_ok
theorem calm_Is {N : List Str} {i : Nat} {sc : Scope} {ρ : Env} : ∀ {es : List Ex} {as : List Expr}, chkIs T N i sc es as = true → calm0 (evs C ρ es)
  | [], _, _ => calm_ok
  | _ :: _, [], h => no h
  | e :: es, a :: as, h => by
    have h : (chkI T N i sc e a && chkIs T N i sc es as) = true := h
    rw [Bool.and_eq_true] at h
    exact calm_bind (calm_I h.1) fun x => calm_opt fun d => calm_bind (calm_Is h.2) fun ds => calm_ok
theorem calm_X {N : List Str} {i : Nat} {sc : Scope} {e : Ex} {a : Expr} {ρ : Env} (h : chkX T N i sc e a = true) : calm0 (ev C ρ e) := by
  unfold chkX at h
  split at h
  · exact calm_bind (calm_Is h) fun x => calm_opt fun _ => calm_ok
  · simp only [Bool.and_eq_true] at h
    exact calm_bind calm_var fun x => calm_bind (calm_bind (calm_Is h.2) fun x => calm_opt fun _ => calm_ok) fun y => calm_opt fun _ => calm_opt fun _ => calm_opt fun _ => calm_ok
  · refine calm_bind (calm_bind calm_var fun x => calm_bind calm_ok fun y => calm_opt fun _ => calm_opt fun _ => calm_ok) fun x => calm_opt fun k => ?_
    cases k with
    | true => exact calm_bind calm_var fun x => calm_opt fun _ => calm_ok
    | false => exact calm_ok
  · exact calm_I h
theorem calm_Y {N : List Str} {i : Nat} {sc : Scope} : ∀ (su : List Stm) (bs : List Stmt) (ρ : Env), chkY T N i sc su bs = true → (∃ r, execs C ρ su = .nx r) ∨ execs C ρ su = .bad
  | [], _, ρ, _ => .inl ⟨ρ, rfl⟩
  | st :: su, bs, ρ, h => by
    obtain ⟨j, e, x, px, v, pa, bs', e0, e1, h'⟩ : ∃ j e x px v pa bs', st = .asg j e ∧ bs = .Assign [.Name x px] v pa :: bs' ∧ (decide (N[j]? = some x) && decide (j ≠ i) && locB sc x && !isComp v && chkX T N i sc e v && chkY T N i sc su bs') = true := by
      unfold chkY at h
      split at h <;> first | contradiction | exact no h | skip
      all_goals (injections; subst_vars; exact ⟨_, _, _, _, _, _, _, rfl, rfl, h⟩)
    subst e0 e1
    simp only [Bool.and_eq_true] at h'
    have hc := calm_X (C := C) (ρ := ρ) h'.1.2
    show (∃ r, (SR.of ρ ((ev C ρ e).bind fun x => opt (frozen x) .ok) fun v => .nx (ρ.set j (some (.val v)))).seq (fun r => execs C r su) = .nx r) ∨ (SR.of ρ ((ev C ρ e).bind fun x => opt (frozen x) .ok) fun v => .nx (ρ.set j (some (.val v)))).seq (fun r => execs C r su) = .bad
    cases q : ev C ρ e with
    | exc c p => exact absurd q (hc c p)
    | bad => exact .inr rfl
    | ok z =>
      obtain ⟨b, v⟩ := z
      cases b with
      | true => exact .inr rfl
      | false => exact calm_Y su bs' _ h'.2
end
end RL
/-! RLTry3: every statement. -/
namespace RL
open PySem PySem.Spec PyProof.Rows L2
section
variable {T : Tab} {N : List Str} {k : Nat} {C : Cfg}
theorem inv_H {cl i : Nat} {su : List Stm} {r : Hs} {sc : Scope} {hs : List ExceptHandler} (h : chkH T N (.cons cl i su r) sc hs = true) : ∃ x np n b0 bs pos' hs', hs = .ExceptHandler (some (.Name x np)) (some n) (b0 :: bs) pos' :: hs' ∧
    (decide (T.cls[cl]? = some (some x)) && glB sc x && nmB x && decide (N[i]? = some n) && locB sc n && (chkSuite T N i su sc (b0 :: bs) || (startsI i su && chkY T N i sc su (b0 :: bs))) && chkH T N r sc hs') = true := by
  unfold chkH at h
  split at h <;> first | exact no h | skip
  all_goals first | contradiction | (injections; subst_vars; exact ⟨_, _, _, _, _, _, _, rfl, h⟩)
theorem starts_bad {i : Nat} {su : List Stm} {ρ : Env} (h : startsI i su = true) (hn : ρ[i]? = none) : execs C ρ su = .bad := by
  unfold startsI at h
  split at h
  · rename_i j jj b es rest
    have e := of_decide_eq_true h
    subst e
    have ev0 := ev_isN (C := C) (a := b) hn
    show (SR.of ρ ((((ev C ρ (.isi (.var jj) (.cls b))).bind fun x => opt (dat x) fun d => (evs C ρ es).bind fun ds => .ok (d :: ds)).bind fun xs => opt (grdO (szOk xs.length) (some (PyData.list xs))) ret).bind fun x => opt (frozen x) .ok) fun v => .nx (ρ.set j (some (.val v)))).seq (fun r => execs C r rest) = .bad
    rw [ev0]; rfl
  · exact no h
theorem Rl.setAny {K : W.Frag} {F0 H0 F H : Hp} {σ : L2.St} {ρ : Env} (r : Rl K F0 H0 F σ H ρ) (i : Nat) (x : Option V) : Rl K F0 H0 F (σ.set i x) H (ρ.set i none) :=
  ⟨⟨r.rel.sub, by simp [r.rel.len], fun j u hj => by
      rcases get_set hj with ⟨rfl, e, hl⟩ | ⟨hne, e⟩
      · cases e
      · rw [List.getElem?_set_ne (fun z => hne z.symm)]
        exact r.rel.val j u e, fun j u hj => by
      rcases get_set hj with ⟨rfl, e, hl⟩ | ⟨hne, e⟩
      · cases e
      · rw [List.getElem?_set_ne (fun z => hne z.symm)]
        exact r.rel.own j u e, fun j k u w a hjk hj hk h1 => by
      rcases get_set hj with ⟨rfl, e, hl⟩ | ⟨hne, e⟩
      · cases e
      · rcases get_set hk with ⟨rfl, e2, hl⟩ | ⟨hne2, e2⟩
        · cases e2
        · rw [List.getElem?_set_ne (fun z => hne z.symm)] at h1
          rw [List.getElem?_set_ne (fun z => hne2 z.symm)]
          exact r.rel.dis j k u w a hjk e e2 h1⟩, r.ext, fun j u a hj ha => by
    rcases get_set hj with ⟨rfl, e, hl⟩ | ⟨hne, e⟩
    · cases e
    · rw [List.getElem?_set_ne (fun z => hne z.symm)] at ha
      exact r.nw j u a e ha⟩
theorem hands_ok {X : Cx} {W : WX} {sc : Scope} {F0 H0 : Hp} (ok : OkS T N k C sc X W) : ∀ (h : Hs) (hs : List ExceptHandler), chkH T N h sc hs = true → ∃ l, HdA X hs l ∧ ∀ (c : Nat) (p : Option D) (ρ : Env) (σ : L2.St) (F H : Hp) (cls : Value) (d : Option Addr) (D : Ends),
    SPo T X W F0 H0 D F (hands C ρ c p h) → Rl X.K F0 H0 F σ H ρ → Xr T X.K X.mg c p cls d H → wMA X.K W D l cls d σ H
  | .nil, hs, h => by
    cases hs with
    | nil => exact ⟨[], .nil, fun c p ρ σ F H cls d D hp rl xr => hp σ F H cls d (Same.refl _) rl xr⟩
    | cons _ _ => exact no h
  | .cons cl i su r, hs, h => by
      obtain ⟨x, np, n, b0, bs, pos', hs', e0, h'⟩ := inv_H h
      subst e0
      simp only [Bool.and_eq_true, decide_eq_true_eq] at h'
      obtain ⟨⟨⟨⟨⟨⟨h1, h2⟩, h3⟩, h4⟩, h5⟩, h6⟩, h7⟩ := h'
      obtain ⟨l, hl, hq⟩ := hands_ok ok r hs' h7
      obtain ⟨xa, xm, xk⟩ := ok.wd.cls cl x h1
      obtain ⟨n1, _, _⟩ := nmB_ok h3
      rw [Bool.or_eq_true] at h6
      rcases h6 with h6 | h6
      case inr =>
        obtain ⟨hst, h6⟩ := Bool.and_eq_true_iff.mp h6
        let ts : Addr → Value → Option Addr → TS := fun ae cls dd D σ H => ∃ Dc c y p, cls = .ref Dc ∧ T.cls[c]? = some (some y) ∧ X.mg y = some (.ref Dc) ∧ ∃ F ρ, RX T X i F0 H0 ae c p dd F σ H ρ ∧ XPo T X i F0 H0 ae c p dd D F (execs C ρ su)
        refine ⟨(.ref xa, i, ts) :: l, .cons ⟨glB_ok ok.toOk.sc h2, n1, .inl xm⟩ (by rw [ok.n]; exact h4) (by show X.env.scope.names.lookup n = _; rw [ok.toOk.sc]; exact locB_ok h5) (fun ae oe cls dd pn hz hf => ⟨fun pins s σ H D I q => ?_⟩) hl, fun c p ρ σ F H cls dd D hp rl xr => ?_⟩
        · obtain ⟨Dc, c, y, p, rfl, hc, hm, F, ρ, r, t2⟩ := q
          exact (sy ok.toOk hc hm hz hf su (b0 :: bs) h6).run pins s σ H D I ⟨F, ρ, r, t2⟩
        · obtain ⟨y, ya, z1, z2, z3, z4⟩ := xr
          obtain ⟨sb1, sb2⟩ := ok.wd.sub c cl y x ya xa z1 h1 z2 xm
          have e3 : hands C ρ c p (.cons cl i su r) = (match C.sub c cl with
            | true => (match execs C (ρ.set i (some (.val (.exn c p)))) su with
              | .nx r => .nx (r.set i none)
              | s => s)
            | false => hands C ρ c p r) := rfl
          refine ⟨C.sub c cl, by rw [z3]; exact sb1, fun hb ae hae => ?_, fun hb => ?_⟩
          · rw [e3, hb] at hp
            have hp : SPo T X W F0 H0 D F (match execs C (ρ.set i (some (.val (.exn c p)))) su with
              | .nx r => .nx (r.set i none)
              | s => s) := hp
            have hiN : i < N.length := (List.getElem?_eq_some_iff.mp h4).1
            by_cases hil : i < ρ.length
            · refine ⟨ya, c, y, p, z3, z1, z2, F, ρ.set i (some (.val (.exn c p))), ⟨List.getElem?_set_self hil, ?_, List.getElem?_set_self (by rw [rl.rel.len]; exact hil), z4⟩, ?_⟩
              · rw [List.set_set]; exact rl.setAny i _
              · rcases calm_Y (C := C) su (b0 :: bs) (ρ.set i (some (.val (.exn c p)))) h6 with ⟨r', q⟩ | q
                · rw [q] at hp ⊢
                  intro σ' F' H' s' rx
                  refine hp (σ'.set i none) F' H' s' ?_
                  have := rx.rl.setAny i none
                  rw [List.set_set] at this
                  exact this
                · rw [q] at hp; exact hp.elim
            · exfalso
              rw [starts_bad hst (show (ρ.set i (some (.val (.exn c p))))[i]? = none by rw [List.getElem?_eq_none]; rw [List.length_set]; omega)] at hp
              exact hp
          · rw [e3, hb] at hp
            exact hq c p ρ σ F H cls dd D hp rl ⟨y, ya, z1, z2, z3, z4⟩
      obtain ⟨res, v1, v3, run⟩ := suite_any ok.toOk h6
      let ts : Addr → Value → Option Addr → TS := fun ae cls dd D σ H => ∃ Dc c y p, cls = .ref Dc ∧ ExcC X.K Dc ∧ T.cls[c]? = some (some y) ∧ X.mg y = some (.ref Dc) ∧ σ[i]? = some (some (.ref ae)) ∧ Pay X.K p dd H ∧ ∃ d F, res c p = some d ∧ Same F H ∧ ∀ w F' H', Ext F H F' H' → Dq X.K F' w d → D.rt w H'
      refine ⟨(.ref xa, i, ts) :: l, .cons ⟨glB_ok ok.toOk.sc h2, n1, .inl xm⟩ (by rw [ok.n]; exact h4) (by show X.env.scope.names.lookup n = _; rw [ok.toOk.sc]; exact locB_ok h5) (fun ae oe cls dd pn hz hf => ⟨fun pins s σ H D I q => ?_⟩) hl, fun c p ρ σ F H cls dd D hp rl xr => ?_⟩
      · obtain ⟨Dc, c, y, p, rfl, C1, hc, hm, t1, t2⟩ := q
        exact (run ae Dc dd oe pn c y p hc hm C1 hz hf).run pins s σ H D I ⟨t1, t2⟩
      · obtain ⟨y, ya, z1, z2, z3, z4⟩ := xr
        obtain ⟨sb1, sb2⟩ := ok.wd.sub c cl y x ya xa z1 h1 z2 xm
        refine ⟨C.sub c cl, by rw [z3]; exact sb1, fun hb ae hae => ?_, fun hb => ?_⟩
        · have hp : SPo T X W F0 H0 D F (match execs C (ρ.set i (some (.val (.exn c p)))) su with
            | .nx r => .nx (r.set i none)
            | s => s) := by
            have e3 : hands C ρ c p (.cons cl i su r) = (match C.sub c cl with
              | true => (match execs C (ρ.set i (some (.val (.exn c p)))) su with
                | .nx r => .nx (r.set i none)
                | s => s)
              | false => hands C ρ c p r) := rfl
            rw [e3, hb] at hp
            exact hp
          have hil : i < ρ.length := by
            by_cases hlt : i < ρ.length
            · exact hlt
            · exfalso
              have hn : (ρ.set i (some (.val (.exn c p))))[i]? = none := by
                rw [List.getElem?_eq_none]; rw [List.length_set]; omega
              rw [v3 _ hn] at hp
              exact hp
          have hg : (ρ.set i (some (.val (.exn c p))))[i]? = some (some (.val (.exn c p))) := List.getElem?_set_self hil
          rw [v1 _ _ _ hg] at hp
          obtain ⟨xa', xm', xk'⟩ := ok.wd.cls c y z1
          have exa : xa' = ya := by rw [z2] at xm'; cases xm'; rfl
          subst exa
          cases qr : res c p with
          | none => rw [qr] at hp; exact hp.elim
          | some d =>
            rw [qr] at hp
            exact ⟨xa', c, y, p, z3, xk'.exc, z1, z2, List.getElem?_set_self (by rw [rl.rel.len]; exact hil), z4, d, F, qr, rl.rel.sub, fun w F' H' e hw => hp w F' H' e.ff (rl.ext.trans e) hw⟩
        · have e3 : hands C ρ c p (.cons cl i su r) = (match C.sub c cl with
              | true => (match execs C (ρ.set i (some (.val (.exn c p)))) su with
                | .nx r => .nx (r.set i none)
                | s => s)
              | false => hands C ρ c p r) := rfl
          rw [e3, hb] at hp
          exact hq c p ρ σ F H cls dd D hp rl ⟨y, ya, z1, z2, z3, z4⟩
theorem inv_try {body : List Stm} {h : Hs} {sc : Scope} {st : Stmt} (hc : chkS T N (.try_ body h) sc st = true) : ∃ bd h0 hs pos, st = .Try bd (h0 :: hs) [] [] pos ∧ (chkSs T N body sc bd && chkH T N h sc (h0 :: hs)) = true := by
  unfold chkS at hc
  split at hc <;> first | exact no hc | skip
  all_goals first | contradiction | (injections; subst_vars; exact ⟨_, _, _, _, rfl, hc⟩)
theorem ss_try {body : List Stm} {h : Hs} (hb : SSs T N k C body) : SS T N k C (.try_ body h) := by
  intro sc X W st ok hc F0 H0
  obtain ⟨bd, h0, hs, pos, he, h'⟩ := inv_try hc
  subst he
  rw [Bool.and_eq_true] at h'
  obtain ⟨l, hl, hq⟩ := hands_ok (F0 := F0) (H0 := H0) ok h (h0 :: hs) h'.2
  refine PS.imp (ps_tryA (tb := fun W => tSts T X C W F0 H0 body) ok.stk ok.frm (by rw [ok.n]; exact ok.nd) ok.tk (fun W' pn xe tk po => hb sc (X.tr pn xe) W' bd ⟨⟨ok.n, ok.nd, ok.toOk.sc, ok.calm, ok.room, tk, ok.wd⟩, ok.fn, ok.stk, ok.frm, po, ok.kd⟩ h'.1 F0 H0) hl) fun D σ H ⟨F, ρ, rl, hp⟩ => ⟨F, ρ, rl, ?_⟩
  have hp : SPo T X W F0 H0 D F (match execs C ρ body with
    | .ex c p r => hands C r c p h
    | s => s) := hp
  cases e : execs C ρ body with
  | nx ρ' => rw [e] at hp; exact hp
  | rt v => rw [e] at hp; exact hp
  | ex c p ρ' =>
    rw [e] at hp
    exact fun σ' F' H' cls d s' rl' xr => hq c p ρ' σ' F' H' cls d D (SPo.mono s' hp) rl' xr
  | bad => rw [e] at hp; exact hp
mutual
theorem soundS : ∀ s : Stm, SS T N k C s
  | .asg i e => ss_asg
  | .new i e => ss_new
  | .unp l e => ss_unp
  | .par l es => ss_par
  | .set i kx e => ss_set
  | .aug i o e => ss_aug
  | .app i e => ss_app
  | .ext i e => ss_ext
  | .pop t i kx => ss_pop
  | .exp e => ss_exp
  | .ite c a b => ss_ite (soundSs a) (soundSs b)
  | .for_ t kk a b body => ss_for (soundSs body)
  | .whl c body => ss_whl (soundSs body)
  | .ret e => ss_ret
  | .raise c => ss_raise
  | .raise1 c e => ss_raise1
  | .try_ body h => ss_try (soundSs body)
  | .frz l => fun sc X W a ok h => no h
  | .pass => fun sc X W a ok h F0 H0 => ⟨fun pins s σ H D I ⟨F, ρ, rl, hp⟩ => False.elim hp⟩
theorem soundSs : ∀ l : List Stm, SSs T N k C l
  | [] => sss_nil
  | s :: l => by
    cases e : isFrz s with
    | true =>
      cases s with
      | frz l' => exact sss_frz (soundSs l)
      | _ => exact no e
    | false => exact sss_cons e (soundS s) (soundSs l)
end
end
end RL
/-! RLDk: desks in the heap; __init__, undo. -/
namespace RL
open PySem PySem.Spec PyProof.Rows L2
theorem DkAt.ne {K : W.Frag} {Ca : Addr} {F H : Hp} {d : Dk} (h : DkAt K Ca F H d) : d.y ≠ d.s := fun z => by
  obtain ⟨dy, vg, vs, h1, _, h3, _⟩ := h
  rw [z, h3] at h1; cases h1
theorem DkAt.ext {K : W.Frag} {Ca : Addr} {F H F' H' : Hp} {d : Dk} (h : DkAt K Ca F H d) (e : Ext F H F' H') : DkAt K Ca F' H' d := by
  obtain ⟨dy, vg, vs, h1, h2, h3, h4, h5, h6⟩ := h
  refine ⟨dy, vg, vs, e.hh _ _ h1, Dq.mono e.ff _ _ h2, e.hh _ _ h3, DqAll.mono e.ff _ _ h4, ?_, ?_⟩
  · cases q : F' d.y with
    | none => rfl
    | some u =>
      rcases e.new _ _ q with z | z
      · rw [h5] at z; cases z
      · rw [h1] at z; cases z
  · cases q : F' d.s with
    | none => rfl
    | some u =>
      rcases e.new _ _ q with z | z
      · rw [h6] at z; cases z
      · rw [h3] at z; cases z
theorem DkAt.put {K : W.Frag} {Ca : Addr} {F H : Hp} {d : Dk} {vs' : List V} {st' : List D} (h : DkAt K Ca F H d) (hv : DqAll K F vs' st') : DkAt K Ca F (upd H d.s (.lst vs')) ⟨d.y, d.s, d.g, st'⟩ := by
  have hne := h.ne
  obtain ⟨dy, vg, vs, h1, h2, h3, h4, h5, h6⟩ := h
  exact ⟨dy, vg, vs', by rw [upd_ne hne]; exact h1, h2, upd_same, hv, h5, h6⟩
/-- a name that can be read -/
structure Vr (X : Cx) (i : Nat) (x : Str) : Prop where
  n : X.N[i]? = some x
  v : L2.Vis X.env.scope x
  d : (x == ("__debug__" : Str)) = false
  c : (x == ("__classdict__" : Str)) = false
theorem Vr.pe {X : Cx} {i : Nat} {x : Str} (v : Vr X i x) {p : Pos} : PE X (.Name x p) (tVar i) := pe_var (i := i) v.n v.v v.d v.c
/-- x.f -/
def tFl (Ca : Addr) (f : Str) (i : Nat) : TE := fun σ H Q => ∃ y dy fs v, σ[i]? = some (some (.ref y)) ∧ H y = some (.ins Ca dy fs) ∧ fs.lookup f = some v ∧ Q v H
theorem Vr.fld {X : Cx} {i : Nat} {x f : Str} {Ca : Addr} (v : Vr X i x) (c : Cls X.K Ca) (na : NoAttr X.K Ca f) {p pos : Pos} : PE X (.Attribute (.Name x p) f pos) (tFl Ca f i) :=
  PE.imp (pe_fld v.pe rfl) fun σ H Q ⟨y, dy, fs, u, h1, h2, h3, q⟩ => ⟨.ref y, h1, y, Ca, dy, fs, u, rfl, h2, c, na, h3, q⟩
theorem DkAt.rv {K : W.Frag} {Ca : Addr} {F H : Hp} {d : Dk} (h : DkAt K Ca F H d) : RV K F H (.ref d.s) (.dat (.list d.st)) := by
  obtain ⟨dy, vg, vs, h1, h2, h3, h4, h5, h6⟩ := h
  exact .inr ⟨d.s, .lst vs, rfl, h6, h3, h4⟩
theorem DkAt.steps {K : W.Frag} {Ca : Addr} {F H : Hp} {d : Dk} {σ : L2.St} {i : Nat} {Q : VK} (h : DkAt K Ca F H d) (hi : σ[i]? = some (some (.ref d.y))) (q : Q (.ref d.s) H) : tFl Ca "steps" i σ H Q := by
  obtain ⟨dy, vg, vs, h1, _⟩ := h
  exact ⟨d.y, dy, _, _, hi, h1, DF_s, q⟩
theorem DkAt.kept {K : W.Frag} {Ca : Addr} {F H : Hp} {d : Dk} {σ : L2.St} {i : Nat} {Q : VK} (h : DkAt K Ca F H d) (hi : σ[i]? = some (some (.ref d.y))) (q : Q (.int 0) H) : tFl Ca "kept" i σ H Q := by
  obtain ⟨dy, vg, vs, h1, _⟩ := h
  exact ⟨d.y, dy, _, _, hi, h1, DF_k, q⟩
theorem DkAt.graph {K : W.Frag} {Ca : Addr} {F H : Hp} {d : Dk} {σ : L2.St} {i : Nat} {Q : VK} (h : DkAt K Ca F H d) (hi : σ[i]? = some (some (.ref d.y))) (q : ∀ w, Dq K F w d.g → Q w H) : tFl Ca "graph" i σ H Q := by
  obtain ⟨dy, vg, vs, h1, h2, _⟩ := h
  exact ⟨d.y, dy, _, _, hi, h1, DF_g, q _ h2⟩
/-- x.steps[-1] -/
def tLast (K : W.Frag) (Ca : Addr) (i : Nat) : TE := fun σ H Q => ∃ F d v, σ[i]? = some (some (.ref d.y)) ∧ Same F H ∧ DkAt K Ca F H d ∧ d.st.getLast? = some v ∧ ∀ w, Dq K F w v → Q w H
theorem atI_lst {xs : List D} {v : D} (h : xs.getLast? = some v) : L2.atI xs (-1) = some v := by
  have hne : xs ≠ [] := fun z => by subst z; cases h
  have hl : 0 < xs.length := List.length_pos_iff.mpr hne
  rw [List.getLast?_eq_getElem?] at h
  unfold L2.atI L2.ixN
  rw [if_neg (by decide), if_pos (by omega), Option.bind_some]
  have : (-1 + (xs.length : Int)).toNat = xs.length - 1 := by omega
  rw [this]; exact h
theorem Vr.last {X : Cx} {i : Nat} {x : Str} {Ca : Addr} (v : Vr X i x) (c : DkC X.K Ca) (hu : X.A.units + 1 < cLine) {p p2 p3 p4 p5 : Pos} {j : Nat} : PE X (.Subscript (.Attribute (.Name x p) "steps" p2) (.UnaryOp .USub (.Constant (.int 1) j p3) p4) p5) (tLast X.K Ca i) :=
  PE.imp (pe_ix (ix_ok hu) (v.fld c.cls c.ns) (pe_un un_neg pe_int) (plain_ix rfl)) fun σ H Q ⟨F, d, u, h1, sF, h2, h3, q⟩ => h2.steps h1 ⟨1, rfl, F, .dat (.list d.st), .int (-1), u, sF, h2.rv, .inl (.int _), atI_lst h3, q⟩
end RL
/-! RLDk2: Desk.__init__ and Desk.undo keep their promises. -/
namespace RL
open PySem PySem.Spec PyProof.Rows L2
def vrB (N : List Str) (sc : Scope) (i : Nat) (x : Str) : Bool := decide (N[i]? = some x) && visB sc x && nmB x
theorem vrB_ok {X : Cx} {N : List Str} {sc : Scope} {i : Nat} {x : Str} (hn : X.N = N) (hs : X.env.scope = sc) (h : vrB N sc i x = true) : Vr X i x := by
  unfold vrB at h
  simp only [Bool.and_eq_true, decide_eq_true_eq] at h
  obtain ⟨n1, n2, _⟩ := nmB_ok h.2
  exact ⟨by rw [hn]; exact h.1.1, by rw [hs]; exact visB_ok h.1.2, n1, n2⟩
def chkInit (N ps : List Str) (sc : Scope) : List Stmt → Bool
  | [.Expr (.Call (.Name cl _) [.Name g1 _, .Name l1 _] [] _) _, .Assign [.Attribute (.Name s1 _) f1 _] (.Name g2 _) _, .Assign [.Attribute (.Name s2 _) f2 _] (.List [.Name l2 _] _) _, .Assign [.Attribute (.Name s3 _) f3 _] (.Constant (.int z) _ _) _] =>
      decide (N.length = 3) && decide (ps.length = 3) && decide (cl = ("check_labels" : Str)) && glB sc cl && vrB N sc 1 g1 && vrB N sc 2 l1 && vrB N sc 0 s1 && vrB N sc 1 g2 && vrB N sc 0 s2 && vrB N sc 2 l2 && vrB N sc 0 s3 && decide (f1 = ("graph" : Str)) && decide (f2 = ("steps" : Str)) && decide (f3 = ("kept" : Str)) && decide (z = 0)
  | _ => false
theorem start3 {N : List Str} (h : N.length = 3) {a b c : V} : L2.start N [a, b, c] = [some a, some b, some c] := by
  unfold L2.start
  rw [h]; rfl
theorem start1 {N : List Str} (h : N.length = 1) {a : V} : L2.start N [a] = [some a] := by
  unfold L2.start
  rw [h]; rfl
theorem putF1 {vg : V} : putF ("graph" : Str) vg [] = [(("graph" : Str), vg)] := rfl
theorem putF2 {vg x : V} : putF ("steps" : Str) x [(("graph" : Str), vg)] = [(("graph" : Str), vg), (("steps" : Str), x)] := by
  rw [putF, if_neg (by decide)]; rfl
theorem putF3 {vg : V} {s : Addr} : putF ("kept" : Str) (V.int 0) [(("graph" : Str), vg), (("steps" : Str), V.ref s)] = DF vg s := by
  rw [putF, if_neg (by decide), putF, if_neg (by decide)]; rfl
section
variable {T : Tab} {n : Nat} {C : Cfg} {P : Program} {w : World} {K : W.Frag} {mg : Str → Option Value} {base : Heap} {Ca a : Addr} {qual nm : Str} {fd : FuncData} {ps N : List Str} {params : Arguments} {body : List Stmt} {scope : Scope}
theorem dk_init (wd : Wd T n C P w K mg base) (h13 : T.fns[13]? = some (some ("check_labels" : Str))) (dc : DkC K Ca) (FD : FunD K nm qual params body scope [] [] a fd) (S : FnScope N ps scope) (hc : chkInit N ps scope body = true) :
    FnOk P w K mg base (L2.CX P w) (n + 9) a fd ps (spI T K mg Ca (C.ck 13)) := by
  unfold chkInit at hc
  split at hc
  · rename_i cl p1 g1 p2 l1 p3 p4 p5 s1 p6 f1 p7 g2 p8 p9 s2 p10 f2 p11 l2 p12 p13 p14 s3 p15 f3 p16 z jj p17 p18
    simp only [Bool.and_eq_true, decide_eq_true_eq] at hc
    obtain ⟨⟨⟨⟨⟨⟨⟨⟨⟨⟨⟨⟨⟨⟨hN, hps⟩, rfl⟩, gl⟩, v1⟩, v2⟩, v3⟩, v4⟩, v5⟩, v6⟩, v7⟩, rfl⟩, rfl⟩, rfl⟩, rfl⟩ := hc
    refine FD.ok (k := n + 8) S (fun vs H Q E hsp => ?_) fun cdv A outer s H vs Q E hr hsp => ?_
    · obtain ⟨F, y, dy, u1, u2, d1, d2, e, _⟩ := hsp
      rw [e, hps]; rfl
    obtain ⟨F, y, dy, u1, u2, d1, d2, e, sF, fy, hy, q1, q2, hq⟩ := hsp
    subst e
    rw [start3 hN]
    have tk : L2.Takes (cxOf (L2.CX P w) P w K mg base N qual scope a cdv A outer s H E) (fun cls d _ H => E cls d H) := takes_of rfl rfl rfl rfl
    obtain ⟨fa, fd2, ps2, m1, m2, m3, m4, m5⟩ := wd.fns 13 _ h13
    have PC := pe_callS (X := cxOf (L2.CX P w) P w K mg base N qual scope a cdv A outer s H E) (p := p1) (pos := p4) (E := WE (fun cls d _ H => E cls d H)) m4 hr (glB_ok rfl gl) m1 m2 m3 (fun σ => passAt tk σ) (pa_cons ((vrB_ok rfl rfl v1).pe (p := p2)) (pa_cons ((vrB_ok rfl rfl v2).pe (p := p3)) pa_nil rfl) rfl) (by decide) rfl rfl
    have S1 := ps_fld (X := cxOf (L2.CX P w) P w K mg base N qual scope a cdv A outer s H E) (f := "graph") (pos' := p7) (pos := p9) ((vrB_ok rfl rfl v3).pe (p := p6)) ((vrB_ok rfl rfl v4).pe (p := p8)) rfl
    have S2 := ps_fld (X := cxOf (L2.CX P w) P w K mg base N qual scope a cdv A outer s H E) (f := "steps") (pos' := p11) (pos := p14) ((vrB_ok rfl rfl v5).pe (p := p10)) (pe_lst (pos := p13) (pa_cons ((vrB_ok rfl rfl v6).pe (p := p12)) pa_nil rfl)) rfl
    have S3 := ps_fld (X := cxOf (L2.CX P w) P w K mg base N qual scope a cdv A outer s H E) (f := "kept") (pos' := p16) (pos := p18) ((vrB_ok rfl rfl v7).pe (p := p15)) (pe_int (i := 0) (j := jj) (pos := p17)) rfl
    refine ⟨_, pss_cons (ps_expr PC rfl) (pss_cons S1 (pss_cons S2 (pss_one S3))), ?_⟩
    refine ⟨u1, rfl, u2, rfl, F, [d1, d2], sF, .cons q1 (.cons q2 .nil), ?_, ?_⟩
    · refine m5 [d1, d2] fun z => ?_
      rw [z] at hq; exact hq
    · cases hck : C.ck 13 [d1, d2] with
      | bad => rw [hck] at hq; exact hq
      | exc c p => rw [hck] at hq; exact fun F' H' cls d e xr => hq F' H' cls d e xr
      | ok v =>
        rw [hck] at hq
        intro x F' H1 e _
        have hy1 := e.hh _ _ hy
        refine ⟨u1, rfl, .ref y, rfl, y, Ca, dy, [], rfl, hy1, dc.cls, dc.ng, by decide, ?_⟩
        refine ⟨u2, rfl, by rw [sizeLine_eq]; show 1 ≤ 16777216; decide, fun s hs => ?_⟩
        have hys : y ≠ s := fun z => by rw [← z, upd_same] at hs; cases hs
        refine ⟨.ref y, rfl, y, Ca, dy, putF "graph" u1 [], rfl, by rw [upd_ne hys, upd_same], dc.cls, dc.ns, by show 1 < 1000; decide, ?_⟩
        refine ⟨.ref y, rfl, y, Ca, dy, putF "steps" (.ref s) (putF "graph" u1 []), rfl, upd_same, dc.cls, dc.nk, by rw [putF1, putF2]; show 2 < 1000; decide, ?_⟩
        refine hq F' H1 _ s e ?_ ?_ ?_ fun b hb1 hb2 => ?_
        · rw [upd_ne (fun z => hys z.symm)] at hs; exact hs
        · rw [upd_same, putF1, putF2, putF3]
        · rw [upd_ne (fun z => hys z.symm), upd_ne (fun z => hys z.symm), upd_same]
        · rw [upd_ne hb1, upd_ne hb1, upd_ne hb2, upd_ne hb1]
  · exact no hc
def chkUndo (T : Tab) (N ps : List Str) (sc : Scope) : List Stmt → Bool
  | [.If (.Compare (.BinOp (.Call (.Name ln _) [.Attribute (.Name s1 _) f1 _] [] _) .Sub (.Constant (.int z1) _ _) _) [.LtE] [.Attribute (.Name s2 _) f2 _] _) [.Raise (some (.Call (.Name cx _) [.Constant (.str _) _ _] [] _)) none _] [] _,
     .Expr (.Call (.Attribute (.Attribute (.Name s3 _) f3 _) pp ap) [] [] cp) _, .Return (some (.Subscript (.Attribute (.Name s4 _) f4 _) (.UnaryOp .USub (.Constant (.int z2) _ _) _) _)) _] =>
      decide (N.length = 1) && decide (ps.length = 1) && decide (ln = ("len" : Str)) && glB sc ln && decide (T.cls[15]? = some (some cx)) && glB sc cx && nmB cx && vrB N sc 0 s1 && vrB N sc 0 s2 && vrB N sc 0 s3 && vrB N sc 0 s4
        && decide (f1 = ("steps" : Str)) && decide (f2 = ("kept" : Str)) && decide (f3 = ("steps" : Str)) && decide (f4 = ("steps" : Str)) && decide (pp = ("pop" : Str)) && decide (z1 = 1) && decide (z2 = 1) && lineB ap cp
  | _ => false
theorem dk_undo (wd : Wd T n C P w K mg base) (dc : DkC K Ca) (FD : FunD K nm qual params body scope [] [] a fd) (S : FnScope N ps scope) (hc : chkUndo T N ps scope body = true) :
    FnOk P w K mg base (L2.CX P w) (n + 9) a fd ps (spU T K mg Ca) := by
  unfold chkUndo at hc
  split at hc
  · rename_i ln p1 s1 p2 f1 p3 p4 z1 j1 p5 p6 s2 p7 f2 p8 p9 cx p10 m j2 p11 p12 p13 p14 s3 p15 f3 p16 pp ap cp p17 s4 p18 f4 p19 z2 j3 p20 p21 p22 p23
    simp only [Bool.and_eq_true, decide_eq_true_eq] at hc
    obtain ⟨⟨⟨⟨⟨⟨⟨⟨⟨⟨⟨⟨⟨⟨⟨⟨⟨⟨hN, hps⟩, rfl⟩, gl⟩, hcx⟩, gcx⟩, ncx⟩, v1⟩, v2⟩, v3⟩, v4⟩, rfl⟩, rfl⟩, rfl⟩, rfl⟩, rfl⟩, rfl⟩, rfl⟩, hl⟩ := hc
    refine FD.ok (k := n + 8) S (fun vs H Q E hsp => ?_) fun cdv A outer s H vs Q E hr hsp => ?_
    · obtain ⟨F, d, e, _⟩ := hsp
      rw [e, hps]; rfl
    obtain ⟨F, d, e, sF, hd, hq⟩ := hsp
    subst e
    rw [start1 hN]
    have tk : L2.Takes (cxOf (L2.CX P w) P w K mg base N qual scope a cdv A outer s H E) (fun cls d _ H => E cls d H) := takes_of rfl rfl rfl rfl
    obtain ⟨ax, mx, kx⟩ := wd.cls 15 cx hcx
    obtain ⟨n1, _, _⟩ := nmB_ok ncx
    have hu : (cxOf (L2.CX P w) P w K mg base N qual scope a cdv A outer s H E).A.units + 65 < cLine := by have := hr.un; show (A.deeper _).units + 65 < cLine; omega
    have P1 : PE (cxOf (L2.CX P w) P w K mg base N qual scope a cdv A outer s H E) (.Call (.Name "len" p1) [.Attribute (.Name s1 p2) "steps" p3] [] p4) _ := pe_callB call_lenG (glB_ok rfl gl) (wd.blt _ (by simp [bltNames])) (by decide +kernel) (pa_cons ((vrB_ok rfl rfl v1).fld dc.cls dc.ns (p := p2) (pos := p3)) pa_nil rfl) (by decide) (by decide) rfl
    have P2 := pe_op (X := cxOf (L2.CX P w) P w K mg base N qual scope a cdv A outer s H E) (pos := p6) (op_bin .sub) P1 (pe_int (i := 1) (j := j1) (pos := p5))
    have PT1 := pt_cmpR (X := cxOf (L2.CX P w) P w K mg base N qual scope a cdv A outer s H E) (pos := p9) (op_cmp hu .le) P2 ((vrB_ok rfl rfl v2).fld dc.cls dc.nk (p := p7) (pos := p8)) rfl
    have PR := L2.ps_raise (X := cxOf (L2.CX P w) P w K mg base N qual scope a cdv A outer s H E) (pos := p13) rfl tk (L2.pmk_own (m := m) (j := j2) (p := p10) (p2 := p11) (pos := p12) PySem.F.excBase_ValueError (kx.raw (by decide)) mx kx.kp (raises_cls kx) (glB_ok rfl gcx) n1)
    have PP := pe_bm0 (X := cxOf (L2.CX P w) P w K mg base N qual scope a cdv A outer s H E) (cpos := cp) (apos := ap) PySem.F.plainAttrs_list PySem.F.slot_list_pop PySem.F.type_list_pop mt_pop ((vrB_ok rfl rfl v3).fld dc.cls dc.ns (p := p15) (pos := p16)) rfl hl
    have PL := (vrB_ok (X := cxOf (L2.CX P w) P w K mg base N qual scope a cdv A outer s H E) rfl rfl v4).last dc (by omega) (p := p18) (p2 := p19) (p3 := p20) (p4 := p21) (p5 := p22) (j := j3)
    refine ⟨_, pss_cons (ps_if (pos := p14) PT1 (pss_one PR) pss_nil) (pss_cons (ps_expr PP rfl) (pss_one (ps_ret (pos := p23) PL))), ?_⟩
    refine hd.steps rfl ⟨.ref d.s, F, .dat (.list d.st), .int (d.st.length : Int), rfl, sF, hd.rv, rfl, fun x1 F1 H1 e1 q1 => ?_⟩
    refine ⟨F1, .int (d.st.length : Int), .int 1, .int ((d.st.length : Int) - 1), e1.sub, .inl q1, .inl (.int 1), rfl, fun x2 F2 H2 e2 q2 => ?_⟩
    have hd2 := (hd.ext e1).ext e2
    have e12 := e1.trans e2
    refine hd2.kept rfl ⟨F2, .int ((d.st.length : Int) - 1), .dat (.int 0), decide ((d.st.length : Int) - 1 ≤ 0), e12.sub, .inl q2, .inl (.int 0), rfl, _, rfl, ?_⟩
    rcases hq with ⟨h1, hq⟩ | ⟨h1, v, hv, hq⟩
    · rw [decide_eq_true (by omega)]
      exact iteT (hq F2 H2 _ _ e12 ⟨cx, ax, hcx, mx, rfl, rfl⟩)
    · rw [decide_eq_false (by omega)]
      refine iteF ?_
      obtain ⟨dy, vg, vs, g1, g2, g3, g4, g5, g6⟩ := id hd2
      have hlen := g4.length
      show tFl Ca ("steps" : Str) 0 [some (V.ref d.y)] H2 (fun x H1 => tyV K "list" x H1 ∧ rPop x [] H1 (fun _ H1 => tLast K Ca 0 [some (V.ref d.y)] H1 Q))
      refine hd2.steps rfl ⟨.inl ⟨rfl, vs, .inl (Rd.of g3)⟩, d.s, vs, vs[vs.length - 1]'(by omega), rfl, rfl, g3, List.getElem?_eq_getElem _, ?_⟩
      have hd3 := hd2.put g4.dropLast
      refine ⟨F2, ⟨d.y, d.s, d.g, d.st.dropLast⟩, v, rfl, fun b u q => ?_, hd3, hv, fun x hx => hq F2 H2 x _ e12 g4.dropLast hx⟩
      rw [upd_ne (ne_of_none q g6)]
      exact e12.sub b u q
  · exact no hc
end
end RL
/-! RLLev: every def keeps what the evaluator says of it, at every level. -/
namespace RL
open PySem PySem.Spec PyProof.Rows L2

/-! ### the class with a field -/
def chkPe (N ps : List Str) (sc : Scope) : List Stmt → Bool
  | [.Expr (.Call (.Attribute (.Name L _) i1 p2) [.Name s1 _, .Constant (.str _) _ _] [] pos) _, .Assign [.Attribute (.Name s2 _) f _] (.Name l _) _] =>
      decide (i1 = ("__init__" : Str)) && decide (f = ("line" : Str)) && decide (L = ("LabelError" : Str)) && decide (N = [s1, l]) && decide (ps.length = 2) && decide (s2 = s1) && visB sc s1 && visB sc l && nmB s1 && nmB l && glB sc L && lineB p2 pos
  | _ => false
theorem pe_lbinit {X : Cx} {b : Addr} {L : Str} {e : Expr} {es : List Expr} {ta : TA} {p1 p2 pos : Pos} {pl : Sem Bool} (hg : Gl X L) (hm : X.mg L = some (.ref b)) (hdb : (L == ("__debug__" : Str)) = false) (rd : W.readsIn X.K b (.type "type") = true) (ga : W.specialIn X.K (.ref b) "__getattribute__" = some (some (.builtin "type.__getattribute__")))
    (fc : W.findCls X.K (.ref b) (.type "type") "__init__" = some (.val (.builtin "ValueError.__init__"))) (ha : PA X (e :: es) ta)
    (hc : eval (.Call (.Attribute (.Name L p1) "__init__" p2) (e :: es) [] pos) X.env = (do
      let ov ← eval (.Name L p1) X.env
      standAt p2.atName
      let (f, first) ← holding [ov] (getMethod ov "__init__" pl)
      callWith pos f first (backTo pos (starEach (e :: es) X.env)) (backToKw pos (keywordEach [] X.env))))
    (he : starEach (e :: es) X.env = (false, eval e X.env) :: starEach es X.env) (hpl : (backTo pos (starEach es X.env)).any (·.1) = false) :
    PE X (.Call (.Attribute (.Name L p1) "__init__" p2) (e :: es) [] pos) (tVeI X.K ta) := by
  refine ⟨fun pins s σ H Q I h => ?_⟩
  refine PySem.W.methodCall_KW (ld_glob I hg hm ?_ hdb) hc
  refine PySem.W.method_cls I.kIn ga (PySem.W.cls_value I.kIn rd fc (by decide +kernel) ?_)
  show wpAny _ _ (callWith pos (Value.builtin "ValueError.__init__") [] (backTo pos (starEach (e :: es) X.env)) []) _ _ _
  refine PyProof.Rows.callWith_method1 (thn (ha.run pos pins _ σ H _ (I.tok _) h) fun us s1 ⟨vs, H1, I1, r1, a, C, ws, ev, hl, T, ea, q⟩ => ?_) he hpl
  subst ev
  cases r1 with
  | @cons _ u0 _ ur ra rw' =>
    obtain rfl : u0 = Value.ref a := ra
    have hlen : ur.length ≤ sizeLine := by
      rw [← Paired.length rw', sizeLine_eq]
      omega
    exact oinit_ok T I1 ea hlen fun s' J => ⟨.non, H1, J, rfl, q⟩
theorem init_pe {P : Program} {w : World} {K : W.Frag} {mg : Str → Option Value} {base : Heap} {a b fI : Addr} {qual nm : Str} {fd : FuncData} {ps N : List Str} {params : Arguments} {body : List Stmt} {scope : Scope} (M : PeC K mg a b fI) (FD : FunD K nm qual params body scope [] [] fI fd) (S : FnScope N ps scope)
    (hc : chkPe N ps scope body = true) : FnOk P w K mg base CX0 1 fI fd ps (spPe a) := by
  unfold chkPe at hc
  split at hc
  · rename_i L p1 i1 p2 s1 p3 m jj p4 pos q s2 p5 f p6 l p7 pos2
    simp only [Bool.and_eq_true, decide_eq_true_eq] at hc
    obtain ⟨⟨⟨⟨⟨⟨⟨⟨⟨⟨⟨rfl, rfl⟩, rfl⟩, rfl⟩, hps⟩, rfl⟩, v1⟩, v2⟩, n1⟩, n2⟩, g1⟩, hl⟩ := hc
    obtain ⟨a1, a2, _⟩ := nmB_ok n1
    obtain ⟨b1, b2, _⟩ := nmB_ok n2
    refine FD.ok (k := 0) S (fun vs H Q E ⟨a', v, e, _⟩ => by rw [e, hps]; rfl) fun cdv A outer s H vs Q E hr ⟨a', v, e, e1, hq⟩ => ?_
    subst e
    have PS1 : ∀ {p : Pos}, PE (cxOf CX0 P w K mg base [s2, l] qual scope fI cdv A outer s H E) (.Name s2 p) (tVar 0) := fun {p} => pe_var (i := 0) rfl (show L2.Vis scope s2 from visB_ok v1) a1 a2
    have PS2 : ∀ {p : Pos}, PE (cxOf CX0 P w K mg base [s2, l] qual scope fI cdv A outer s H E) (.Name l p) (tVar 1) := fun {p} => pe_var (i := 1) rfl (show L2.Vis scope l from visB_ok v2) b1 b2
    have PI := pe_lbinit (X := cxOf CX0 P w K mg base [s2, l] qual scope fI cdv A outer s H E) (L := "LabelError") (p1 := p1) (p2 := p2) (pos := pos) (glB_ok rfl g1) M.lb (by decide) M.rd M.ga M.fc (pa_cons (PS1 (p := p3)) (pa_cons (pe_str (j := jj) (pos := p4) (x := m)) pa_nil rfl) rfl) (mcall_of rfl fun ov => mcall_line rfl hl) rfl rfl
    refine ⟨_, pss_cons (ps_expr PI rfl) (pss_one (ps_ost (f := "line") (p' := p6) (PS1 (p := p5)) (PS2 (p := p7)) rfl)), ?_⟩
    refine ⟨.ref a', rfl, a', a, [.str m], rfl, by show 1 ≤ 1000; decide, M.ox, e1, ?_⟩
    exact ⟨v, rfl, .ref a', rfl, a', a, rfl, M.ox, M.no, .inl ⟨e1, fun dx hdx hne => hq dx hdx hne⟩⟩
  · exact no hc
/-- a def of the module: number f, name x -/
def DefOk (T : Tab) (Pg : Prg) (K : W.Frag) (mg : Str → Option Value) (f : Nat) (x : Str) : Prop :=
  ∃ a fd ps N fn params body scope, mg x = some (.ref a) ∧ W.keepIn K (.ref a) = true ∧ Binds K fd ps [] ∧ FunD K x x params body scope [] [] a fd ∧ FnScope N ps scope ∧ Pg.fn f = some fn ∧ fn.params = ps.length ∧ fn.slots = N.length ∧
    chkSs T N fn.body scope body = true
/-- the number of the __init__ that a class's number calls, if its form is f(None, ..): [init(None, x1, x2), ..] -/
def mkForm : List Stm → Option Nat
  | [.exp (.call g [.var 0, .var 1, .var 2]), .pass] => some g
  | _ => none
/-- the form of an __init__ that raises by its first statement -/
def initForm : List Stm → Bool
  | .exp (.call _ [.var 1, .var 2]) :: .pass :: _ => true
  | _ => false
/-- a class of the module, number f, name x -/
def MkOk (T : Tab) (Pg : Prg) (K : W.Frag) (mg : Str → Option Value) (f : Nat) (x : Str) : Prop :=
  ∃ Ca a fd ps N fn fm g params body scope qual nm, mg x = some (.ref Ca) ∧ Mk K Ca a ∧ Binds K fd ps [] ∧ FunD K nm qual params body scope [] [] a fd ∧ FnScope N ps scope ∧ Pg.fn f = some fm ∧ fm.params = 3 ∧ fm.slots = 3 ∧ mkForm fm.body = some g ∧ Pg.fn g = some fn ∧ fn.params = 3 ∧ fn.slots = 3 ∧ ps.length = 3 ∧ N.length = 3 ∧ initForm fn.body = true ∧
    chkSs T N fn.body scope body = true
/-- the class Desk of which undo() is called at once -/
def DuOk (T : Tab) (Pg : Prg) (K : W.Frag) (mg : Str → Option Value) (f : Nat) (x : Str) : Prop :=
  ∃ Ca aI fdI psI NI paI bI sI qI nI aU fdU psU NU paU bU sU qU nU, mg x = some (.ref Ca) ∧ Mk K Ca aI ∧ DkC K Ca ∧ Meth K Ca "undo" aU ∧ Binds K fdI psI [] ∧ FunD K nI qI paI bI sI [] [] aI fdI ∧ FnScope NI psI sI ∧ chkInit NI psI sI bI = true ∧ Binds K fdU psU [] ∧ FunD K nU qU paU bU sU [] [] aU fdU ∧ FnScope NU psU sU ∧ chkUndo T NU psU sU bU = true ∧
    T.fns[13]? = some (some ("check_labels" : Str)) ∧ f = 170 ∧ Pg.fn 170 = some ⟨2, 2, [.ret (.call 171 [.var 0, .var 1])]⟩ ∧ Pg.fn 171 = some ⟨2, 2, [.exp (.call 13 [.var 0, .var 1]), .raise 15]⟩
/-- what the module gives, but for the defs' promises -/
structure Mdl (T : Tab) (Pg : Prg) (K : W.Frag) (mg : Str → Option Value) : Prop where
  fns : ∀ (f : Nat) x, T.fns[f]? = some (some x) → DefOk T Pg K mg f x
  glo : ∀ (g : Nat) x, T.glo[g]? = some (some x) → ∃ u v, mg x = some u ∧ RelV v u ∧ ∀ d, Pg.gv g = some d → ∀ F, Dq K F v d
  blt : ∀ x ∈ bltNames, mg x = none
  cls : ∀ (c : Nat) x, T.cls[c]? = some (some x) → ∃ a, mg x = some (.ref a) ∧ ClsK K a (decide (c = 1))
  sub : ∀ (c d : Nat) x y a b, T.cls[c]? = some (some x) → T.cls[d]? = some (some y) → mg x = some (.ref a) → mg y = some (.ref b) → W.exmOne K (.ref a) (.ref b) = some (Pg.sub c d) ∧ W.kitOne K (.ref a) (.ref b) = some (Pg.sub c d)
  mks : ∀ (f : Nat) x, T.mks[f]? = some (some x) → MkOk T Pg K mg f x
  pe : ∀ x, T.cls[1]? = some (some x) → ∃ a b fI fd ps N params body scope qual nm, mg x = some (.ref a) ∧ PeC K mg a b fI ∧ Binds K fd ps [] ∧ FunD K nm qual params body scope [] [] fI fd ∧ FnScope N ps scope ∧ chkPe N ps scope body = true
  s16 : ∀ (c : Nat) x, T.cls[c]? = some (some x) → Pg.sub c 16 = true
  dus : ∀ (f : Nat) x, T.dus[f]? = some (some x) → DuOk T Pg K mg f x

theorem grd_ne {b : Bool} {r : Res Vl} (h : Res.grd b r ≠ .bad) : b = true := by
  cases b with
  | true => rfl
  | false => exact absurd rfl h
section
variable {T : Tab} {Pg : Prg} {P : Program} {w : World} {K : W.Frag} {mg : Str → Option Value} {base : Heap}
theorem enter_get {fn : Fn} {ds : List D} {i : Nat} {s : Sl} (h : (enter fn ds)[i]? = some (some s)) : ∃ d, ds[i]? = some d ∧ s = .val (.dat d) := by
  unfold enter at h
  by_cases hi : i < ds.length
  · rw [List.getElem?_append_left (by simpa using hi), List.getElem?_map, List.getElem?_eq_getElem hi] at h
    cases h
    exact ⟨ds[i], List.getElem?_eq_getElem hi, rfl⟩
  · rw [List.getElem?_append_right (by simpa using Nat.le_of_not_lt hi)] at h
    rw [List.getElem?_replicate] at h
    split at h <;> cases h
/-- the slots at a def's start -/
theorem start_rel {F H : Hp} {N ps : List Str} {vs : List V} {ds : List D} {fn : Fn} (sF : Same F H) (hd : DqAll K F vs ds) (h1 : ds.length = ps.length) (h2 : fn.params = ps.length) (h3 : fn.slots = N.length) (h4 : ps.length ≤ N.length) :
    Rl K F H F (L2.start N vs) H (enter fn ds) := by
  have hl : vs.length = ds.length := hd.length
  refine ⟨⟨sF, ?_, fun i v hv => ?_, fun i v hv => ?_, fun i j v u a _ hi => ?_⟩, Ext.refl sF, fun i v a hv => ?_⟩
  · unfold L2.start enter
    simp only [List.length_append, List.length_map, List.length_replicate]
    omega
  · obtain ⟨d, e1, e2⟩ := enter_get hv
    cases e2
    obtain ⟨x, e3, e4⟩ := hd.get e1
    refine ⟨x, ?_, e4⟩
    unfold L2.start
    have hi : i < vs.length := (List.getElem?_eq_some_iff.mp e3).1
    rw [List.getElem?_append_left (by simpa using hi), List.getElem?_map, e3]
    rfl
  · obtain ⟨d, e1, e2⟩ := enter_get hv
    cases e2
  · obtain ⟨d, e1, e2⟩ := enter_get hi
    cases e2
  · obtain ⟨d, e1, e2⟩ := enter_get hv
    cases e2
/-- a def at the next level -/
theorem fn_step {n f : Nat} {x : Str} {a : Addr} {fd : FuncData} {ps N : List Str} {fn : Fn} {params : Arguments} {body : List Stmt} {scope : Scope} (wd : Wd T n ⟨callN Pg n, Pg.gv, Pg.sub⟩ P w K mg base) (FD : FunD K x x params body scope [] [] a fd)
    (S : FnScope N ps scope) (hf : Pg.fn f = some fn) (hp : fn.params = ps.length) (hs : fn.slots = N.length) (hc : chkSs T N fn.body scope body = true) : FnOk P w K mg base (L2.CX P w) (n + 1 + 8) a fd ps (spF T K mg ps.length (callN Pg (n + 1) f)) := by
  have hpl : ps.length ≤ N.length := by have := congrArg List.length S.pre; rw [List.length_take] at this; omega
  refine FnOk.mono (j := n + 8 + 1) ?_ (by omega)
  refine FD.ok (k := n + 8) S (fun vs H Q E ⟨F, ds, _, hd, hl, _⟩ => by rw [hd.length]; exact hl) fun cdv A outer s H vs Q E hr ⟨F, ds, sF, hd, hl, hck⟩ => ?_
  have tk : L2.Takes (cxOf (L2.CX P w) P w K mg base N x scope a cdv A outer s H E) (fun cls d _ H => E cls d H) := takes_of rfl rfl rfl rfl
  have po := passes_of (X := cxOf (L2.CX P w) P w K mg base N x scope a cdv A outer s H E) rfl
  refine ⟨_, soundSs fn.body scope (cxOf (L2.CX P w) P w K mg base N x scope a cdv A outer s H E) (fun cls d _ H => E cls d H) body ⟨⟨rfl, S.nd, rfl, rfl, hr, tk, wd⟩, fun _ => rfl, rfl, rfl, po, S.kind⟩ hc F H, F, enter fn ds, start_rel sF hd hl hp hs hpl, ?_⟩
  have e : callN Pg (n + 1) f ds = outcome (execs ⟨callN Pg n, Pg.gv, Pg.sub⟩ (enter fn ds) fn.body) := by
    show (match Pg.fn f with
      | some fn => Res.grd (decide (ds.length = fn.params)) (outcome (execs ⟨callN Pg n, Pg.gv, Pg.sub⟩ (enter fn ds) fn.body))
      | none => .bad) = _
    rw [hf]
    show Res.grd (decide (ds.length = fn.params)) _ = _
    rw [decide_eq_true (show ds.length = fn.params by omega)]
    rfl
  rw [e] at hck
  cases q : execs ⟨callN Pg n, Pg.gv, Pg.sub⟩ (enter fn ds) fn.body with
  | nx ρ' => rw [q] at hck; exact fun σ' F' H' _ rl => hck .non F' H' rl.ext .non
  | rt v => rw [q] at hck; exact fun y F' H' _ ex fr => hck y F' H' ex fr
  | ex c p ρ' => rw [q] at hck; exact fun σ' F' H' cls d _ rl xr => hck F' H' cls d rl.ext xr
  | bad => rw [q] at hck; exact hck
theorem callN_len {n f : Nat} {fn : Fn} {ds : List D} (hf : Pg.fn f = some fn) (h : callN Pg n f ds ≠ .bad) : ds.length = fn.params := by
  cases n with
  | zero => exact absurd rfl h
  | succ n =>
    have e : callN Pg (n + 1) f ds = Res.grd (decide (ds.length = fn.params)) (outcome (execs ⟨callN Pg n, Pg.gv, Pg.sub⟩ (enter fn ds) fn.body)) := by
      show (match Pg.fn f with
        | some fn => Res.grd (decide (ds.length = fn.params)) (outcome (execs ⟨callN Pg n, Pg.gv, Pg.sub⟩ (enter fn ds) fn.body))
        | none => .bad) = _
      rw [hf]
    rw [e] at h
    exact of_decide_eq_true (grd_ne h)
theorem init_rel {F H : Hp} {N : List Str} {y v1 v2 : V} {d1 d2 : D} (sF : Same F H) (hN : N.length = 3) (q1 : Dq K F v1 d1) (q2 : Dq K F v2 d2) : Rl K F H F (L2.start N [y, v1, v2]) H [none, some (.val (.dat d1)), some (.val (.dat d2))] := by
  have hst : L2.start N [y, v1, v2] = [some y, some v1, some v2] := by
    unfold L2.start
    rw [hN]; rfl
  rw [hst]
  refine ⟨⟨sF, rfl, fun i v hv => ?_, fun i v hv => ?_, fun i j v u a _ hi => ?_⟩, Ext.refl sF, fun i v a hv => ?_⟩
  · match i, hv with
    | 0, hv => cases hv
    | 1, hv => cases hv; exact ⟨v1, rfl, q1⟩
    | 2, hv => cases hv; exact ⟨v2, rfl, q2⟩
    | i + 3, hv => cases hv
  · match i, hv with
    | 0, hv => cases hv
    | 1, hv => cases hv
    | 2, hv => cases hv
    | i + 3, hv => cases hv
  · match i, hi with
    | 0, hv => cases hv
    | 1, hv => cases hv
    | 2, hv => cases hv
    | i + 3, hv => cases hv
  · match i, hv with
    | 0, hv => cases hv
    | 1, hv => cases hv
    | 2, hv => cases hv
    | i + 3, hv => cases hv
theorem init_ev {n g : Nat} {fn : Fn} {d1 d2 : D} {c : Nat} {p : Option D} (hf : Pg.fn g = some fn) (hp : fn.params = 3) (hs : fn.slots = 3) (hform : initForm fn.body = true) (hck : callN Pg (n + 1) g [.none, d1, d2] = .exc c p) : execs ⟨callN Pg n, Pg.gv, Pg.sub⟩ [none, some (.val (.dat d1)), some (.val (.dat d2))] fn.body = .ex c p [none, some (.val (.dat d1)), some (.val (.dat d2))] := by
  have e : callN Pg (n + 1) g [.none, d1, d2] = outcome (execs ⟨callN Pg n, Pg.gv, Pg.sub⟩ [some (.val (.dat .none)), some (.val (.dat d1)), some (.val (.dat d2))] fn.body) := by
    show (match Pg.fn g with
      | some fn => Res.grd (decide ([PyData.none, d1, d2].length = fn.params)) (outcome (execs ⟨callN Pg n, Pg.gv, Pg.sub⟩ (enter fn [.none, d1, d2]) fn.body))
      | none => .bad) = _
    rw [hf]
    show Res.grd (decide ([PyData.none, d1, d2].length = fn.params)) (outcome (execs ⟨callN Pg n, Pg.gv, Pg.sub⟩ (enter fn [.none, d1, d2]) fn.body)) = _
    unfold enter
    rw [hp, hs]
    rfl
  rw [e] at hck
  obtain ⟨h, rest, eb⟩ : ∃ h rest, fn.body = .exp (.call h [.var 1, .var 2]) :: .pass :: rest := by
    unfold initForm at hform
    split at hform
    · rename_i h rest q; exact ⟨h, rest, q⟩
    · exact no hform
  rw [eb] at hck ⊢
  have e1 : ∀ x0, execs ⟨callN Pg n, Pg.gv, Pg.sub⟩ [x0, some (.val (.dat d1)), some (.val (.dat d2))] (.exp (.call h [.var 1, .var 2]) :: .pass :: rest) = (SR.of [x0, some (.val (.dat d1)), some (.val (.dat d2))] ((callN Pg n h [d1, d2]).bind fun v => .ok (false, v)) fun _ => .nx [x0, some (.val (.dat d1)), some (.val (.dat d2))]).seq fun r => execs ⟨callN Pg n, Pg.gv, Pg.sub⟩ r (.pass :: rest) := fun x0 => rfl
  rw [e1] at hck ⊢
  cases q : callN Pg n h [d1, d2] with
  | ok v => rw [q] at hck; cases hck
  | bad => rw [q] at hck; cases hck
  | exc c' p' => rw [q] at hck; cases hck; rfl
theorem two_of {F : Hp} {vs : List V} {ds : List D} (hd : DqAll K F vs ds) (hl : ds.length + 1 = 3) : ∃ v1 v2 d1 d2, vs = [v1, v2] ∧ ds = [d1, d2] ∧ Dq K F v1 d1 ∧ Dq K F v2 d2 := by
  match ds, hl, hd with
  | [d1, d2], _, .cons q1 (.cons q2 .nil) => exact ⟨_, _, d1, d2, rfl, rfl, q1, q2⟩
/-- an __init__ that raises, at the next level -/
theorem init_step {n g : Nat} {qual nm : Str} {a : Addr} {fd : FuncData} {ps N : List Str} {fn : Fn} {params : Arguments} {body : List Stmt} {scope : Scope} (wd : Wd T n ⟨callN Pg n, Pg.gv, Pg.sub⟩ P w K mg base) (FD : FunD K nm qual params body scope [] [] a fd)
    (S : FnScope N ps scope) (hf : Pg.fn g = some fn) (hp : fn.params = 3) (hs : fn.slots = 3) (hps : ps.length = 3) (hN : N.length = 3) (hform : initForm fn.body = true) (hc : chkSs T N fn.body scope body = true) : FnOk P w K mg base (L2.CX P w) (n + 1 + 8) a fd ps (spM T K mg ps.length (callN Pg (n + 1) g)) := by
  refine FnOk.mono (j := n + 8 + 1) ?_ (by omega)
  refine FD.ok (k := n + 8) S (fun vs H Q E hsp => ?_) fun cdv A outer s H vs Q E hr hsp => ?_
  · obtain ⟨F, y, vs', ds, c, p, e0, sF, hd, hl, _⟩ := hsp
    rw [e0, List.length_cons, hd.length]; exact hl
  obtain ⟨F, y, vs', ds, c, p, e0, sF, hd, hl, hck, hE⟩ := hsp
  obtain ⟨v1, v2, d1, d2, rfl, rfl, q1, q2⟩ := two_of hd (by rw [hps] at hl; exact hl)
  subst e0
  have q0 := init_ev hf hp hs hform hck
  have rl0 : Rl K F H F (L2.start N [y, v1, v2]) H [none, some (.val (.dat d1)), some (.val (.dat d2))] := init_rel sF hN q1 q2
  have tk : L2.Takes (cxOf (L2.CX P w) P w K mg base N qual scope a cdv A outer s H E) (fun cls d _ H => E cls d H) := takes_of rfl rfl rfl rfl
  have po := passes_of (X := cxOf (L2.CX P w) P w K mg base N qual scope a cdv A outer s H E) rfl
  have SS0 := soundSs (C := ⟨callN Pg n, Pg.gv, Pg.sub⟩) fn.body scope (cxOf (L2.CX P w) P w K mg base N qual scope a cdv A outer s H E) (fun cls d _ H => E cls d H) body ⟨⟨rfl, S.nd, rfl, rfl, hr, tk, wd⟩, fun _ => rfl, rfl, rfl, po, S.kind⟩ hc F H
  refine ⟨_, SS0, F, [none, some (.val (.dat d1)), some (.val (.dat d2))], rl0, ?_⟩
  cases q : execs ⟨callN Pg n, Pg.gv, Pg.sub⟩ [none, some (.val (.dat d1)), some (.val (.dat d2))] fn.body with
  | nx ρ' => rw [q0] at q; cases q
  | rt v => rw [q0] at q; cases q
  | bad => rw [q0] at q; cases q
  | ex c' p' ρ' =>
    rw [q0] at q
    cases q
    exact fun σ' F' H' cls d _ rl xr => hE F' H' cls d rl.ext xr
/-- a class at the next level; its __init__ stands one level lower -/
theorem mk_step {n : Nat} (M : Mdl T Pg K mg) (ih : ∀ n', n = n' + 1 → Wd T n' ⟨callN Pg n', Pg.gv, Pg.sub⟩ P w K mg base) (f : Nat) (x : Str) (h : T.mks[f]? = some (some x)) : ∃ Ca, mg x = some (.ref Ca) ∧ W.keepIn K (.ref Ca) = true ∧ (∀ ds v, callN Pg (n + 1) f ds ≠ .ok v) ∧ ((∀ ds, callN Pg (n + 1) f ds = .bad) ∨ ∃ j a fd ps ck', n + 1 = j + 1 ∧ Mk K Ca a ∧ Binds K fd ps [] ∧ FnOk P w K mg base (L2.CX P w) (j + 8) a fd ps (spM T K mg ps.length ck') ∧ ∀ ds c p, callN Pg (n + 1) f ds = .exc c p → ck' ds = .exc c p ∧ ds.length = ps.length) := by
  obtain ⟨Ca, a, fd, ps, N, fn, fm, g, params, body, scope, qual, nm, h1, h2, h3, h4, h5, h6, h7, h8, h9, h10, h11, h12, h13, h14, h15, h16⟩ := M.mks f x h
  have eb : fm.body = [.exp (.call g [.var 0, .var 1, .var 2]), .pass] := by
    unfold mkForm at h9
    split at h9
    · rename_i q; cases h9; exact q
    · cases h9
  have ev3 : ∀ ds, callN Pg (n + 1) f ds = Res.grd (decide (ds.length = 3)) (outcome (execs ⟨callN Pg n, Pg.gv, Pg.sub⟩ (enter fm ds) [.exp (.call g [.var 0, .var 1, .var 2]), .pass])) := fun ds => by
    show (match Pg.fn f with
      | some fn => Res.grd (decide (ds.length = fn.params)) (outcome (execs ⟨callN Pg n, Pg.gv, Pg.sub⟩ (enter fn ds) fn.body))
      | none => .bad) = _
    rw [h6]
    show Res.grd (decide (ds.length = fm.params)) (outcome (execs ⟨callN Pg n, Pg.gv, Pg.sub⟩ (enter fm ds) fm.body)) = _
    rw [h7, eb]
  have ev : ∀ ds r, callN Pg (n + 1) f ds = r → r = .bad ∨ ∃ c p, r = .exc c p ∧ callN Pg n g ds = .exc c p ∧ ds.length = 3 := fun ds r e => by
    rw [ev3] at e
    by_cases hl : ds.length = 3
    · rw [decide_eq_true hl] at e
      obtain ⟨d0, d1, d2, rfl⟩ : ∃ d0 d1 d2, ds = [d0, d1, d2] := by
        match ds, hl with
        | [d0, d1, d2], _ => exact ⟨d0, d1, d2, rfl⟩
      have en : enter fm [d0, d1, d2] = [some (.val (.dat d0)), some (.val (.dat d1)), some (.val (.dat d2))] := by
        unfold enter
        rw [h7, h8]; rfl
      rw [en] at e
      have e : outcome ((SR.of [some (.val (.dat d0)), some (.val (.dat d1)), some (.val (.dat d2))] ((callN Pg n g [d0, d1, d2]).bind fun v => .ok (false, v)) fun _ => .nx [some (.val (.dat d0)), some (.val (.dat d1)), some (.val (.dat d2))]).seq fun r => execs ⟨callN Pg n, Pg.gv, Pg.sub⟩ r [.pass]) = r := e
      cases q : callN Pg n g [d0, d1, d2] with
      | ok v => rw [q] at e; exact .inl e.symm
      | bad => rw [q] at e; exact .inl e.symm
      | exc c p => rw [q] at e; exact .inr ⟨c, p, e.symm, rfl, rfl⟩
    · rw [decide_eq_false hl] at e; exact .inl e.symm
  refine ⟨Ca, h1, h2.kp, fun ds v z => ?_, ?_⟩
  · rcases ev ds _ z with q | ⟨c, p, q, _⟩ <;> cases q
  · cases n with
    | zero =>
      refine .inl fun ds => ?_
      rcases ev ds _ rfl with q | ⟨c, p, q, q2, _⟩
      · exact q
      · cases q2
    | succ n' =>
      refine .inr ⟨n' + 1, a, fd, ps, callN Pg (n' + 1) g, rfl, h2, h3, init_step (ih n' rfl) h4 h5 h10 h11 h12 h13 h14 h15 h16, fun ds c p z => ?_⟩
      rcases ev ds _ z with q | ⟨c2, p2, q, q2, q3⟩
      · cases q
      · cases q; exact ⟨q2, by rw [h13]; exact q3⟩
theorem pe_step (M : Mdl T Pg K mg) (x : Str) (h : T.cls[1]? = some (some x)) : ∃ a b fI fd ps, mg x = some (.ref a) ∧ PeC K mg a b fI ∧ Binds K fd ps [] ∧ FnOk P w K mg base CX0 1 fI fd ps (spPe a) := by
  obtain ⟨a, b, fI, fd, ps, N, params, body, scope, qual, nm, h1, h2, h3, h4, h5, h6⟩ := M.pe x h
  exact ⟨a, b, fI, fd, ps, h1, h2, h3, init_pe h2 h4 h5 h6⟩
theorem du_call {n : Nat} {d1 d2 : D} (h : Pg.fn 170 = some ⟨2, 2, [.ret (.call 171 [.var 0, .var 1])]⟩) (h2 : Pg.fn 171 = some ⟨2, 2, [.exp (.call 13 [.var 0, .var 1]), .raise 15]⟩) : callN Pg (n + 2) 170 [d1, d2] = match callN Pg n 13 [d1, d2] with
    | .ok _ => .exc 15 none
    | .exc c p => .exc c p
    | .bad => .bad := by
  have e1 : callN Pg (n + 1) 171 [d1, d2] = match callN Pg n 13 [d1, d2] with
    | .ok _ => .exc 15 none
    | .exc c p => .exc c p
    | .bad => .bad := by
    show (match Pg.fn 171 with
      | some fn => Res.grd (decide ([d1, d2].length = fn.params)) (outcome (execs ⟨callN Pg n, Pg.gv, Pg.sub⟩ (enter fn [d1, d2]) fn.body))
      | none => .bad) = _
    rw [h2]
    show outcome ((SR.of [some (.val (.dat d1)), some (.val (.dat d2))] ((callN Pg n 13 [d1, d2]).bind fun v => (.ok (false, v) : Res (Bool × Vl))) fun _ => .nx [some (.val (.dat d1)), some (.val (.dat d2))]).seq fun r => SR.ex 15 none r) = _
    cases callN Pg n 13 [d1, d2] <;> rfl
  show (match Pg.fn 170 with
    | some fn => Res.grd (decide ([d1, d2].length = fn.params)) (outcome (execs ⟨callN Pg (n + 1), Pg.gv, Pg.sub⟩ (enter fn [d1, d2]) fn.body))
    | none => .bad) = _
  rw [h]
  show outcome ((SR.of [some (.val (.dat d1)), some (.val (.dat d2))] (((callN Pg (n + 1) 171 [d1, d2]).bind fun v => (.ok (false, v) : Res (Bool × Vl))).bind fun x => opt (frozen x) .ok) fun v => .rt v).seq fun r => .nx r) = _
  rw [e1]
  cases callN Pg n 13 [d1, d2] <;> rfl
theorem du_step {n : Nat} (M : Mdl T Pg K mg) (ih : ∀ n', n = n' + 1 → Wd T n' ⟨callN Pg n', Pg.gv, Pg.sub⟩ P w K mg base) (f : Nat) (x : Str) (h : T.dus[f]? = some (some x)) : ∃ Ca, mg x = some (.ref Ca) ∧ W.keepIn K (.ref Ca) = true ∧ ((∀ ds, callN Pg (n + 1) f ds = .bad) ∨ ∃ j aI fdI psI aU fdU psU ck, n + 1 = j + 2 ∧ Mk K Ca aI ∧ DkC K Ca ∧ Meth K Ca "undo" aU ∧ Binds K fdI psI [] ∧ Binds K fdU psU [] ∧
    FnOk P w K mg base (L2.CX P w) (j + 9) aI fdI psI (spI T K mg Ca ck) ∧ FnOk P w K mg base (L2.CX P w) (j + 9) aU fdU psU (spU T K mg Ca) ∧
    ∀ ds, callN Pg (n + 1) f ds = .bad ∨ ∃ d1 d2, ds = [d1, d2] ∧ ((∃ c p, ck [d1, d2] = .exc c p ∧ callN Pg (n + 1) f ds = .exc c p) ∨ ∃ v, ck [d1, d2] = .ok v ∧ callN Pg (n + 1) f ds = .exc 15 none)) := by
  obtain ⟨Ca, aI, fdI, psI, NI, paI, bI, sI, qI, nI, aU, fdU, psU, NU, paU, bU, sU, qU, nU, h1, h2, h3, h4, h5, h6, h7, h8, h9, h10, h11, h12, h13, rfl, h15, h16⟩ := M.dus f x h
  refine ⟨Ca, h1, h2.kp, ?_⟩
  have len : ∀ {m : Nat} {ds : List D}, ds.length ≠ 2 → callN Pg (m + 1) 170 ds = .bad := fun {m ds} hl => by
    show (match Pg.fn 170 with
      | some fn => Res.grd (decide (ds.length = fn.params)) (outcome (execs ⟨callN Pg m, Pg.gv, Pg.sub⟩ (enter fn ds) fn.body))
      | none => .bad) = _
    rw [h15]
    show Res.grd (decide (ds.length = 2)) _ = _
    rw [decide_eq_false hl]; rfl
  cases n with
  | zero =>
    refine .inl fun ds => ?_
    by_cases hl : ds.length = 2
    · obtain ⟨d1, d2, rfl⟩ : ∃ d1 d2, ds = [d1, d2] := by
        match ds, hl with
        | [d1, d2], _ => exact ⟨d1, d2, rfl⟩
      show (match Pg.fn 170 with
        | some fn => Res.grd (decide ([d1, d2].length = fn.params)) (outcome (execs ⟨callN Pg 0, Pg.gv, Pg.sub⟩ (enter fn [d1, d2]) fn.body))
        | none => .bad) = _
      rw [h15]; rfl
    · exact len hl
  | succ n' =>
    have wd := ih n' rfl
    refine .inr ⟨n', aI, fdI, psI, aU, fdU, psU, callN Pg n' 13, rfl, h2, h3, h4, h5, h9, dk_init wd h13 h3 h6 h7 h8, dk_undo wd h3 h10 h11 h12, fun ds => ?_⟩
    by_cases hl : ds.length = 2
    · obtain ⟨d1, d2, rfl⟩ : ∃ d1 d2, ds = [d1, d2] := by
        match ds, hl with
        | [d1, d2], _ => exact ⟨d1, d2, rfl⟩
      have e := du_call (n := n') (d1 := d1) (d2 := d2) h15 h16
      cases q : callN Pg n' 13 [d1, d2] with
      | ok v => rw [q] at e; exact .inr ⟨d1, d2, rfl, .inr ⟨v, q, e⟩⟩
      | exc c p => rw [q] at e; exact .inr ⟨d1, d2, rfl, .inl ⟨c, p, q, e⟩⟩
      | bad => rw [q] at e; exact .inl e
    · exact .inl (len hl)
/-- every level -/
theorem wd_all (M : Mdl T Pg K mg) : ∀ n, Wd T n ⟨callN Pg n, Pg.gv, Pg.sub⟩ P w K mg base
  | 0 => ⟨fun f x h => by
      obtain ⟨a, fd, ps, N, fn, params, body, scope, h1, h2, h3, h4, h5, h6, h7, h8, h9⟩ := M.fns f x h
      refine ⟨a, fd, ps, h1, h2, h3, ⟨fun vs H Q E ⟨F, ds, _, hd, hl, _⟩ => by rw [hd.length]; exact hl, fun A outer s H args us vs Q E _ _ _ _ ⟨F, ds, _, _, _, hck⟩ => False.elim hck⟩, fun ds hd => absurd rfl hd⟩, M.glo, M.blt, M.cls, M.sub, fun f x h => by
      obtain ⟨Ca, a, fd, ps, N, fn, fm, g, params, body, scope, qual, nm, h1, h2, _⟩ := M.mks f x h
      exact ⟨Ca, h1, h2.kp, fun ds v z => (nomatch z), .inl fun _ => rfl⟩, pe_step M, M.s16, fun f x h => by
      obtain ⟨Ca, aI, fdI, psI, NI, paI, bI, sI, qI, nI, aU, fdU, psU, NU, paU, bU, sU, qU, nU, h1, h2, _⟩ := M.dus f x h
      exact ⟨Ca, h1, h2.kp, .inl fun _ => rfl⟩⟩
  | n + 1 => ⟨fun f x h => by
      obtain ⟨a, fd, ps, N, fn, params, body, scope, h1, h2, h3, h4, h5, h6, h7, h8, h9⟩ := M.fns f x h
      exact ⟨a, fd, ps, h1, h2, h3, fn_step (wd_all M n) h4 h5 h6 h7 h8 h9, fun ds hd => by rw [callN_len (Pg := Pg) h6 hd]; exact h7⟩, M.glo, M.blt, M.cls, M.sub, fun f x h => mk_step M (fun n' hn => by subst hn; exact wd_all M n') f x h, pe_step M, M.s16, fun f x h => du_step M (fun n' hn => by subst hn; exact wd_all M n') f x h⟩
end
end RL
/-! RLFacts: the module's facts, read by one look at the heap behind the top. -/
namespace RL
open PySem PySem.Spec PyProof.Rows L2 He

mutual
/-- written data -/
def datB (K : W.Frag) : D → Value → Bool
  | .none, .none => true
  | .bool b, .bool c => b == c
  | .int i, .int j _ => decide (i = j)
  | .str x, .str y _ => decide (x = y)
  | .tuple ds, .ref a => (match K.lookup a with
    | some ⟨.type c, none, .seq its _, _⟩ => decide (c = "tuple") && (decide (its.size ≤ sizeLine) && datBs K ds its.toList)
    | _ => false)
  | _, _ => false
def datBs (K : W.Frag) : List D → List Value → Bool
  | [], [] => true
  | d :: ds, u :: us => datB K d u && datBs K ds us
  | _, _ => false
end
mutual
theorem datB_ok {K : W.Frag} : ∀ (d : D) (u : Value), datB K d u = true → ∃ v, RelV v u ∧ ∀ F, Dq K F v d
  | .none, u, h => by
    cases u <;> first | exact no h | exact ⟨.non, rfl, fun _ => .non⟩
  | .bool b, u, h => by
    cases u with
    | bool c =>
      have e : b = c := eq_of_beq h
      subst e
      exact ⟨.bl b, rfl, fun _ => .bl b⟩
    | _ => exact no h
  | .int i, u, h => by
    cases u with
    | int j t =>
      have e : i = j := of_decide_eq_true h
      subst e
      exact ⟨.int i, ⟨t, rfl⟩, fun _ => .int i⟩
    | _ => exact no h
  | .str x, u, h => by
    cases u with
    | str y t =>
      have e : x = y := of_decide_eq_true h
      subst e
      exact ⟨.str x, ⟨t, rfl⟩, fun _ => .str x⟩
    | _ => exact no h
  | .tuple ds, u, h => by
    cases u with
    | ref a =>
      have h : (match K.lookup a with
        | some ⟨.type c, none, .seq its _, _⟩ => decide (c = "tuple") && (decide (its.size ≤ sizeLine) && datBs K ds its.toList)
        | _ => false) = true := h
      cases q : K.lookup a with
      | none => rw [q] at h; cases h
      | some o =>
        obtain ⟨oc, od, dt, osl⟩ := o
        rw [q] at h
        cases oc with
        | type c =>
          cases od with
          | none =>
            cases dt with
            | seq its n =>
              obtain ⟨h1, h2⟩ := ba (show (decide (c = "tuple") && (decide (its.size ≤ sizeLine) && datBs K ds its.toList)) = true from h)
              obtain ⟨h3, h4⟩ := ba h2
              obtain ⟨vs, r, hd⟩ := datBs_ok ds its.toList h4
              exact ⟨.ref a, rfl, fun F => .tup (.inr ⟨_, its, n, q, congrArg Value.type (of_decide_eq_true h1), rfl, rfl, of_decide_eq_true h3, r⟩) (hd F)⟩
            | _ => cases h
          | some _ => cases dt <;> cases h
        | _ => cases od <;> cases dt <;> cases h
    | _ => exact no h
  | .list _, u, h => by cases u <;> exact no h
  | .dict _, u, h => by cases u <;> exact no h
theorem datBs_ok {K : W.Frag} : ∀ (ds : List D) (us : List Value), datBs K ds us = true → ∃ vs, Vals vs us ∧ ∀ F, DqAll K F vs ds
  | [], [], _ => ⟨[], .nil, fun _ => .nil⟩
  | [], _ :: _, h => no h
  | _ :: _, [], h => no h
  | d :: ds, u :: us, h => by
    obtain ⟨h1, h2⟩ := ba (show (datB K d u && datBs K ds us) = true from h)
    obtain ⟨v, r, q⟩ := datB_ok d u h1
    obtain ⟨vs, r2, q2⟩ := datBs_ok ds us h2
    exact ⟨v :: vs, .cons r r2, fun F => .cons (q F) (q2 F)⟩
end
def nsB (K : W.Frag) (x : Str) : Bool := eqO (W.nsIn K mainGlobals x) (some (some (.ref (ga K x))))
def gvB (K : W.Frag) (x : Str) (d : D) : Bool := match W.nsIn K mainGlobals x with
  | some (some u) => datB K d u
  | _ => false
def clsB (K : W.Frag) (a : Addr) (own : Bool) : Bool :=
  W.keepIn K (.ref a) && eqO (W.findIn K (.ref a) "__getattribute__") (some (some (.builtin "BaseException.__getattribute__"))) && eqO (W.findIn K (.ref a) "__getattr__") (some none) && decide (W.subIn K (.ref a) (.type "BaseException") = some true)
    && W.hasDictIn K a && eqO (W.findIn K (.ref a) "__class__") (some (some (.builtin "object.__class__"))) && eqO (W.specialIn K (.builtin "object.__class__") "__get__") (some (some (.builtin "getset_descriptor.__get__")))
    && decide (W.takesIn K (.builtin "object.__class__") = some true) && decide (W.mroIn K a (.type "object") = some true) && decide (W.typeIn K (.ref a) = some (.type "type")) && (own || W.excIn K a mroV "ValueError.__new__") && decide (W.kitOne K (.ref a) (.type "ValueError") = some true)
theorem clsB_ok {K : W.Frag} {a : Addr} {own : Bool} (h : clsB K a own = true) : ClsK K a own := by
  unfold clsB at h
  simp only [Bool.and_eq_true, decide_eq_true_eq, Bool.or_eq_true] at h
  obtain ⟨⟨⟨⟨⟨⟨⟨⟨⟨⟨⟨h1, h2⟩, h3⟩, h4⟩, h5⟩, h6⟩, h7⟩, h8⟩, h9⟩, h10⟩, h11⟩, h12⟩ := h
  exact ⟨h1, ⟨eqO_ok h2, eqO_ok h3, h4, h5, eqO_ok h6, eqO_ok h7, h8, h9⟩, h10, fun z => by rw [z] at h11; exact h11.resolve_left (by simp), h12⟩
/-- the class of exceptions with a field -/
def oexB (K : W.Frag) (C : Addr) : Bool := match K.lookup C with
  | some ⟨.type "type", _, .cls cd, sl⟩ => (match cd.mro, sl.toList with
    | .ref C' :: bm, [_, _, _, _, some (.builtin n), _] => C' == C && n == "ValueError.__new__" && !cd.hasDel && cd.hasDict && PySem.HandSPX.refsVE bm
    | _, _ => false)
  | _ => false
def oxB (K : W.Frag) (a : Addr) : Bool := oexB K a && eqO (W.findIn K (.ref a) "__setattr__") (some (some (.builtin "object.__setattr__"))) && decide (W.subIn K (.ref a) (.type "BaseException") = some true) && decide (W.typeIn K (.ref a) = some (.type "type")) && W.keepIn K (.ref a)
theorem oxB_ok {K : W.Frag} {C : Addr} (h : oxB K C = true) : OexC K C := by
  unfold oxB at h
  simp only [Bool.and_eq_true, decide_eq_true_eq] at h
  obtain ⟨⟨⟨⟨q, h2⟩, h3⟩, h4⟩, h5⟩ := h
  refine ⟨?_, eqO_ok h2, h3, h4, h5⟩
  unfold oexB at q
  split at q
  · rename_i dd cd sl ho
    split at q
    · rename_i C' bm k0 k1 k2 k3 n k5 hm hs
      simp only [Bool.and_eq_true, beq_iff_eq, Bool.not_eq_true'] at q
      obtain ⟨⟨⟨⟨rfl, rfl⟩, hdel⟩, hdi⟩, ht⟩ := q
      obtain ⟨nm, bs, mro, ns, qn, hd, sn, sub, ab, col, del⟩ := cd
      dsimp only at hm hdel hdi
      subst hm hdel hdi
      have hsl : sl = #[k0, k1, k2, k3, some (.builtin "ValueError.__new__"), k5] := by
        obtain ⟨l⟩ := sl
        simp only at hs
        rw [hs]
      subst hsl
      exact ⟨nm, qn, ns, bs, bm, sn, sub, ab, col, dd, k0, k1, k2, k3, k5, ho, ht⟩
    · cases q
  · cases q
def fcB (K : W.Frag) (b : Addr) : Bool := match W.findCls K (.ref b) (.type "type") "__init__" with
  | some (.val (.builtin n)) => n == "ValueError.__init__"
  | _ => false
theorem fcB_ok {K : W.Frag} {b : Addr} (h : fcB K b = true) : W.findCls K (.ref b) (.type "type") "__init__" = some (.val (.builtin "ValueError.__init__")) := by
  unfold fcB at h
  split at h
  · rename_i n e; rw [e]; rw [beq_iff_eq] at h; rw [h]
  · cases h
def peB (K : W.Frag) (x : Str) : Bool := nsB K x && oxB K (ga K x) && eqO (W.findIn K (.ref (ga K x)) "__init__") (some (some (.ref (ma K (ga K x) "__init__")))) && decide (W.typeIn K (.ref (ma K (ga K x) "__init__")) = some (.type "function")) && eqO (W.findIn K (.ref (ga K x)) "line") (some none)
  && nsB K "LabelError" && W.readsIn K (ga K "LabelError") (.type "type") && eqO (W.specialIn K (.ref (ga K "LabelError")) "__getattribute__") (some (some (.builtin "type.__getattribute__"))) && fcB K (ga K "LabelError")
/-- the class Desk -/
def dkB (K : W.Frag) (a : Addr) : Bool := W.plainGet K a Str.empty && W.hasDictIn K a && W.plainOver K a && eqO (W.findIn K (.ref a) "__setattr__") (some (some (.builtin "object.__setattr__"))) && eqO (W.findIn K (.ref a) "graph") (some none) && eqO (W.findIn K (.ref a) "steps") (some none) && eqO (W.findIn K (.ref a) "kept") (some none)
theorem dkB_ok {K : W.Frag} {a : Addr} (h : dkB K a = true) : DkC K a := by
  unfold dkB at h
  simp only [Bool.and_eq_true] at h
  obtain ⟨⟨⟨⟨⟨⟨h1, h2⟩, h3⟩, h4⟩, h5⟩, h6⟩, h7⟩ := h
  exact ⟨⟨h1, h2, h3, eqO_ok h4⟩, eqO_ok h5, eqO_ok h6, eqO_ok h7⟩
def meB (K : W.Frag) (a : Addr) (m : Str) : Bool := eqO (W.findIn K (.ref a) m) (some (some (.ref (ma K a m)))) && W.isFn K (.ref (ma K a m)) && W.keepIn K (.ref (ma K a m))
theorem meB_ok {K : W.Frag} {a : Addr} {m : Str} (h : meB K a m = true) : Meth K a m (ma K a m) := by
  unfold meB at h
  simp only [Bool.and_eq_true] at h
  exact ⟨eqO_ok h.1.1, h.1.2, h.2⟩
def noList (K : W.Frag) : Bool := K.all fun p => !(p.2.cls == .type "list")
/-- all numbers with their names -/
def each (l : List (Option Str)) (p : Nat → Str → Bool) : Bool := (List.range l.length).all fun i => match l[i]? with
  | some (some x) => p i x
  | _ => true
theorem each_ok {l : List (Option Str)} {p : Nat → Str → Bool} (h : each l p = true) {i : Nat} {x : Str} (e : l[i]? = some (some x)) : p i x = true := by
  have hi : i < l.length := (List.getElem?_eq_some_iff.mp e).1
  have := List.all_eq_true.mp h i (List.mem_range.mpr hi)
  rw [e] at this
  exact this
/-- one def: its number, its text, its names, its parameters, its evaluator's form -/
structure DefI where
  f : Nat
  x : Str
  st : Stmt
  N : List Str
  ps : List Str
  fn : Fn
  cl : Option Str
  qual : Str
def DefI.d (i : DefI) : He.DefD := match i.cl with
  | none => ⟨(i.x, none), i.x, i.qual, defArgs i.st, defBody i.st, defScope i.st, [], []⟩
  | some C => ⟨(C, some i.x), i.x, i.qual, defArgs i.st, defBody i.st, defScope i.st, [], []⟩
def prg (defs : List DefI) (gv : Nat → Option D) (sub : Nat → Nat → Bool) : Prg := ⟨fun f => match defs.find? fun d => d.f == f with
  | some d => some d.fn
  | none => wrapF f, gv, sub⟩
def exB (T : Tab) (gv : Nat → Option D) (sub : Nat → Nat → Bool) (K : W.Frag) : Bool :=
  noList K && (bltNames.all fun x => eqO (W.nsIn K mainGlobals x) (some none)) && each T.fns (fun _ x => nsB K x) && each T.glo (fun g x => match gv g with
    | some d => gvB K x d
    | none => false) && each T.cls (fun c x => nsB K x && clsB K (ga K x) (decide (c = 1))) &&
  each T.cls (fun c x => each T.cls fun d y => decide (W.exmOne K (.ref (ga K x)) (.ref (ga K y)) = some (sub c d)) && decide (W.kitOne K (.ref (ga K x)) (.ref (ga K y)) = some (sub c d))) &&
  each T.mks (fun _ x => nsB K x && (Fa.mkr x).ok K) && (match T.cls[1]? with
    | some (some x) => peB K x
    | _ => true) && each T.cls (fun c _ => sub c 16) && each T.dus (fun _ x => nsB K x && (Fa.mkr x).ok K && dkB K (ga K x) && meB K (ga K x) "undo")
/-- the defs' texts -/
def stB (T : Tab) (defs : List DefI) : Bool :=
  defs.all (fun d => C8.scC d.N d.ps (defScope d.st) && (chkSs T d.N d.fn.body (defScope d.st) (defBody d.st) && (decide (d.fn.params = d.ps.length) && decide (d.fn.slots = d.N.length)))) &&
    each T.fns (fun f x => match defs.find? fun d => d.f == f with
      | some d => decide (d.x = x) && decide (d.cl = none) && decide (d.qual = x)
      | none => false) && each T.mks (fun f x => decide (160 ≤ f ∧ f < 170) && (defs.find? fun d => d.f == f).isNone && match defs.find? fun d => d.f == f - 10 with
      | some d => decide (d.cl = some x) && decide (d.x = ("__init__" : Str)) && decide (d.fn.params = 3) && decide (d.fn.slots = 3) && decide (d.ps.length = 3) && decide (d.N.length = 3) && initForm d.fn.body
      | none => false) && (match T.cls[1]? with
      | some (some x) => (match defs.find? fun d => d.f == 152 with
        | some d => decide (d.cl = some x) && decide (d.x = ("__init__" : Str)) && chkPe d.N d.ps (defScope d.st) (defBody d.st)
        | none => false)
      | _ => true) && each T.dus (fun f x => decide (f = 170) && decide (T.fns[13]? = some (some ("check_labels" : Str))) && (defs.find? fun d => d.f == 170).isNone && (defs.find? fun d => d.f == 171).isNone && (match defs.find? fun d => d.f == 153 with
        | some d => decide (d.cl = some x) && decide (d.x = ("__init__" : Str)) && chkInit d.N d.ps (defScope d.st) (defBody d.st)
        | none => false) && (match defs.find? fun d => d.f == 154 with
        | some d => decide (d.cl = some x) && decide (d.x = ("undo" : Str)) && chkUndo T d.N d.ps (defScope d.st) (defBody d.st)
        | none => false))
def BindsQ (d : DefI) : Prop := ∀ (kV doc pm : Value) (an : Option Addr) (cdv ct : Value) (us : List Value), us.length = d.ps.length → bindArgs (W.fnOf d.x d.qual (defArgs d.st) (defBody d.st) (defScope d.st) .none kV doc pm an cdv ct) ⟨us, []⟩ = pure (d.ps.zip us)
def AllB : List DefI → Prop
  | [] => True
  | d :: r => BindsQ d ∧ AllB r
theorem AllB.mem : ∀ {l : List DefI} {d : DefI}, AllB l → d ∈ l → BindsQ d
  | [], _, _, h => by cases h
  | e :: r, d, h, hm => by
    rcases List.mem_cons.mp hm with z | z
    · subst z; exact h.1
    · exact AllB.mem h.2 z
/-! ### the Hook -/
def obsR (n : Nat) (ex : W.Frag → Bool) (fn : List He.DefD) (g : Addr → Option Obj) : AlD := ((ex (frG g (asD g n ++ [cStatics]))) && fn.all fun d => d.ok (frG g (asD g n ++ [cStatics])), fn.map fun d => fnW (frG g (asD g n ++ [cStatics])) d.at_)
def SaysR (ex : W.Frag → Bool) (fn : List He.DefD) (K : W.Frag) : Prop := (((ex K) && fn.all fun d => d.ok K, fn.map fun d => fnW K d.at_) : AlD) = valD fn
def hookR (n : Nat) (ex : W.Frag → Bool) (fn : List He.DefD) : W.Hook where
  α := AlD
  obs := fun s => obsR n ex fn s.heap.get?
  val := fun _ => valD fn
  says := fun _ h => ∃ K : W.Frag, K.In h ∧ SaysR ex fn K
  of := fun _ _ e => ⟨_, frG_in, e⟩
  keeps := fun _ _ _ ⟨K, hK, c⟩ k => ⟨K, W.Frag.In.keeps hK k, c⟩
theorem obsR_eq {n : Nat} {ex : W.Frag → Bool} {fn : List He.DefD} {g : Addr → Option Obj} {s : Shared} (h : ∀ a, g a = s.heap.get? a) : obsR n ex fn g = (hookR n ex fn).obs s := by
  have e : g = s.heap.get? := funext h
  rw [e] <;> rfl
theorem SaysR.ex {ex : W.Frag → Bool} {fn : List He.DefD} {K : W.Frag} (c : SaysR ex fn K) : ex K = true := (ba (show (ex K && fn.all fun d => d.ok K) = true from congrArg (fun z : AlD => z.1) c)).1
theorem SaysR.def_ {ex : W.Frag → Bool} {fn : List He.DefD} {K : W.Frag} (c : SaysR ex fn K) {d : He.DefD} (h : d ∈ fn) : ∃ fd, FunD K d.name d.qual d.params d.body d.scope (d.dvs K) (d.kws K) (fAd K d.at_) fd := by
  obtain ⟨i, hi, e⟩ := List.mem_iff_getElem.mp h
  have c2 := (ba (show (ex K && fn.all fun d => d.ok K) = true from congrArg (fun z : AlD => z.1) c)).2
  have e0 : fn.map (fun d => fnW K d.at_) = fn.map DefD.val := congrArg (fun z : AlD => z.2) c
  have e2 : (fn.map fun d => fnW K d.at_)[i]? = (fn.map DefD.val)[i]? := by rw [e0]
  have h' : fn[i]? = some d := by rw [List.getElem?_eq_getElem hi, e]
  rw [List.getElem?_map, List.getElem?_map, h'] at e2
  exact DefD.funD (Option.some.inj e2) (List.all_eq_true.mp c2 d h)
/-! ### the module -/
section
variable {T : Tab} {defs : List DefI} {gv : Nat → Option D} {sub : Nat → Nat → Bool} {K : W.Frag} {h : Heap} {mg : Str → Option Value}
theorem mdl_of (X : K.In h) (G : h.Ns mainGlobals mg) (c : SaysR (exB T gv sub) (defs.map DefI.d) K) (st : stB T defs = true) (bi : AllB defs) : Mdl T (prg defs gv sub) K mg := by
  have ex := c.ex
  unfold exB at ex
  simp only [Bool.and_eq_true] at ex
  obtain ⟨⟨⟨⟨⟨⟨⟨⟨⟨e1, e2⟩, e3⟩, e4⟩, e5⟩, e6⟩, e7⟩, e8⟩, e9⟩, e10⟩ := ex
  obtain ⟨s1234, s5⟩ := ba st
  obtain ⟨s123, s4⟩ := ba s1234
  obtain ⟨s12, s3⟩ := ba s123
  obtain ⟨s1, s2⟩ := ba s12
  have gl : ∀ {x : Str}, nsB K x = true → mg x = some (.ref (ga K x)) := fun {x} q => W.mg_of X G (eqO_ok q)
  refine ⟨fun f x hf => ?_, fun g x hg => ?_, fun x hx => ?_, fun c x hc => ?_, fun c d x y a b hc hd ha hb => ?_, fun f x hf => ?_, fun x hx => ?_, fun c x hc => each_ok e9 hc, fun f x hf => ?_⟩
  · have q1 := each_ok e3 hf
    have q2 := each_ok s2 hf
    cases q : defs.find? fun d => d.f == f with
    | none => rw [q] at q2; cases q2
    | some d =>
      rw [q] at q2
      obtain ⟨q3, q4⟩ := ba q2
      obtain ⟨q5, q6⟩ := ba q3
      have ex : d.x = x := of_decide_eq_true q5
      have ecl : d.cl = none := of_decide_eq_true q6
      have equ : d.qual = x := of_decide_eq_true q4
      subst ex
      have hm := List.mem_of_find?_eq_some q
      obtain ⟨fd, FD⟩ := c.def_ (List.mem_map_of_mem (f := DefI.d) hm)
      obtain ⟨t1, t2⟩ := ba (List.all_eq_true.mp s1 d hm)
      obtain ⟨t3, t4⟩ := ba t2
      obtain ⟨t5, t6⟩ := ba t4
      have FD : FunD K d.x d.x (defArgs d.st) (defBody d.st) (defScope d.st) [] [] (ga K d.x) fd := by
        unfold DefI.d at FD
        rw [ecl, equ] at FD
        exact FD
      have bb := bi.mem hm
      unfold BindsQ at bb
      rw [equ] at bb
      exact ⟨ga K d.x, fd, d.ps, d.N, d.fn, defArgs d.st, defBody d.st, defScope d.st, gl q1, FD.kp, FD.bindsN bb, FD, C8.fnScope_by t1, by
        show (match defs.find? fun d => d.f == f with
          | some d => some d.fn
          | none => wrapF f) = _
        rw [q], of_decide_eq_true t5, of_decide_eq_true t6, t3⟩
  · have q1 := each_ok e4 hg
    show ∃ u v, mg x = some u ∧ RelV v u ∧ ∀ d, gv g = some d → ∀ F, Dq K F v d
    cases q : gv g with
    | none => rw [q] at q1; cases q1
    | some d =>
      rw [q] at q1
      have q1 : gvB K x d = true := q1
      unfold gvB at q1
      split at q1
      · rename_i u e
        obtain ⟨v, r, z⟩ := datB_ok d u q1
        exact ⟨u, v, W.mg_of X G e, r, fun d' e' => by cases e'; exact z⟩
      · cases q1
  · exact W.mg_none_of X G (eqO_ok (List.all_eq_true.mp e2 x hx))
  · obtain ⟨q1, q2⟩ := ba (each_ok e5 hc)
    exact ⟨ga K x, gl q1, clsB_ok q2⟩
  · obtain ⟨q1, _⟩ := ba (each_ok e5 hc)
    obtain ⟨q2, _⟩ := ba (each_ok e5 hd)
    rw [gl q1] at ha
    rw [gl q2] at hb
    cases ha
    cases hb
    obtain ⟨z1, z2⟩ := ba (each_ok (each_ok e6 hc) hd)
    exact ⟨of_decide_eq_true z1, of_decide_eq_true z2⟩
  · obtain ⟨q1, q2⟩ := ba (each_ok e7 hf)
    obtain ⟨q3, q4⟩ := ba (each_ok s3 hf)
    obtain ⟨q5, q6⟩ := ba q3
    have hr : 160 ≤ f ∧ f < 170 := of_decide_eq_true q5
    have hno : (defs.find? fun d => d.f == f) = none := Option.isNone_iff_eq_none.mp q6
    cases q : defs.find? fun d => d.f == f - 10 with
    | none => rw [q] at q4; cases q4
    | some d =>
      rw [q] at q4
      simp only [Bool.and_eq_true, decide_eq_true_eq] at q4
      obtain ⟨⟨⟨⟨⟨⟨ecl, ex⟩, p1⟩, p2⟩, p3⟩, p4⟩, p5⟩ := q4
      have hm := List.mem_of_find?_eq_some q
      obtain ⟨fd, FD⟩ := c.def_ (List.mem_map_of_mem (f := DefI.d) hm)
      obtain ⟨t1, t2⟩ := ba (List.all_eq_true.mp s1 d hm)
      obtain ⟨t3, t4⟩ := ba t2
      have FD : FunD K d.x d.qual (defArgs d.st) (defBody d.st) (defScope d.st) [] [] (ma K (ga K x) d.x) fd := by
        unfold DefI.d at FD
        rw [ecl] at FD
        exact FD
      have bb := bi.mem hm
      have MK := mkr_ok q2
      rw [← ex] at MK
      refine ⟨ga K x, ma K (ga K x) d.x, fd, d.ps, d.N, d.fn, ⟨3, 3, [.exp (.call (f - 10) [.var 0, .var 1, .var 2]), .pass]⟩, f - 10, defArgs d.st, defBody d.st, defScope d.st, d.qual, d.x, gl q1, MK, FD.bindsN bb, FD, C8.fnScope_by t1, ?_, rfl, rfl, rfl, ?_, p1, p2, p3, p4, p5, t3⟩
      · show (match defs.find? fun d => d.f == f with
          | some d => some d.fn
          | none => wrapF f) = _
        rw [hno]
        show wrapF f = _
        unfold wrapF
        rw [if_pos hr]
      · show (match defs.find? fun d => d.f == f - 10 with
          | some d => some d.fn
          | none => wrapF (f - 10)) = _
        rw [q]
  · rw [hx] at e8 s4
    have e8 : peB K x = true := e8
    have s4 : (match defs.find? fun d => d.f == 152 with
        | some d => decide (d.cl = some x) && decide (d.x = ("__init__" : Str)) && chkPe d.N d.ps (defScope d.st) (defBody d.st)
        | none => false) = true := s4
    unfold peB at e8
    simp only [Bool.and_eq_true, decide_eq_true_eq] at e8
    obtain ⟨⟨⟨⟨⟨⟨⟨⟨p1, p2⟩, p3⟩, p4⟩, p5⟩, p6⟩, p7⟩, p8⟩, p9⟩ := e8
    cases q : defs.find? fun d => d.f == 152 with
    | none => rw [q] at s4; cases s4
    | some d =>
      rw [q] at s4
      simp only [Bool.and_eq_true, decide_eq_true_eq] at s4
      obtain ⟨⟨ecl, ex⟩, hpe⟩ := s4
      have hm := List.mem_of_find?_eq_some q
      obtain ⟨fd, FD⟩ := c.def_ (List.mem_map_of_mem (f := DefI.d) hm)
      obtain ⟨t1, t2⟩ := ba (List.all_eq_true.mp s1 d hm)
      have FD : FunD K d.x d.qual (defArgs d.st) (defBody d.st) (defScope d.st) [] [] (ma K (ga K x) d.x) fd := by
        unfold DefI.d at FD
        rw [ecl] at FD
        exact FD
      have bb := bi.mem hm
      refine ⟨ga K x, ga K "LabelError", ma K (ga K x) "__init__", fd, d.ps, d.N, defArgs d.st, defBody d.st, defScope d.st, d.qual, d.x, gl p1, ⟨oxB_ok p2, eqO_ok p3, p4, eqO_ok p5, gl p6, p7, eqO_ok p8, fcB_ok p9⟩, FD.bindsN bb, ?_, C8.fnScope_by t1, hpe⟩
      rw [ex] at FD ⊢
      exact FD
  · have q1 := each_ok e10 hf
    have q2 := each_ok s5 hf
    simp only [Bool.and_eq_true, decide_eq_true_eq] at q1 q2
    obtain ⟨⟨⟨a1, a2⟩, a3⟩, a4⟩ := q1
    obtain ⟨⟨⟨⟨⟨rfl, b2⟩, b3⟩, b4⟩, b5⟩, b6⟩ := q2
    have n170 : (defs.find? fun d => d.f == 170) = none := Option.isNone_iff_eq_none.mp b3
    have n171 : (defs.find? fun d => d.f == 171) = none := Option.isNone_iff_eq_none.mp b4
    cases qI : defs.find? fun d => d.f == 153 with
    | none => rw [qI] at b5; cases b5
    | some dI =>
      cases qU : defs.find? fun d => d.f == 154 with
      | none => rw [qU] at b6; cases b6
      | some dU =>
        rw [qI] at b5
        rw [qU] at b6
        simp only [Bool.and_eq_true, decide_eq_true_eq] at b5 b6
        obtain ⟨⟨cI, xI⟩, kI⟩ := b5
        obtain ⟨⟨cU, xU⟩, kU⟩ := b6
        have hmI := List.mem_of_find?_eq_some qI
        have hmU := List.mem_of_find?_eq_some qU
        obtain ⟨fdI, FI⟩ := c.def_ (List.mem_map_of_mem (f := DefI.d) hmI)
        obtain ⟨fdU, FU⟩ := c.def_ (List.mem_map_of_mem (f := DefI.d) hmU)
        obtain ⟨t1, _⟩ := ba (List.all_eq_true.mp s1 dI hmI)
        obtain ⟨t2, _⟩ := ba (List.all_eq_true.mp s1 dU hmU)
        have FI : FunD K dI.x dI.qual (defArgs dI.st) (defBody dI.st) (defScope dI.st) [] [] (ma K (ga K x) dI.x) fdI := by
          unfold DefI.d at FI
          rw [cI] at FI
          exact FI
        have FU : FunD K dU.x dU.qual (defArgs dU.st) (defBody dU.st) (defScope dU.st) [] [] (ma K (ga K x) dU.x) fdU := by
          unfold DefI.d at FU
          rw [cU] at FU
          exact FU
        have MK := mkr_ok a2
        have bI := FI.bindsN (bi.mem hmI)
        have bU := FU.bindsN (bi.mem hmU)
        rw [← xI] at MK
        have mU := meB_ok a4
        rw [← xU] at mU
        refine ⟨ga K x, ma K (ga K x) dI.x, fdI, dI.ps, dI.N, defArgs dI.st, defBody dI.st, defScope dI.st, dI.qual, dI.x, ma K (ga K x) dU.x, fdU, dU.ps, dU.N, defArgs dU.st, defBody dU.st, defScope dU.st, dU.qual, dU.x, gl a1, MK, dkB_ok a3, ?_, bI, FI, C8.fnScope_by t1, kI, bU, FU, C8.fnScope_by t2, kU, b2, rfl, ?_, ?_⟩
        · rw [xU] at mU ⊢; exact mU
        · show (match defs.find? fun d => d.f == 170 with
            | some d => some d.fn
            | none => wrapF 170) = _
          rw [n170]; rfl
        · show (match defs.find? fun d => d.f == 171 with
            | some d => some d.fn
            | none => wrapF 171) = _
          rw [n171]; rfl
theorem noList_ok (h : noList K = true) {a : Addr} {o : Obj} (e : K.lookup a = some o) : o.cls ≠ .type "list" := by
  have hm : (a, o) ∈ K := by
    revert e
    induction K with
    | nil => intro e; cases e
    | cons p r ih =>
      intro e
      rw [List.lookup_cons] at e
      cases q : a == p.1 with
      | true =>
        rw [q] at e
        cases e
        have := beq_iff_eq.mp q
        subst this
        exact List.mem_cons_self
      | false =>
        rw [q] at e
        refine List.mem_cons_of_mem _ (ih ?_ e)
        unfold noList at h ⊢
        rw [List.all_cons] at h
        exact (ba h).2
  have := List.all_eq_true.mp h (a, o) hm
  simpa using this
/-- the script -/
theorem script_dq (e : noList K = true) {H : Hp} {a : Addr} {ns : List Int} (hS : SqL K H a (ns.map V.int)) : Dq K H (.ref a) (.list (ns.map PyData.int)) := by
  rcases hS with hS | ⟨o, its, n, h1, h2, _⟩
  · exact .lst hS (DqAll.ints ns)
  · exact absurd h2 (noList_ok e h1)
end
end RL
/-! RLEnd: a law by its evaluator's end. -/
namespace RL
open PySem PySem.Spec PyProof.Rows L2 He
theorem law_walk {l : PySem.W.OpenLaw} {n : Nat} {q : Program} {loose : List Str} {XP : (Str → Option Value) → Heap → Prop} {d : DefRec} {T : Tab} {defs : List DefI} {gv : Nat → Option D} {sub : Nat → Nat → Bool} {i : DefI}
    (hn : l.most = some 63) (hdf : d.params.defaults = []) (hname : d.name = ("law" : Str)) (st : stB T defs = true) (bi : AllB defs) (h0 : defs.find? (fun d => d.f == 0) = some i) (hx : i.x = ("law" : Str)) (hps : i.ps = [("script" : Str)]) (hcl : i.cl = none) (hqu : i.qual = i.x) (hfn : i.fn.params = 1) (hT : T.fns[0]? = some (some ("law" : Str)))
    (hr : Room (n + 1 + 8) callerA) (hev : ∀ ns : List Int, ns.length ≤ 63 → callN (prg defs gv sub) (n + 1) 0 [.list (ns.map .int)] = .ok (.dat (.bool true))) :
    PySem.W.WalkO q loose XP (hookR 5 (exB T gv sub) (defs.map DefI.d)).says l.row.toRowW d [] (fun f vs => PySem.call f vs) := by
  refine Att.attach_call hn hdf fun w s₀ s₁ mg mb fa o pm cd doc a vs ns G Y ho hd hcd hmg hobj hints hlen hg => ?_
  obtain ⟨K, KX, c⟩ := Y
  have M := mdl_of KX G.T.g c st bi
  have ex := c.ex
  have hnl : noList K = true := by
    unfold exB at ex
    simp only [Bool.and_eq_true] at ex
    exact ex.1.1.1.1.1.1.1.1.1
  have hm := List.mem_of_find?_eq_some h0
  obtain ⟨fd, FD⟩ := c.def_ (List.mem_map_of_mem (f := DefI.d) hm)
  have FD : FunD K i.x i.x (defArgs i.st) (defBody i.st) (defScope i.st) [] [] (ga K i.x) fd := by
    unfold DefI.d at FD
    rw [hcl, hqu] at FD
    exact FD
  obtain ⟨s1234, s5⟩ := ba st
  obtain ⟨s123, s4⟩ := ba s1234
  obtain ⟨s12, s3⟩ := ba s123
  obtain ⟨s1, s2⟩ := ba s12
  obtain ⟨t1, t2⟩ := ba (List.all_eq_true.mp s1 i hm)
  obtain ⟨t3, t4⟩ := ba t2
  obtain ⟨t5, t6⟩ := ba t4
  have S := C8.fnScope_by t1
  have hga : mg i.x = some (.ref (ga K i.x)) := by
    have ex2 := ex
    unfold exB at ex2
    simp only [Bool.and_eq_true] at ex2
    rw [hx]
    exact PySem.W.mg_of KX G.T.g (eqO_ok (each_ok ex2.1.1.1.1.1.1.1.2 hT))
  have hfa : fa = ga K i.x := by
    rw [hname] at hmg
    rw [hx] at hga ⊢
    rw [hmg] at hga
    cases hga
    rfl
  subst hfa
  have hF : ∀ base : Heap, K.In base → base.Ns mainGlobals mg → FnOk l.prog w K mg base (L2.CX l.prog w) (n + 1 + 8) (ga K i.x) fd ["script"] (spF T K mg 1 (callN (prg defs gv sub) (n + 1) 0)) := fun base _ _ => by
    have z := fn_step (f := 0) (wd_all (P := l.prog) (w := w) (base := base) M n) FD S (by
      show (match defs.find? fun d => d.f == 0 with
        | some d => some d.fn
        | none => wrapF 0) = _
      rw [h0]) (of_decide_eq_true t5) (of_decide_eq_true t6) t3
    rw [hps] at z
    exact z
  have bb := bi.mem hm
  unfold BindsQ at bb
  rw [hqu] at bb
  have hb := fun (s : Shared) (u : Value) => FD.bindsA (ps := i.ps) bb s [u] (by rw [hps]; rfl)
  rw [hps] at hb
  refine law_call (x := "script") KX G.T.g G.T.b G.T.builtins G.T.nolimit hg hobj hints (Nat.le_trans hlen (by decide)) hr hF hb (fun H hO hS => ?_) fun H e s' hc => ?_
  · refine ⟨H, [.list (ns.map PyData.int)], Same.refl H, .cons (script_dq hnl hS) .nil, rfl, ?_⟩
    rw [hev ns hlen]
    intro x F' H' _ hv
    cases hv
    rfl
  · obtain ⟨_, _, _, _, _, _, _, _, _, _, _, _, z⟩ := hc
    exact z
end RL
/-! RLMath: the evaluator's loops; the draws that all laws share. -/
namespace RL
open PySem
theorem forL_inv {step : Env → D → SR} (P : Nat → Env → Prop) : ∀ (its : List D) (k : Nat) (ρ : Env), P k ρ → (∀ i d ρ, its[i]? = some d → P (k + i) ρ → ∃ ρ', step ρ d = .nx ρ' ∧ P (k + i + 1) ρ') → ∃ ρ', forL step its ρ = .nx ρ' ∧ P (k + its.length) ρ'
  | [], k, ρ, h, _ => ⟨ρ, rfl, h⟩
  | d :: its, k, ρ, h, hs => by
    obtain ⟨ρ1, e1, h1⟩ := hs 0 d ρ rfl h
    obtain ⟨ρ2, e2, h2⟩ := forL_inv P its (k + 1) ρ1 h1 fun i d' ρ' hd hp => by
      have := hs (i + 1) d' ρ' (by simpa using hd) (by rw [show k + (i + 1) = k + 1 + i by omega]; exact hp)
      rw [show k + (i + 1) + 1 = k + 1 + i + 1 by omega] at this
      exact this
    refine ⟨ρ2, ?_, by rw [List.length_cons, show k + (its.length + 1) = k + 1 + its.length by omega]; exact h2⟩
    show (step ρ d).seq _ = _
    rw [e1]
    exact e2
theorem callN_eq {P : Prg} {n f : Nat} {fn : Fn} {args : List D} (h : P.fn f = some fn) (hl : args.length = fn.params) : callN P (n + 1) f args = outcome (execs ⟨callN P n, P.gv, P.sub⟩ (enter fn args) fn.body) := by
  show (match P.fn f with
    | some fn => Res.grd (decide (args.length = fn.params)) (outcome (execs ⟨callN P n, P.gv, P.sub⟩ (enter fn args) fn.body))
    | none => .bad) = _
  rw [h]
  show Res.grd (decide (args.length = fn.params)) _ = _
  rw [decide_eq_true hl]
  rfl
theorem atI_nat {α : Type} {xs : List α} {k : Nat} (h : k < xs.length) : L2.atI xs (k : Int) = some xs[k] := by
  unfold L2.atI L2.ixN
  simp [h]
/-! ### statements, step by step -/
section
variable {C : Cfg} {ρ ρ' : Env} {i : Nat} {e k c : Ex} {v w : Vl} {x d : D} {l a b : List Stm} {xs : List D}
theorem x_asg (h : evF C ρ e = .ok v) : execs C ρ (.asg i e :: l) = execs C (ρ.set i (some (.val v))) l := by
  show (SR.of ρ (evF C ρ e) _).seq _ = _
  rw [h]; rfl
theorem x_new (hf : fresh e = true) (h : evF C ρ e = .ok v) : execs C ρ (.new i e :: l) = execs C (ρ.set i (some (.own v))) l := by
  show (SR.opt (grdO (fresh e) (some ())) _).seq _ = _
  rw [hf]
  show (SR.of ρ (evF C ρ e) _).seq _ = _
  rw [h]; rfl
theorem x_t (h : evT C ρ c = .ok true) : execs C ρ (.ite c a b :: l) = (execs C ρ a).seq fun r => execs C r l := by
  show (SR.of ρ (evT C ρ c) _).seq _ = _
  rw [h]; rfl
theorem x_f (h : evT C ρ c = .ok false) : execs C ρ (.ite c a b :: l) = (execs C ρ b).seq fun r => execs C r l := by
  show (SR.of ρ (evT C ρ c) _).seq _ = _
  rw [h]; rfl
theorem x_set (ho : ownAt ρ i = some v) (he : evD C ρ e = .ok x) (hk : evR C ρ k = .ok d) (hs : setV v d x = some w) : execs C ρ (.set i k e :: l) = execs C (ρ.set i (some (.own w))) l := by
  show (SR.opt (ownAt ρ i) _).seq _ = _
  rw [ho]
  show (SR.of ρ (evD C ρ e) _).seq _ = _
  rw [he]
  show (SR.of ρ (evR C ρ k) _).seq _ = _
  rw [hk]
  show (SR.opt (setV v d x) _).seq _ = _
  rw [hs]; rfl
theorem x_app (ho : ownL ρ i = some xs) (he : evD C ρ e = .ok x) (hs : appV (.dat (.list xs)) x = some w) : execs C ρ (.app i e :: l) = execs C (ρ.set i (some (.own w))) l := by
  show (SR.opt (ownL ρ i) _).seq _ = _
  rw [ho]
  show (SR.of ρ (evD C ρ e) _).seq _ = _
  rw [he]
  show (SR.opt (appV (.dat (.list xs)) x) _).seq _ = _
  rw [hs]; rfl
theorem x_exp {r : Bool × Vl} (h : ev C ρ e = .ok r) : execs C ρ (.exp e :: l) = execs C ρ l := by
  show (SR.of ρ (ev C ρ e) _).seq _ = _
  rw [h]; rfl
theorem x_ret (h : evF C ρ e = .ok v) : execs C ρ (.ret e :: l) = .rt v := by
  show (SR.of ρ (evF C ρ e) _).seq _ = _
  rw [h]; rfl
theorem x_nx {s : Stm} (h : exec C ρ s = .nx ρ') : execs C ρ (s :: l) = execs C ρ' l := by
  show (exec C ρ s).seq _ = _
  rw [h]; rfl
theorem x_frz {is : List Nat} : execs C ρ (.frz is :: l) = execs C (frzAll ρ is) l := rfl
theorem x_for {t : Tg} {kk : Sk} {ea eb : Ex} {body : List Stm} {va vb : Vl} {its : List D} (ha : ev C ρ ea = .ok (false, va)) (hb : ev C ρ eb = .ok (false, vb)) (hi : itemsOf kk va vb = some its) :
    execs C ρ (.for_ t kk ea eb body :: l) = (forL (fun r d => SR.opt (bindTg r d t) fun r => execs C r body) its ρ).seq fun r => execs C r l := by
  show (SR.of ρ (ev C ρ ea) _).seq _ = _
  rw [ha]
  show (SR.of ρ (ev C ρ eb) _).seq _ = _
  rw [hb]
  show (SR.opt (itemsOf kk va vb) _).seq _ = _
  rw [hi]; rfl
theorem x_unp {tl : List Tg} (h : evR C ρ e = .ok d) (hu : unpD ρ d tl = some ρ') : execs C ρ (.unp tl e :: l) = execs C ρ' l := by
  show (SR.of ρ (evR C ρ e) _).seq _ = _
  rw [h]
  show (SR.opt (unpD ρ d tl) _).seq _ = _
  rw [hu]; rfl
theorem x_pop {t : Tg} {kk : Option Int} (ho : ownAt ρ i = some v) (hp : popV v kk = some (x, w)) (hb : bindTg (ρ.set i (some (.own w))) x t = some ρ') : execs C ρ (.pop t i kk :: l) = execs C ρ' l := by
  show (SR.opt (ownAt ρ i) _).seq _ = _
  rw [ho]
  show (SR.opt (popV v kk) _).seq _ = _
  rw [hp]
  show (SR.opt (bindTg (ρ.set i (some (.own w))) x t) _).seq _ = _
  rw [hb]; rfl
end
end RL
/-! RLLoc: what a def tells depends on the defs that it calls alone. -/
namespace RL
open PySem
mutual
def inEx (S : Nat → Bool) : Ex → Bool
  | .var _ => true
  | .con _ => true
  | .glo _ => true
  | .bin _ a b => inEx S a && inEx S b
  | .neg a => inEx S a
  | .cmp _ a b => inEx S a && inEx S b
  | .chn _ _ a b c => inEx S a && (inEx S b && inEx S c)
  | .isn _ a => inEx S a
  | .and a b => inEx S a && inEx S b
  | .or a b => inEx S a && inEx S b
  | .not a => inEx S a
  | .ite c a b => inEx S c && (inEx S a && inEx S b)
  | .tup es => inExs S es
  | .lst es => inExs S es
  | .idx a i => inEx S a && inEx S i
  | .slf a i => inEx S a && inEx S i
  | .slt a i => inEx S a && inEx S i
  | .slb a b c => inEx S a && (inEx S b && inEx S c)
  | .rev a => inEx S a
  | .cpr _ _ _ a b e => inEx S a && (inEx S b && inEx S e)
  | .cpi _ _ _ a b c e => inEx S a && (inEx S b && (inEx S c && inEx S e))
  | .call f es => S f && inExs S es
  | .fn1 _ a => inEx S a
  | .fn2 _ a b => inEx S a && inEx S b
  | .mt _ a b => inEx S a && inEx S b
  | .isi a _ => inEx S a
  | .dc0 => true
  | .dc1 k v => inEx S k && inEx S v
  | .fst es => inExs S es
  | .fld a => inEx S a
def inExs (S : Nat → Bool) : List Ex → Bool
  | [] => true
  | e :: es => inEx S e && inExs S es
end
structure Agree (S : Nat → Bool) (C K : Cfg) : Prop where
  ck : ∀ f, S f = true → C.ck f = K.ck f
  gv : C.gv = K.gv
  sub : C.sub = K.sub
theorem an {a b : Bool} (h : (a && b) = true) : a = true ∧ b = true := by simpa using h
section
variable {S : Nat → Bool} {C K : Cfg} (A : Agree S C K)
include A
mutual
theorem ev_loc : ∀ (e : Ex) (r : Env), inEx S e = true → ev C r e = ev K r e
  | .var i, r, _ => rfl
  | .con d, r, _ => rfl
  | .glo g, r, _ => by show opt (C.gv g) _ = opt (K.gv g) _; rw [A.gv]
  | .bin o a b, r, h => by
    obtain ⟨h1, h2⟩ := an h
    show (ev C r a).bind _ = (ev K r a).bind _
    rw [ev_loc a r h1, ev_loc b r h2]
  | .neg a, r, h => by show (ev C r a).bind _ = (ev K r a).bind _; rw [ev_loc a r h]
  | .cmp o a b, r, h => by
    obtain ⟨h1, h2⟩ := an h
    show (ev C r a).bind _ = (ev K r a).bind _
    rw [ev_loc a r h1, ev_loc b r h2]
  | .chn o p a b c, r, h => by
    obtain ⟨h1, h2⟩ := an h
    obtain ⟨h3, h4⟩ := an h2
    show (ev C r a).bind _ = (ev K r a).bind _
    rw [ev_loc a r h1, ev_loc b r h3, ev_loc c r h4]
  | .isn p a, r, h => by show (ev C r a).bind _ = (ev K r a).bind _; rw [ev_loc a r h]
  | .and a b, r, h => by
    obtain ⟨h1, h2⟩ := an h
    show (ev C r a).bind _ = (ev K r a).bind _
    rw [ev_loc a r h1, ev_loc b r h2]
  | .or a b, r, h => by
    obtain ⟨h1, h2⟩ := an h
    show (ev C r a).bind _ = (ev K r a).bind _
    rw [ev_loc a r h1, ev_loc b r h2]
  | .not a, r, h => by show (ev C r a).bind _ = (ev K r a).bind _; rw [ev_loc a r h]
  | .ite c a b, r, h => by
    obtain ⟨h1, h2⟩ := an h
    obtain ⟨h3, h4⟩ := an h2
    show (ev C r c).bind _ = (ev K r c).bind _
    rw [ev_loc c r h1, ev_loc a r h3, ev_loc b r h4]
  | .tup es, r, h => by show (evs C r es).bind _ = (evs K r es).bind _; rw [evs_loc es r h]
  | .lst es, r, h => by show (evs C r es).bind _ = (evs K r es).bind _; rw [evs_loc es r h]
  | .idx a i, r, h => by
    obtain ⟨h1, h2⟩ := an h
    show (ev C r a).bind _ = (ev K r a).bind _
    rw [ev_loc a r h1, ev_loc i r h2]
  | .slf a i, r, h => by
    obtain ⟨h1, h2⟩ := an h
    show (ev C r a).bind _ = (ev K r a).bind _
    rw [ev_loc a r h1, ev_loc i r h2]
  | .slt a i, r, h => by
    obtain ⟨h1, h2⟩ := an h
    show (ev C r a).bind _ = (ev K r a).bind _
    rw [ev_loc a r h1, ev_loc i r h2]
  | .slb a b c, r, h => by
    obtain ⟨h1, h2⟩ := an h
    obtain ⟨h3, h4⟩ := an h2
    show (ev C r a).bind _ = (ev K r a).bind _
    rw [ev_loc a r h1, ev_loc b r h3, ev_loc c r h4]
  | .rev a, r, h => by show (ev C r a).bind _ = (ev K r a).bind _; rw [ev_loc a r h]
  | .cpr own tg k a b e, r, h => by
    obtain ⟨h1, h2⟩ := an h
    obtain ⟨h3, h4⟩ := an h2
    have z : (fun m => (ev C m e).bind fun z => opt (dat z) Res.ok) = fun m => (ev K m e).bind fun z => opt (dat z) Res.ok := by
      funext m; rw [ev_loc e m h4]
    show (ev C r a).bind _ = (ev K r a).bind _
    rw [ev_loc a r h1, ev_loc b r h3, z]
  | .cpi own tg k a b c e, r, h => by
    obtain ⟨h1, h2⟩ := an h
    obtain ⟨h3, h4⟩ := an h2
    obtain ⟨h5, h6⟩ := an h4
    have z : (fun m => (ev C m e).bind fun z => opt (dat z) Res.ok) = fun m => (ev K m e).bind fun z => opt (dat z) Res.ok := by
      funext m; rw [ev_loc e m h6]
    have y : (fun m => (ev C m c).bind fun x => opt (truthy x.2) Res.ok) = fun m => (ev K m c).bind fun x => opt (truthy x.2) Res.ok := by
      funext m; rw [ev_loc c m h5]
    show (ev C r a).bind _ = (ev K r a).bind _
    rw [ev_loc a r h1, ev_loc b r h3, z, y]
  | .call f es, r, h => by
    obtain ⟨h1, h2⟩ := an h
    show (evs C r es).bind _ = (evs K r es).bind _
    rw [evs_loc es r h2, A.ck f h1]
  | .fn1 f a, r, h => by show (ev C r a).bind _ = (ev K r a).bind _; rw [ev_loc a r h]
  | .fn2 f a b, r, h => by
    obtain ⟨h1, h2⟩ := an h
    show (ev C r a).bind _ = (ev K r a).bind _
    rw [ev_loc a r h1, ev_loc b r h2]
  | .mt f a b, r, h => by
    obtain ⟨h1, h2⟩ := an h
    show (ev C r a).bind _ = (ev K r a).bind _
    rw [ev_loc a r h1, ev_loc b r h2]
  | .isi a t, r, h => by show (ev C r a).bind _ = (ev K r a).bind _; rw [ev_loc a r h, A.sub]
  | .dc0, r, _ => rfl
  | .dc1 k v, r, h => by
    obtain ⟨h1, h2⟩ := an h
    show (ev C r k).bind _ = (ev K r k).bind _
    rw [ev_loc k r h1, ev_loc v r h2]
  | .fst es, r, h => by show (evf C r es ⟨#[]⟩).bind _ = (evf K r es ⟨#[]⟩).bind _; rw [evf_loc es r _ h]
  | .fld a, r, h => by show (ev C r a).bind _ = (ev K r a).bind _; rw [ev_loc a r h]
theorem evs_loc : ∀ (es : List Ex) (r : Env), inExs S es = true → evs C r es = evs K r es
  | [], r, _ => rfl
  | e :: es, r, h => by
    obtain ⟨h1, h2⟩ := an h
    show (ev C r e).bind _ = (ev K r e).bind _
    rw [ev_loc e r h1, evs_loc es r h2]
theorem evf_loc : ∀ (es : List Ex) (r : Env) (acc : Str), inExs S es = true → evf C r es acc = evf K r es acc
  | [], r, acc, _ => rfl
  | e :: es, r, acc, h => by
    obtain ⟨h1, h2⟩ := an h
    show (ev C r e).bind (fun x => opt (dat x) fun d => opt (fmtD acc d) fun z => evf C r es z) = (ev K r e).bind (fun x => opt (dat x) fun d => opt (fmtD acc d) fun z => evf K r es z)
    have z : (fun z => evf C r es z) = fun z => evf K r es z := by funext z; exact evf_loc es r z h2
    rw [ev_loc e r h1, z]
end
end
mutual
def inSt (S : Nat → Bool) : Stm → Bool
  | .asg _ e => inEx S e
  | .new _ e => inEx S e
  | .unp _ e => inEx S e
  | .par _ es => inExs S es
  | .set _ k e => inEx S k && inEx S e
  | .aug _ _ e => inEx S e
  | .app _ e => inEx S e
  | .ext _ e => inEx S e
  | .pop _ _ _ => true
  | .exp e => inEx S e
  | .ite c a b => inEx S c && (inSts S a && inSts S b)
  | .for_ _ _ a b body => inEx S a && (inEx S b && inSts S body)
  | .whl c body => inEx S c && inSts S body
  | .ret e => inEx S e
  | .raise _ => true
  | .raise1 _ e => inEx S e
  | .try_ body h => inSts S body && inHs S h
  | .frz _ => true
  | .pass => true
def inSts (S : Nat → Bool) : List Stm → Bool
  | [] => true
  | s :: l => inSt S s && inSts S l
def inHs (S : Nat → Bool) : Hs → Bool
  | .nil => true
  | .cons _ _ su h => inSts S su && inHs S h
end
section
variable {S : Nat → Bool} {C K : Cfg} (A : Agree S C K)
include A
mutual
theorem exec_loc : ∀ (s : Stm) (r : Env), inSt S s = true → exec C r s = exec K r s
  | .asg i e, r, h => by show SR.of r (evF C r e) _ = SR.of r (evF K r e) _; unfold evF; rw [ev_loc A e r h]
  | .new i e, r, h => by
    show SR.opt _ (fun _ => SR.of r (evF C r e) _) = SR.opt _ (fun _ => SR.of r (evF K r e) _)
    unfold evF; rw [ev_loc A e r h]
  | .unp l e, r, h => by show SR.of r (evR C r e) _ = SR.of r (evR K r e) _; unfold evR; rw [ev_loc A e r h]
  | .par l es, r, h => by show SR.of r (evs C r es) _ = SR.of r (evs K r es) _; rw [evs_loc A es r h]
  | .set i k e, r, h => by
    obtain ⟨h1, h2⟩ := an h
    show SR.opt (ownAt r i) (fun v => SR.of r (evD C r e) fun x => SR.of r (evR C r k) _) = SR.opt (ownAt r i) (fun v => SR.of r (evD K r e) fun x => SR.of r (evR K r k) _)
    unfold evD evR; rw [ev_loc A e r h2, ev_loc A k r h1]
  | .aug i o e, r, h => by
    show SR.opt (valI r i) (fun a => SR.of r (evR C r e) _) = SR.opt (valI r i) (fun a => SR.of r (evR K r e) _)
    unfold evR; rw [ev_loc A e r h]
  | .app i e, r, h => by
    show SR.opt (ownL r i) (fun xs => SR.of r (evD C r e) _) = SR.opt (ownL r i) (fun xs => SR.of r (evD K r e) _)
    unfold evD; rw [ev_loc A e r h]
  | .ext i e, r, h => by
    show SR.opt (ownL r i) (fun xs => SR.of r (evD C r e) _) = SR.opt (ownL r i) (fun xs => SR.of r (evD K r e) _)
    unfold evD; rw [ev_loc A e r h]
  | .pop t i k, r, _ => rfl
  | .exp e, r, h => by show SR.of r (ev C r e) _ = SR.of r (ev K r e) _; rw [ev_loc A e r h]
  | .ite c a b, r, h => by
    obtain ⟨h1, h2⟩ := an h
    obtain ⟨h3, h4⟩ := an h2
    show SR.of r (evT C r c) _ = SR.of r (evT K r c) _
    unfold evT; rw [ev_loc A c r h1, execs_loc a r h3, execs_loc b r h4]
  | .for_ t k a b body, r, h => by
    obtain ⟨h1, h2⟩ := an h
    obtain ⟨h3, h4⟩ := an h2
    have z : (fun r d => SR.opt (bindTg r d t) fun r => execs C r body) = fun r d => SR.opt (bindTg r d t) fun r => execs K r body := by
      funext r d; congr 1; funext r; exact execs_loc body r h4
    show SR.of r (ev C r a) (fun x => SR.of r (ev C r b) fun y => SR.opt _ fun its => forL (fun r d => SR.opt (bindTg r d t) fun r => execs C r body) its r) = SR.of r (ev K r a) (fun x => SR.of r (ev K r b) fun y => SR.opt _ fun its => forL (fun r d => SR.opt (bindTg r d t) fun r => execs K r body) its r)
    rw [ev_loc A a r h1, ev_loc A b r h3, z]
  | .whl c body, r, h => by
    obtain ⟨h1, h2⟩ := an h
    have z : (fun r => execs C r body) = fun r => execs K r body := by
      funext r; exact execs_loc body r h2
    have y : (fun r => evT C r c) = fun r => evT K r c := by
      funext r; unfold evT; rw [ev_loc A c r h1]
    show whlL (fun r => evT C r c) (fun r => execs C r body) iterMax r = whlL (fun r => evT K r c) (fun r => execs K r body) iterMax r
    rw [z, y]
  | .ret e, r, h => by show SR.of r (evF C r e) _ = SR.of r (evF K r e) _; unfold evF; rw [ev_loc A e r h]
  | .raise c, r, _ => rfl
  | .raise1 c e, r, h => by show SR.of r (evD C r e) _ = SR.of r (evD K r e) _; unfold evD; rw [ev_loc A e r h]
  | .try_ body hs, r, h => by
    obtain ⟨h1, h2⟩ := an h
    show (match execs C r body with
      | .ex c p r => hands C r c p hs
      | s => s) = match execs K r body with
      | .ex c p r => hands K r c p hs
      | s => s
    rw [execs_loc body r h1]
    cases execs K r body with
    | ex c p r => exact hands_loc hs r c p h2
    | nx r => rfl
    | rt v => rfl
    | bad => rfl
  | .frz l, r, _ => rfl
  | .pass, r, _ => rfl
theorem execs_loc : ∀ (l : List Stm) (r : Env), inSts S l = true → execs C r l = execs K r l
  | [], r, _ => rfl
  | s :: l, r, h => by
    obtain ⟨h1, h2⟩ := an h
    show (exec C r s).seq _ = (exec K r s).seq _
    rw [exec_loc s r h1]
    congr 1; funext r; exact execs_loc l r h2
theorem hands_loc : ∀ (hs : Hs) (r : Env) (c : Nat) (p : Option D), inHs S hs = true → hands C r c p hs = hands K r c p hs
  | .nil, r, c, p, _ => rfl
  | .cons d i su hs, r, c, p, h => by
    obtain ⟨h1, h2⟩ := an h
    show (match C.sub c d with
      | true => (match execs C (r.set i (some (.val (.exn c p)))) su with
        | .nx r => SR.nx (r.set i none)
        | s => s)
      | false => hands C r c p hs) = match K.sub c d with
      | true => (match execs K (r.set i (some (.val (.exn c p)))) su with
        | .nx r => SR.nx (r.set i none)
        | s => s)
      | false => hands K r c p hs
    rw [A.sub, execs_loc su _ h1, hands_loc hs r c p h2]
end
end
/-- two programs with the same defs for a set that is closed under calls -/
structure Same2 (P Q : Prg) (S : Nat → Bool) : Prop where
  fn : ∀ f, S f = true → ∃ d, P.fn f = some d ∧ Q.fn f = some d ∧ inSts S d.body = true
  gv : P.gv = Q.gv
  sub : P.sub = Q.sub
theorem callN_loc {P Q : Prg} {S : Nat → Bool} (H : Same2 P Q S) : ∀ (n f : Nat), S f = true → callN P n f = callN Q n f
  | 0, f, _ => rfl
  | n + 1, f, h => by
    obtain ⟨d, h1, h2, h3⟩ := H.fn f h
    funext args
    show (match P.fn f with
      | some fn => Res.grd (decide (args.length = fn.params)) (outcome (execs ⟨callN P n, P.gv, P.sub⟩ (enter fn args) fn.body))
      | none => .bad) = match Q.fn f with
      | some fn => Res.grd (decide (args.length = fn.params)) (outcome (execs ⟨callN Q n, Q.gv, Q.sub⟩ (enter fn args) fn.body))
      | none => .bad
    rw [h1, h2]
    show Res.grd (decide (args.length = d.params)) (outcome (execs ⟨callN P n, P.gv, P.sub⟩ (enter d args) d.body)) = Res.grd (decide (args.length = d.params)) (outcome (execs ⟨callN Q n, Q.gv, Q.sub⟩ (enter d args) d.body))
    rw [execs_loc (S := S) (C := ⟨callN P n, P.gv, P.sub⟩) (K := ⟨callN Q n, Q.gv, Q.sub⟩) ⟨fun f hf => callN_loc H n f hf, H.gv, H.sub⟩ _ _ h3]
/-- one def of P, told by Q's def of another number -/
theorem law_loc {P Q : Prg} {S : Nat → Bool} (H : Same2 P Q S) {n f g : Nat} {d : Fn} (hf : P.fn f = some d) (hg : Q.fn g = some d) (hd : inSts S d.body = true) : callN P (n + 1) f = callN Q (n + 1) g := by
  funext args
  show (match P.fn f with
    | some fn => Res.grd (decide (args.length = fn.params)) (outcome (execs ⟨callN P n, P.gv, P.sub⟩ (enter fn args) fn.body))
    | none => .bad) = match Q.fn g with
    | some fn => Res.grd (decide (args.length = fn.params)) (outcome (execs ⟨callN Q n, Q.gv, Q.sub⟩ (enter fn args) fn.body))
    | none => .bad
  rw [hf, hg]
  show Res.grd (decide (args.length = d.params)) (outcome (execs ⟨callN P n, P.gv, P.sub⟩ (enter d args) d.body)) = Res.grd (decide (args.length = d.params)) (outcome (execs ⟨callN Q n, Q.gv, Q.sub⟩ (enter d args) d.body))
  rw [execs_loc (S := S) (C := ⟨callN P n, P.gv, P.sub⟩) (K := ⟨callN Q n, Q.gv, Q.sub⟩) ⟨fun f hf => callN_loc H n f hf, H.gv, H.sub⟩ _ _ hd]
end RL
/-! RLDraw: the draws that all laws share (printed forms: l_cell, l_row). -/
namespace RL
open PySem
def perm6 : List D := [[0, 1, 2], [0, 2, 1], [1, 0, 2], [1, 2, 0], [2, 0, 1], [2, 1, 0]].map fun l => .tuple (l.map fun (i : Int) => .int i)
def gvT : Nat → Option D
  | 0 => some (.tuple [.int 0, .int 1, .int 2])
  | 1 => some (.tuple perm6)
  | 2 => some (.int 6)
  | 3 => some (.int 9)
  | 4 => some (.int 3)
  | 5 => some (.str "0123456789")
  | _ => none
def subT : Nat → Nat → Bool := fun c d => c == d || d == 0 && decide (c ≤ 15) || d == 16
def l_cell : Fn := ⟨2, 2,
   [.ite (.cmp .lt (.var 1) (.fn1 .len (.var 0)))
     [.ret (.idx (.var 0) (.var 1))]
     [],
    .ret (.con (.int 0))]⟩
def l_row : Fn := ⟨5, 2,
   [.asg 2 (.call 68 [(.var 0), (.var 1)]),
    .new 3 (.lst []),
    .for_ (.one 4) .rg1 (.con (.int 60)) (.con .none)
     [.ite (.cmp .lt (.call 68 [(.var 0), (.var 1)]) (.bin .pow (.con (.int 10)) (.con (.int 18))))
       [.asg 2 (.bin .mod (.bin .add (.bin .add (.bin .add (.bin .mul (.var 2) (.con (.int 48271))) (.bin .mul (.con (.int 131)) (.var 4))) (.con (.int 7))) (.call 68 [(.var 0), (.bin .mod (.bin .add (.bin .add (.var 1) (.con (.int 1))) (.var 4)) (.con (.int 20)))])) (.con (.int 2147483647))),
        .app 3 (.bin .mod (.bin .fdiv (.var 2) (.con (.int 11))) (.con (.int 1000)))]
       [.app 3 (.bin .mod (.var 2) (.con (.int 1000))),
        .asg 2 (.bin .fdiv (.var 2) (.con (.int 1000)))]],
    .frz [3],
    .ret (.var 3)]⟩
section
variable {P : Prg} {n : Nat}
theorem cell_ok (h : P.fn 68 = some l_cell) (ns : List Int) (k : Int) (hk : 0 ≤ k) : ∃ z, callN P (n + 1) 68 [.list (ns.map .int), .int k] = .ok (.dat (.int z)) := by
  rw [callN_eq h rfl]
  by_cases hlt : k < ns.length
  · obtain ⟨j, rfl⟩ := Int.eq_ofNat_of_zero_le hk
    have hj : j < ns.length := by omega
    refine ⟨ns[j], ?_⟩
    simp [l_cell, enter, execs, exec, evT, ev, evF, Res.bind, opt, datR, fn1D, rI, cmpD, ordV, ordI, retB, truthy, SR.of, SR.seq, hlt, idxD, ret, outcome, frozen, L2.atI, L2.ixN, hj]
  · refine ⟨0, ?_⟩
    simp [l_cell, enter, execs, exec, evT, ev, evF, Res.bind, opt, datR, fn1D, rI, cmpD, ordV, ordI, retB, truthy, SR.of, SR.seq, hlt, idxD, ret, outcome, frozen]
theorem range_get {m i : Nat} {d : D} (h : ((List.range m).map fun i => PyData.int (i : Nat))[i]? = some d) : d = .int (i : Nat) := by
  rw [List.getElem?_map] at h
  by_cases hi : i < m
  · rw [List.getElem?_range hi] at h
    cases h; rfl
  · rw [List.getElem?_eq_none (by simpa using Nat.le_of_not_lt hi)] at h
    cases h
theorem row_ok (h : P.fn 68 = some l_cell) (h2 : P.fn 69 = some l_row) (ns : List Int) (k : Int) (hk : 0 ≤ k) :
    ∃ l : List Int, callN P (n + 2) 69 [.list (ns.map .int), .int k] = .ok (.dat (.list (l.map .int))) ∧ l.length = 60 ∧ ∀ v ∈ l, 0 ≤ v ∧ v < 1000 := by
  rw [callN_eq h2 rfl]
  obtain ⟨z0, hz0⟩ := cell_ok (n := n) h ns k hk
  let C : Cfg := ⟨callN P (n + 1), P.gv, P.sub⟩
  let body : List Stm := [.ite (.cmp .lt (.call 68 [(.var 0), (.var 1)]) (.bin .pow (.con (.int 10)) (.con (.int 18))))
       [.asg 2 (.bin .mod (.bin .add (.bin .add (.bin .add (.bin .mul (.var 2) (.con (.int 48271))) (.bin .mul (.con (.int 131)) (.var 4))) (.con (.int 7))) (.call 68 [(.var 0), (.bin .mod (.bin .add (.bin .add (.var 1) (.con (.int 1))) (.var 4)) (.con (.int 20)))])) (.con (.int 2147483647))),
        .app 3 (.bin .mod (.bin .fdiv (.var 2) (.con (.int 11))) (.con (.int 1000)))]
       [.app 3 (.bin .mod (.var 2) (.con (.int 1000))),
        .asg 2 (.bin .fdiv (.var 2) (.con (.int 1000)))]]
  let Q : Nat → Env → Prop := fun i ρ => i ≤ 60 ∧ ∃ (z : Int) (l : List Int) (t : Option Sl), ρ = [some (.val (.dat (.list (ns.map .int)))), some (.val (.dat (.int k))), some (.val (.dat (.int z))), some (.own (.dat (.list (l.map .int)))), t] ∧ l.length = i ∧ ∀ v ∈ l, 0 ≤ v ∧ v < 1000
  have loop := forL_inv (step := fun r d => SR.opt (bindTg r d (.one 4)) fun r => execs C r body) Q ((List.range 60).map fun i => PyData.int (i : Nat)) 0
    [some (.val (.dat (.list (ns.map .int)))), some (.val (.dat (.int k))), some (.val (.dat (.int z0))), some (.own (.dat (.list []))), none]
    ⟨by omega, z0, [], none, rfl, rfl, fun v hv => by cases hv⟩ (fun i d ρ hd hQ => by
      have hi : i < 60 := by
        have := (List.getElem?_eq_some_iff.mp hd).1
        simpa using this
      have := range_get hd
      subst this
      obtain ⟨_, z, l, t, rfl, hl, hv⟩ := hQ
      rw [Nat.zero_add] at hl
      obtain ⟨z1, hz1⟩ := cell_ok (n := n) h ns ((k + 1 + (i : Int)) % 20) (Int.emod_nonneg _ (by decide))
      have sz : szOk (l.length + 1) = true := by
        have h61 : 61 ≤ sizeLine := by decide
        unfold szOk
        exact decide_eq_true (by omega)
      have fin : ∀ (v : Int) (l' : List Int), 0 ≤ v → v < 1000 → l' = l ++ [v] → l'.length = 0 + i + 1 ∧ ∀ v ∈ l', 0 ≤ v ∧ v < 1000 := fun v l' h1 h2 e => by
        subst e
        refine ⟨by simp [hl], fun w hw => ?_⟩
        rcases List.mem_append.mp hw with q | q
        · exact hv w q
        · have : w = v := by simpa using q
          subst this; exact ⟨h1, h2⟩
      by_cases hlt : z0 < 10 ^ 18
      · refine ⟨_, ?_, by omega, (z * 48271 + 131 * (i : Int) + 7 + z1) % 2147483647, l ++ [(z * 48271 + 131 * (i : Int) + 7 + z1) % 2147483647 / 11 % 1000], some (.val (.dat (.int i))), rfl, fin _ _ (Int.emod_nonneg _ (by decide)) (Int.emod_lt_of_pos _ (by decide)) rfl⟩
        have sm : smallI 48271 = true := by decide
        have sm2 : smallI 131 = true := by decide
        have hl2 : decide (z0 < (10 : Int) ^ 18) = true := decide_eq_true hlt
        simp [body, C, SR.opt, bindTg, execs, exec, evT, ev, evs, evF, evD, dat, Res.bind, opt, datR, binD, rI, grdO, hz0, cmpD, ordV, ordI, retB, truthy, SR.of, SR.seq, ret, frozen, sm, sm2, hz1, ownL, appV, sz]
        simp [show z0 < 1000000000000000000 from hlt, SR.seq, execs, exec, SR.of, evF, ev, evs, Res.bind, opt, dat, datR, binD, rI, grdO, ret, frozen, sm, sm2, hz1, SR.opt, ownL, evD, appV, sz]
      · refine ⟨_, ?_, by omega, z / 1000, l ++ [z % 1000], some (.val (.dat (.int i))), rfl, fin _ _ (Int.emod_nonneg _ (by decide)) (Int.emod_lt_of_pos _ (by decide)) rfl⟩
        simp [body, C, SR.opt, bindTg, execs, exec, evT, ev, evs, evF, evD, dat, Res.bind, opt, datR, binD, rI, grdO, hz0, cmpD, ordV, ordI, retB, truthy, SR.of, SR.seq, ret, frozen, hz1, ownL, appV, sz]
        simp [show ¬ z0 < 1000000000000000000 from hlt, SR.seq, execs, exec, SR.of, evF, ev, evs, Res.bind, opt, dat, datR, binD, rI, grdO, ret, frozen, hz1, SR.opt, ownL, evD, appV, sz])
  obtain ⟨ρ', e, _, z, l, t, rfl, hl, hv⟩ := loop
  refine ⟨l, ?_, by simpa using hl, hv⟩
  have e1 : outcome (execs C (enter l_row [.list (ns.map .int), .int k]) l_row.body) = outcome ((forL (fun r d => SR.opt (bindTg r d (.one 4)) fun r => execs C r body) ((List.range 60).map fun i => PyData.int (i : Nat)) [some (.val (.dat (.list (ns.map .int)))), some (.val (.dat (.int k))), some (.val (.dat (.int z0))), some (.own (.dat (.list []))), none]).seq fun r => execs C r [.frz [3], .ret (.var 3)]) := by
    simp [l_row, enter, C, body, execs, exec, evs, ev, evF, Res.bind, opt, dat, hz0, SR.of, SR.seq, frozen, fresh, grdO, SR.opt, szOk, ret, itemsOf, rngOk]
  show outcome (execs C (enter l_row [.list (ns.map .int), .int k]) l_row.body) = _
  rw [e1, e]
  simp [SR.seq, execs, exec, frzAll, frz1, SR.of, evF, ev, Res.bind, opt, frozen, outcome]
end
end RL
/-! the defs of the program and of the laws in the language of RLCore, printed by gen2.py -/
namespace RL
open PySem
-- 1 in_range : 0=value 1=low 2=high
def f_in_range : Fn := ⟨3, 3,
   [.ret (.and (.isi (.var 0) .int) (.and (.not (.isi (.var 0) .bool)) (.chn .le .le (.var 1) (.var 0) (.var 2))))]⟩
-- 2 is_permutation : 0=value 1=one
def c_is_permutation_0 : Ex := (.cpi [1] (.one 1) .items (.var 0) (.con .none) (.not (.call 1 [(.var 1), (.con (.int 0)), (.con (.int 2))])) (.var 1))
def f_is_permutation : Fn := ⟨2, 1,
   [.ite (.or (.not (.isi (.var 0) .tuple)) (.or (.cmp .ne (.fn1 .len (.var 0)) (.con (.int 3))) c_is_permutation_0))
     [.ret (.con (.bool false))]
     [],
    .ret (.cmp .isin (.var 0) (.glo 1))]⟩
-- 3 check_permutation : 0=value
def f_check_permutation : Fn := ⟨1, 1,
   [.ite (.not (.call 2 [(.var 0)]))
     [.raise 4]
     []]⟩
-- 4 after : 0=one 1=other 2=name
def c_after_0 : Ex := (.cpr [2] (.one 2) .items (.var 0) (.con .none) (.idx (.var 1) (.var 2)))
def f_after : Fn := ⟨3, 2,
   [.ret (.fn1 .tuple c_after_0)]⟩
-- 5 opposite : 0=one 1=name
def c_opposite_0 : Ex := (.cpr [1] (.one 1) .items (.glo 0) (.con .none) (.mt .index (.var 0) (.var 1)))
def f_opposite : Fn := ⟨2, 1,
   [.ret (.fn1 .tuple c_opposite_0)]⟩
-- 6 compose : 0=one 1=other
def f_compose : Fn := ⟨2, 2,
   [.exp (.call 3 [(.var 0)]),
    .exp (.call 3 [(.var 1)]),
    .ret (.call 4 [(.var 0), (.var 1)])]⟩
-- 7 inverse : 0=one
def f_inverse : Fn := ⟨1, 1,
   [.exp (.call 3 [(.var 0)]),
    .ret (.call 5 [(.var 0)])]⟩
-- 8 is_edge : 0=vertices 1=value
def f_is_edge : Fn := ⟨2, 2,
   [.ite (.or (.not (.isi (.var 1) .tuple)) (.or (.cmp .ne (.fn1 .len (.var 1)) (.con (.int 2))) (.not (.call 1 [(.idx (.var 1) (.con (.int 0))), (.con (.int 0)), (.bin .sub (.var 0) (.con (.int 1)))]))))
     [.ret (.con (.bool false))]
     [],
    .ret (.call 1 [(.idx (.var 1) (.con (.int 1))), (.bin .add (.idx (.var 1) (.con (.int 0))) (.con (.int 1))), (.bin .sub (.var 0) (.con (.int 1)))])]⟩
-- 9 tree_of : 0=graph 1=found 2=queue 3=vertex 4=edge 5=other
def b_tree_of_1 : List Stm :=
  [.asg 5 (.bin .sub (.fn1 .sum (.var 4)) (.var 3)),
  .ite (.and (.cmp .isin (.var 3) (.var 4)) (.cmp .notin (.var 5) (.var 1)))
   [.set 1 (.var 5) (.bin .add (.idx (.var 1) (.var 3)) (.tup [(.var 5)])),
    .app 2 (.var 5)]
   []]
def s_tree_of_1 : Stm := .for_ (.one 4) .items (.idx (.var 0) (.con (.int 1))) (.con .none) b_tree_of_1
def b_tree_of_0 : List Stm :=
  [.pop (.one 3) 2 (some 0),
  s_tree_of_1]
def s_tree_of_0 : Stm := .whl (.var 2) b_tree_of_0
def f_tree_of : Fn := ⟨6, 1,
   [.new 1 (.dc1 (.con (.int 0)) (.tup [(.con (.int 0))])),
    .new 2 (.lst [(.con (.int 0))]),
    s_tree_of_0,
    .frz [1],
    .ret (.var 1)]⟩
-- 10 is_graph : 0=value 1=edge 2=following
def c_is_graph_0 : Ex := (.cpi [1] (.one 1) .items (.idx (.var 0) (.con (.int 1))) (.con .none) (.not (.call 8 [(.idx (.var 0) (.con (.int 0))), (.var 1)])) (.var 1))
def c_is_graph_1 : Ex := (.cpi [1, 2] (.many [(.one 1), (.one 2)]) .zip (.idx (.var 0) (.con (.int 1))) (.slf (.idx (.var 0) (.con (.int 1))) (.con (.int 1))) (.cmp .ge (.var 1) (.var 2)) (.con (.int 1)))
def f_is_graph : Fn := ⟨3, 1,
   [.ite (.or (.not (.isi (.var 0) .tuple)) (.or (.cmp .ne (.fn1 .len (.var 0)) (.con (.int 2))) (.not (.call 1 [(.idx (.var 0) (.con (.int 0))), (.con (.int 1)), (.glo 2)]))))
     [.ret (.con (.bool false))]
     [],
    .ite (.or (.not (.isi (.idx (.var 0) (.con (.int 1))) .tuple)) (.cmp .gt (.fn1 .len (.idx (.var 0) (.con (.int 1)))) (.glo 3)))
     [.ret (.con (.bool false))]
     [],
    .ite c_is_graph_0
     [.ret (.con (.bool false))]
     [],
    .ite c_is_graph_1
     [.ret (.con (.bool false))]
     [],
    .ret (.cmp .eq (.fn1 .len (.call 9 [(.var 0)])) (.idx (.var 0) (.con (.int 0))))]⟩
-- 11 check_graph : 0=graph
def f_check_graph : Fn := ⟨1, 1,
   [.ite (.not (.call 10 [(.var 0)]))
     [.raise 2]
     []]⟩
-- 12 are_labels : 0=graph 1=value 2=one
def c_are_labels_0 : Ex := (.cpi [2] (.one 2) .items (.var 1) (.con .none) (.not (.call 2 [(.var 2)])) (.var 2))
def f_are_labels : Fn := ⟨3, 2,
   [.ite (.or (.not (.isi (.var 1) .tuple)) (.cmp .ne (.fn1 .len (.var 1)) (.fn1 .len (.idx (.var 0) (.con (.int 1))))))
     [.ret (.con (.bool false))]
     [],
    .ret (.not c_are_labels_0)]⟩
-- 13 check_labels : 0=graph 1=labels
def f_check_labels : Fn := ⟨2, 2,
   [.exp (.call 11 [(.var 0)]),
    .ite (.not (.call 12 [(.var 0), (.var 1)]))
     [.raise 3]
     []]⟩
-- 14 is_walk : 0=graph 1=value 2=vertex 3=one 4=other
def c_is_walk_0 : Ex := (.cpi [2] (.one 2) .items (.var 1) (.con .none) (.not (.call 1 [(.var 2), (.con (.int 0)), (.bin .sub (.idx (.var 0) (.con (.int 0))) (.con (.int 1)))])) (.var 2))
def c_is_walk_1 : Ex := (.cpi [3, 4] (.many [(.one 3), (.one 4)]) .zip (.var 1) (.slf (.var 1) (.con (.int 1))) (.cmp .notin (.tup [(.fn2 .min (.var 3) (.var 4)), (.fn2 .max (.var 3) (.var 4))]) (.idx (.var 0) (.con (.int 1)))) (.con (.int 1)))
def f_is_walk : Fn := ⟨5, 2,
   [.ite (.or (.not (.isi (.var 1) .tuple)) (.not (.var 1)))
     [.ret (.con (.bool false))]
     [],
    .ite c_is_walk_0
     [.ret (.con (.bool false))]
     [],
    .ret (.not c_is_walk_1)]⟩
-- 15 step_label : 0=graph 1=labels 2=one 3=other
def f_step_label : Fn := ⟨4, 4,
   [.ite (.cmp .lt (.var 2) (.var 3))
     [.ret (.idx (.var 1) (.mt .index (.idx (.var 0) (.con (.int 1))) (.tup [(.var 2), (.var 3)])))]
     [],
    .ret (.call 5 [(.idx (.var 1) (.mt .index (.idx (.var 0) (.con (.int 1))) (.tup [(.var 3), (.var 2)])))])]⟩
-- 16 product_of : 0=graph 1=labels 2=walk 3=result 4=one 5=other
def b_product_of_0 : List Stm :=
  [.asg 3 (.call 4 [(.var 3), (.call 15 [(.var 0), (.var 1), (.var 4), (.var 5)])])]
def s_product_of_0 : Stm := .for_ (.many [(.one 4), (.one 5)]) .zip (.var 2) (.slf (.var 2) (.con (.int 1))) b_product_of_0
def f_product_of : Fn := ⟨6, 3,
   [.asg 3 (.glo 0),
    s_product_of_0,
    .ret (.var 3)]⟩
-- 17 product : 0=graph 1=labels 2=walk
def f_product : Fn := ⟨3, 3,
   [.exp (.call 13 [(.var 0), (.var 1)]),
    .ite (.not (.call 14 [(.var 0), (.var 2)]))
     [.raise 7]
     [],
    .ret (.call 16 [(.var 0), (.var 1), (.var 2)])]⟩
-- 18 loops_of : 0=graph 1=tree 2=result 3=one 4=other
def b_loops_of_0 : List Stm :=
  [.ite (.and (.cmp .ne (.bin .add (.idx (.var 1) (.var 3)) (.tup [(.var 4)])) (.idx (.var 1) (.var 4))) (.cmp .ne (.bin .add (.idx (.var 1) (.var 4)) (.tup [(.var 3)])) (.idx (.var 1) (.var 3))))
   [.app 2 (.bin .add (.idx (.var 1) (.var 3)) (.rev (.idx (.var 1) (.var 4))))]
   []]
def s_loops_of_0 : Stm := .for_ (.many [(.one 3), (.one 4)]) .items (.idx (.var 0) (.con (.int 1))) (.con .none) b_loops_of_0
def f_loops_of : Fn := ⟨5, 1,
   [.asg 1 (.call 9 [(.var 0)]),
    .new 2 (.lst []),
    s_loops_of_0,
    .frz [2],
    .ret (.var 2)]⟩
-- 19 loops : 0=graph
def f_loops : Fn := ⟨1, 1,
   [.exp (.call 11 [(.var 0)]),
    .ret (.call 18 [(.var 0)])]⟩
-- 20 format_labels : 0=graph 1=labels 2=lines 3=one 4=other 5=names 6=word 7=name
def c_format_labels_0 : Ex := (.cpr [7] (.one 7) .items (.var 5) (.con .none) (.fn1 .str (.var 7)))
def b_format_labels_0 : List Stm :=
  [.asg 6 (.mt .join (.con (.str ⟨#[]⟩)) c_format_labels_0),
  .app 2 (.fst [(.var 3), (.con (.str ⟨#[45]⟩)), (.var 4), (.con (.str ⟨#[32]⟩)), (.var 6)])]
def s_format_labels_0 : Stm := .for_ (.many [(.many [(.one 3), (.one 4)]), (.one 5)]) .zip (.idx (.var 0) (.con (.int 1))) (.var 1) b_format_labels_0
def f_format_labels : Fn := ⟨8, 2,
   [.exp (.call 13 [(.var 0), (.var 1)]),
    .new 2 (.lst [(.fst [(.con (.str ⟨#[118, 101, 114, 116, 105, 99, 101, 115, 32]⟩)), (.idx (.var 0) (.con (.int 0)))])]),
    s_format_labels_0,
    .ret (.mt .join (.con (.str ⟨#[10]⟩)) (.var 2))]⟩
-- 21 is_renaming : 0=graph 1=value 2=one
def c_is_renaming_0 : Ex := (.cpi [2] (.one 2) .items (.var 1) (.con .none) (.not (.call 2 [(.var 2)])) (.var 2))
def f_is_renaming : Fn := ⟨3, 2,
   [.ite (.or (.not (.isi (.var 1) .tuple)) (.cmp .ne (.fn1 .len (.var 1)) (.idx (.var 0) (.con (.int 0)))))
     [.ret (.con (.bool false))]
     [],
    .ret (.not c_is_renaming_0)]⟩
-- 22 renamed_labels : 0=graph 1=labels 2=renaming 3=result 4=one 5=other 6=label
def b_renamed_labels_0 : List Stm :=
  [.app 3 (.call 4 [(.call 4 [(.call 5 [(.idx (.var 2) (.var 4))]), (.var 6)]), (.idx (.var 2) (.var 5))])]
def s_renamed_labels_0 : Stm := .for_ (.many [(.many [(.one 4), (.one 5)]), (.one 6)]) .zip (.idx (.var 0) (.con (.int 1))) (.var 1) b_renamed_labels_0
def f_renamed_labels : Fn := ⟨7, 3,
   [.new 3 (.lst []),
    s_renamed_labels_0,
    .ret (.fn1 .tuple (.var 3))]⟩
-- 23 rename : 0=graph 1=labels 2=renaming
def f_rename : Fn := ⟨3, 3,
   [.exp (.call 13 [(.var 0), (.var 1)]),
    .ite (.not (.call 21 [(.var 0), (.var 2)]))
     [.raise 5]
     [],
    .ret (.call 22 [(.var 0), (.var 1), (.var 2)])]⟩
-- 24 tree_renaming : 0=graph 1=labels 2=names 3=tree 4=vertex
def c_tree_renaming_0 : Ex := (.cpr [4] (.one 4) .rg1 (.idx (.var 0) (.con (.int 0))) (.con .none) (.call 4 [(.call 5 [(.call 16 [(.var 0), (.var 1), (.idx (.var 3) (.var 4))])]), (.var 2)]))
def f_tree_renaming : Fn := ⟨5, 3,
   [.asg 3 (.call 9 [(.var 0)]),
    .ret (.fn1 .tuple c_tree_renaming_0)]⟩
-- 25 check_pair : 0=graph 1=one 2=other
def f_check_pair : Fn := ⟨3, 3,
   [.exp (.call 13 [(.var 0), (.var 1)]),
    .ite (.not (.call 12 [(.var 0), (.var 2)]))
     [.raise 3]
     []]⟩
-- 26 matching : 0=graph 1=one 2=other 3=back 4=names 5=forth 6=renaming 7=first 8=second
def c_matching_0 : Ex := (.cpr [7, 8] (.many [(.one 7), (.one 8)]) .zip (.var 5) (.var 3) (.call 4 [(.var 7), (.call 5 [(.var 8)])]))
def b_matching_0 : List Stm :=
  [.asg 5 (.call 24 [(.var 0), (.var 1), (.var 4)]),
  .asg 6 (.fn1 .tuple c_matching_0),
  .ite (.cmp .eq (.call 22 [(.var 0), (.var 1), (.var 6)]) (.var 2))
   [.ret (.var 6)]
   []]
def s_matching_0 : Stm := .for_ (.one 4) .items (.glo 1) (.con .none) b_matching_0
def f_matching : Fn := ⟨9, 3,
   [.asg 3 (.call 24 [(.var 0), (.var 2), (.glo 0)]),
    s_matching_0,
    .ret (.con .none)]⟩
-- 27 are_alike : 0=graph 1=one 2=other
def f_are_alike : Fn := ⟨3, 3,
   [.exp (.call 25 [(.var 0), (.var 1), (.var 2)]),
    .ret (.isn false (.call 26 [(.var 0), (.var 1), (.var 2)]))]⟩
-- 28 count_kinds : 0=graph 1=all_six 2=own_two 3=own_three 4=walk
def b_count_kinds_0 : List Stm :=
  [.par [1, 2, 3] [(.bin .mul (.con (.int 6)) (.var 1)), (.bin .mul (.con (.int 2)) (.var 2)), (.bin .mul (.con (.int 3)) (.var 3))]]
def s_count_kinds_0 : Stm := .for_ (.one 4) .items (.call 18 [(.var 0)]) (.con .none) b_count_kinds_0
def f_count_kinds : Fn := ⟨5, 1,
   [.exp (.call 11 [(.var 0)]),
    .unp [(.one 1), (.one 2), (.one 3)] (.tup [(.con (.int 1)), (.con (.int 1)), (.con (.int 1))]),
    s_count_kinds_0,
    .ret (.bin .fdiv (.bin .add (.bin .add (.var 1) (.bin .mul (.con (.int 3)) (.var 2))) (.bin .mul (.con (.int 2)) (.var 3))) (.con (.int 6)))]⟩
-- 29 least_alike : 0=graph 1=labels 2=names
def c_least_alike_0 : Ex := (.cpr [2] (.one 2) .items (.glo 1) (.con .none) (.call 22 [(.var 0), (.var 1), (.call 24 [(.var 0), (.var 1), (.var 2)])]))
def f_least_alike : Fn := ⟨3, 2,
   [.ret (.fn1 .min c_least_alike_0)]⟩
-- 30 all_kinds : 0=graph 1=tree 2=rows 3=one 4=other 5=in_tree 6=longer 7=labels 8=names
def c_all_kinds_0 : Ex := (.cpr [8] (.one 8) .items (.ite (.var 5) (.tup [(.glo 0)]) (.glo 1)) (.con .none) (.bin .add (.var 7) (.tup [(.var 8)])))
def b_all_kinds_1 : List Stm :=
  [.ext 6 c_all_kinds_0]
def s_all_kinds_1 : Stm := .for_ (.one 7) .items (.var 2) (.con .none) b_all_kinds_1
def b_all_kinds_0 : List Stm :=
  [.asg 5 (.or (.cmp .eq (.bin .add (.idx (.var 1) (.var 3)) (.tup [(.var 4)])) (.idx (.var 1) (.var 4))) (.cmp .eq (.bin .add (.idx (.var 1) (.var 4)) (.tup [(.var 3)])) (.idx (.var 1) (.var 3)))),
  .new 6 (.lst []),
  s_all_kinds_1,
  .frz [6],
  .asg 2 (.var 6)]
def s_all_kinds_0 : Stm := .for_ (.many [(.one 3), (.one 4)]) .items (.idx (.var 0) (.con (.int 1))) (.con .none) b_all_kinds_0
def c_all_kinds_1 : Ex := (.cpi [3] (.one 3) .items (.var 2) (.con .none) (.cmp .eq (.var 3) (.call 29 [(.var 0), (.var 3)])) (.var 3))
def f_all_kinds : Fn := ⟨9, 1,
   [.ite (.cmp .gt (.fn1 .len (.call 18 [(.var 0)])) (.glo 4))
     [.raise 14]
     [],
    .asg 1 (.call 9 [(.var 0)]),
    .asg 2 (.lst [(.tup [])]),
    s_all_kinds_0,
    .ret (.fn1 .sorted c_all_kinds_1)]⟩
-- 31 changes : 0=graph 1=labels 2=walk 3=row 4=name
def c_changes_0 : Ex := (.cpi [4] (.one 4) .items (.glo 0) (.con .none) (.cmp .ne (.idx (.var 3) (.var 4)) (.var 4)) (.var 4))
def f_changes : Fn := ⟨5, 3,
   [.asg 3 (.call 16 [(.var 0), (.var 1), (.var 2)]),
    .ret (.fn1 .len c_changes_0)]⟩
-- 32 are_answers : 0=graph 1=value 2=answer
def b_are_answers_0 : List Stm :=
  [.ite (.or (.not (.isi (.var 2) .tuple)) (.or (.cmp .ne (.fn1 .len (.var 2)) (.con (.int 2))) (.not (.call 14 [(.var 0), (.idx (.var 2) (.con (.int 0)))]))))
   [.ret (.con (.bool false))]
   [],
  .ite (.or (.cmp .ne (.idx (.idx (.var 2) (.con (.int 0))) (.con (.int 0))) (.idx (.idx (.var 2) (.con (.int 0))) (.neg (.con (.int 1))))) (.or (.not (.isi (.idx (.var 2) (.con (.int 1))) .int)) (.isi (.idx (.var 2) (.con (.int 1))) .bool)))
   [.ret (.con (.bool false))]
   [],
  .ite (.cmp .notin (.idx (.var 2) (.con (.int 1))) (.tup [(.con (.int 0)), (.con (.int 2)), (.con (.int 3))]))
   [.ret (.con (.bool false))]
   []]
def s_are_answers_0 : Stm := .for_ (.one 2) .items (.var 1) (.con .none) b_are_answers_0
def f_are_answers : Fn := ⟨3, 2,
   [.ite (.not (.isi (.var 1) .tuple))
     [.ret (.con (.bool false))]
     [],
    s_are_answers_0,
    .ret (.con (.bool true))]⟩
-- 33 candidates : 0=graph 1=answers 2=every 3=result 4=labels 5=walk 6=told
def c_candidates_0 : Ex := (.cpi [5, 6] (.many [(.one 5), (.one 6)]) .items (.var 1) (.con .none) (.cmp .ne (.call 31 [(.var 0), (.var 4), (.var 5)]) (.var 6)) (.var 5))
def b_candidates_0 : List Stm :=
  [.ite (.not c_candidates_0)
   [.app 3 (.var 4)]
   []]
def s_candidates_0 : Stm := .for_ (.one 4) .items (.var 2) (.con .none) b_candidates_0
def f_candidates : Fn := ⟨7, 2,
   [.exp (.call 11 [(.var 0)]),
    .asg 2 (.call 30 [(.var 0)]),
    .ite (.not (.call 32 [(.var 0), (.var 1)]))
     [.raise 8]
     [],
    .new 3 (.lst []),
    s_candidates_0,
    .frz [3],
    .ret (.var 3)]⟩
-- 34 part_of : 0=graph 1=labels 2=start 3=found 4=queue 5=vertex 6=name 7=edge 8=other 9=point
def b_part_of_1 : List Stm :=
  [.ite (.cmp .isin (.var 5) (.var 7))
   [.asg 8 (.bin .sub (.fn1 .sum (.var 7)) (.var 5)),
    .asg 9 (.tup [(.var 8), (.idx (.call 15 [(.var 0), (.var 1), (.var 5), (.var 8)]) (.var 6))]),
    .ite (.cmp .notin (.var 9) (.var 3))
     [.set 3 (.var 9) (.con (.bool true)),
      .app 4 (.var 9)]
     []]
   []]
def s_part_of_1 : Stm := .for_ (.one 7) .items (.idx (.var 0) (.con (.int 1))) (.con .none) b_part_of_1
def b_part_of_0 : List Stm :=
  [.pop (.many [(.one 5), (.one 6)]) 4 (some 0),
  s_part_of_1]
def s_part_of_0 : Stm := .whl (.var 4) b_part_of_0
def f_part_of : Fn := ⟨10, 3,
   [.new 3 (.dc1 (.var 2) (.con (.bool true))),
    .new 4 (.lst [(.var 2)]),
    s_part_of_0,
    .ret (.fn1 .tuple (.fn1 .sorted (.var 3)))]⟩
-- 35 parts : 0=graph 1=labels 2=result 3=name 4=part
def b_parts_0 : List Stm :=
  [.asg 4 (.call 34 [(.var 0), (.var 1), (.tup [(.con (.int 0)), (.var 3)])]),
  .ite (.cmp .notin (.var 4) (.var 2))
   [.app 2 (.var 4)]
   []]
def s_parts_0 : Stm := .for_ (.one 3) .rg1 (.con (.int 3)) (.con .none) b_parts_0
def f_parts : Fn := ⟨5, 2,
   [.exp (.call 13 [(.var 0), (.var 1)]),
    .new 2 (.lst []),
    s_parts_0,
    .ret (.fn1 .sorted (.var 2))]⟩
-- 36 all_renamings : 0=count 1=result 2=time 3=longer 4=one 5=names
def c_all_renamings_0 : Ex := (.cpr [5] (.one 5) .items (.glo 1) (.con .none) (.bin .add (.var 4) (.tup [(.var 5)])))
def b_all_renamings_1 : List Stm :=
  [.ext 3 c_all_renamings_0]
def s_all_renamings_1 : Stm := .for_ (.one 4) .items (.var 1) (.con .none) b_all_renamings_1
def b_all_renamings_0 : List Stm :=
  [.new 3 (.lst []),
  s_all_renamings_1,
  .frz [3],
  .asg 1 (.var 3)]
def s_all_renamings_0 : Stm := .for_ (.one 2) .rg1 (.bin .sub (.var 0) (.con (.int 1))) (.con .none) b_all_renamings_0
def f_all_renamings : Fn := ⟨6, 1,
   [.asg 1 (.lst [(.tup [(.glo 0)])]),
    s_all_renamings_0,
    .ret (.var 1)]⟩
-- 37 changed_edges : 0=graph 1=labels 2=renaming 3=row 4=number 5=label
def c_changed_edges_0 : Ex := (.cpi [4, 5] (.many [(.one 4), (.one 5)]) .enm (.var 3) (.con .none) (.cmp .ne (.var 5) (.glo 0)) (.var 4))
def f_changed_edges : Fn := ⟨6, 3,
   [.asg 3 (.call 22 [(.var 0), (.var 1), (.var 2)]),
    .ret (.fn1 .tuple c_changed_edges_0)]⟩
-- 38 fewest_changes : 0=graph 1=labels 2=found 3=least 4=renaming 5=edges
def c_fewest_changes_0 : Ex := (.cpr [4] (.one 4) .items (.call 36 [(.idx (.var 0) (.con (.int 0)))]) (.con .none) (.call 37 [(.var 0), (.var 1), (.var 4)]))
def c_fewest_changes_1 : Ex := (.cpr [5] (.one 5) .items (.var 2) (.con .none) (.fn1 .len (.var 5)))
def c_fewest_changes_2 : Ex := (.cpi [5] (.one 5) .items (.var 2) (.con .none) (.cmp .eq (.fn1 .len (.var 5)) (.var 3)) (.var 5))
def f_fewest_changes : Fn := ⟨6, 2,
   [.exp (.call 13 [(.var 0), (.var 1)]),
    .asg 2 c_fewest_changes_0,
    .asg 3 (.fn1 .min c_fewest_changes_1),
    .ret (.fn1 .min c_fewest_changes_2)]⟩
-- 39 check_vertex : 0=graph 1=vertex
def f_check_vertex : Fn := ⟨2, 2,
   [.ite (.not (.call 1 [(.var 1), (.con (.int 0)), (.bin .sub (.idx (.var 0) (.con (.int 0))) (.con (.int 1)))]))
     [.raise 6]
     []]⟩
-- 40 rename_at : 0=graph 1=labels 2=vertex 3=names 4=one
def c_rename_at_0 : Ex := (.cpr [4] (.one 4) .rg1 (.idx (.var 0) (.con (.int 0))) (.con .none) (.ite (.cmp .eq (.var 4) (.var 2)) (.var 3) (.glo 0)))
def f_rename_at : Fn := ⟨5, 4,
   [.exp (.call 13 [(.var 0), (.var 1)]),
    .exp (.call 39 [(.var 0), (.var 2)]),
    .ite (.not (.call 2 [(.var 3)]))
     [.raise 4]
     [],
    .ret (.call 22 [(.var 0), (.var 1), (.fn1 .tuple c_rename_at_0)])]⟩
-- 41 turned : 0=one 1=names
def f_turned : Fn := ⟨2, 2,
   [.ret (.call 4 [(.call 4 [(.call 5 [(.var 1)]), (.var 0)]), (.var 1)])]⟩
-- 42 renaming_between : 0=graph 1=one 2=other 3=found
def f_renaming_between : Fn := ⟨4, 3,
   [.exp (.call 25 [(.var 0), (.var 1), (.var 2)]),
    .asg 3 (.call 26 [(.var 0), (.var 1), (.var 2)]),
    .ite (.isn true (.var 3))
     [.raise 9]
     [],
    .ret (.var 3)]⟩
-- 43 fits : 0=graph 1=one 2=other 3=walks 4=names 5=walk
def b_fits_0 : List Stm :=
  [.ite (.cmp .ne (.call 41 [(.call 16 [(.var 0), (.var 1), (.var 5)]), (.var 4)]) (.call 16 [(.var 0), (.var 2), (.var 5)]))
   [.ret (.con (.bool false))]
   []]
def s_fits_0 : Stm := .for_ (.one 5) .items (.var 3) (.con .none) b_fits_0
def f_fits : Fn := ⟨6, 5,
   [s_fits_0,
    .ret (.con (.bool true))]⟩
-- 44 is_unmatched : 0=graph 1=one 2=other 3=walks 4=names
def c_is_unmatched_0 : Ex := (.cpi [4] (.one 4) .items (.glo 1) (.con .none) (.call 43 [(.var 0), (.var 1), (.var 2), (.var 3), (.var 4)]) (.var 4))
def f_is_unmatched : Fn := ⟨5, 4,
   [.ret (.not c_is_unmatched_0)]⟩
-- 45 paper : 0=graph 1=one 2=other 3=walks 4=place 5=fewer
def b_paper_0 : List Stm :=
  [.asg 5 (.bin .add (.slt (.var 3) (.var 4)) (.slf (.var 3) (.bin .add (.var 4) (.con (.int 1))))),
  .ite (.call 44 [(.var 0), (.var 1), (.var 2), (.var 5)])
   [.asg 3 (.var 5)]
   [.aug 4 .add (.con (.int 1))]]
def s_paper_0 : Stm := .whl (.cmp .lt (.var 4) (.fn1 .len (.var 3))) b_paper_0
def f_paper : Fn := ⟨6, 3,
   [.exp (.call 25 [(.var 0), (.var 1), (.var 2)]),
    .ite (.isn false (.call 26 [(.var 0), (.var 1), (.var 2)]))
     [.raise 10]
     [],
    .asg 3 (.call 18 [(.var 0)]),
    .asg 4 (.con (.int 0)),
    s_paper_0,
    .ret (.var 3)]⟩
-- 46 is_paper : 0=graph 1=one 2=other 3=value 4=walk
def c_is_paper_0 : Ex := (.cpi [4] (.one 4) .items (.var 3) (.con .none) (.not (.call 14 [(.var 0), (.var 4)])) (.var 4))
def c_is_paper_1 : Ex := (.cpi [4] (.one 4) .items (.var 3) (.con .none) (.or (.cmp .ne (.idx (.var 4) (.con (.int 0))) (.con (.int 0))) (.cmp .ne (.idx (.var 4) (.neg (.con (.int 1)))) (.con (.int 0)))) (.var 4))
def f_is_paper : Fn := ⟨5, 4,
   [.exp (.call 25 [(.var 0), (.var 1), (.var 2)]),
    .ite (.or (.not (.isi (.var 3) .list)) c_is_paper_0)
     [.ret (.con (.bool false))]
     [],
    .ite c_is_paper_1
     [.ret (.con (.bool false))]
     [],
    .ret (.call 44 [(.var 0), (.var 1), (.var 2), (.var 3)])]⟩
-- 47 tidy : 0=graph 1=labels 2=names
def c_tidy_0 : Ex := (.cpr [2] (.one 2) .items (.glo 1) (.con .none) (.call 22 [(.var 0), (.var 1), (.call 24 [(.var 0), (.var 1), (.var 2)])]))
def f_tidy : Fn := ⟨3, 2,
   [.exp (.call 13 [(.var 0), (.var 1)]),
    .ret (.fn1 .min c_tidy_0)]⟩
-- 48 kinds : 0=graph
def f_kinds : Fn := ⟨1, 1,
   [.exp (.call 11 [(.var 0)]),
    .ret (.call 30 [(.var 0)])]⟩
-- 49 possible_walks : 0=graph 1=single 2=result 3=one 4=other
def b_possible_walks_1 : List Stm :=
  [.ite (.cmp .ne (.var 3) (.var 4))
   [.app 2 (.bin .add (.var 3) (.slf (.var 4) (.con (.int 1)))),
    .app 2 (.bin .add (.var 3) (.slf (.rev (.var 4)) (.con (.int 1))))]
   []]
def s_possible_walks_1 : Stm := .for_ (.one 4) .items (.var 1) (.con .none) b_possible_walks_1
def b_possible_walks_0 : List Stm :=
  [s_possible_walks_1]
def s_possible_walks_0 : Stm := .for_ (.one 3) .items (.var 1) (.con .none) b_possible_walks_0
def f_possible_walks : Fn := ⟨5, 1,
   [.asg 1 (.call 18 [(.var 0)]),
    .new 2 (.fn1 .list (.var 1)),
    s_possible_walks_0,
    .frz [2],
    .ret (.var 2)]⟩
-- 50 best_walk : 0=graph 1=answers 2=found 3=best 4=walk 5=here 6=worst 7=labels 8=many
def c_best_walk_0 : Ex := (.cpr [7] (.one 7) .items (.var 2) (.con .none) (.call 31 [(.var 0), (.var 7), (.var 4)]))
def c_best_walk_1 : Ex := (.cpr [8] (.one 8) .items (.tup [(.con (.int 0)), (.con (.int 2)), (.con (.int 3))]) (.con .none) (.mt .count (.var 5) (.var 8)))
def b_best_walk_0 : List Stm :=
  [.asg 5 c_best_walk_0,
  .asg 6 (.fn1 .max c_best_walk_1),
  .ite (.and (.cmp .lt (.var 6) (.fn1 .len (.var 2))) (.or (.isn true (.var 3)) (.cmp .lt (.var 6) (.idx (.var 3) (.con (.int 0))))))
   [.asg 3 (.tup [(.var 6), (.var 4)])]
   []]
def s_best_walk_0 : Stm := .for_ (.one 4) .items (.call 49 [(.var 0)]) (.con .none) b_best_walk_0
def f_best_walk : Fn := ⟨9, 2,
   [.asg 2 (.call 33 [(.var 0), (.var 1)]),
    .ite (.not (.var 2))
     [.raise 8]
     [],
    .asg 3 (.con .none),
    s_best_walk_0,
    .ret (.ite (.isn true (.var 3)) (.con .none) (.idx (.var 3) (.con (.int 1))))]⟩
-- 51 crooked : 0=graph 1=labels 2=walk
def b_crooked_0 : List Stm :=
  [.ite (.cmp .ne (.call 16 [(.var 0), (.var 1), (.var 2)]) (.glo 0))
   [.ret (.var 2)]
   []]
def s_crooked_0 : Stm := .for_ (.one 2) .items (.call 18 [(.var 0)]) (.con .none) b_crooked_0
def f_crooked : Fn := ⟨3, 2,
   [s_crooked_0,
    .ret (.con .none)]⟩
-- 52 is_straight : 0=graph 1=labels
def f_is_straight : Fn := ⟨2, 2,
   [.exp (.call 13 [(.var 0), (.var 1)]),
    .ret (.isn true (.call 51 [(.var 0), (.var 1)]))]⟩
-- 53 crooked_walk : 0=graph 1=labels 2=found
def f_crooked_walk : Fn := ⟨3, 2,
   [.exp (.call 13 [(.var 0), (.var 1)]),
    .asg 2 (.call 51 [(.var 0), (.var 1)]),
    .ite (.isn true (.var 2))
     [.raise 10]
     [],
    .ret (.var 2)]⟩
-- 54 straightening : 0=graph 1=labels
def f_straightening : Fn := ⟨2, 2,
   [.exp (.call 13 [(.var 0), (.var 1)]),
    .ite (.isn false (.call 51 [(.var 0), (.var 1)]))
     [.raise 11]
     [],
    .ret (.call 24 [(.var 0), (.var 1), (.glo 0)])]⟩
-- 55 steady_choices : 0=graph 1=labels 2=result 3=part 4=vertex 5=name
def c_steady_choices_0 : Ex := (.cpr [4, 5] (.many [(.one 4), (.one 5)]) .items (.var 3) (.con .none) (.var 5))
def b_steady_choices_0 : List Stm :=
  [.ite (.cmp .eq (.fn1 .len (.var 3)) (.idx (.var 0) (.con (.int 0))))
   [.app 2 (.fn1 .tuple c_steady_choices_0)]
   []]
def s_steady_choices_0 : Stm := .for_ (.one 3) .items (.call 35 [(.var 0), (.var 1)]) (.con .none) b_steady_choices_0
def f_steady_choices : Fn := ⟨6, 2,
   [.new 2 (.lst []),
    s_steady_choices_0,
    .ret (.fn1 .sorted (.var 2))]⟩
-- 56 sheet_counts : 0=graph 1=labels 2=part
def c_sheet_counts_0 : Ex := (.cpr [2] (.one 2) .items (.call 35 [(.var 0), (.var 1)]) (.con .none) (.bin .fdiv (.fn1 .len (.var 2)) (.idx (.var 0) (.con (.int 0)))))
def f_sheet_counts : Fn := ⟨3, 2,
   [.ret (.fn1 .sorted c_sheet_counts_0)]⟩
-- 57 parse_line : 0=line 1=is_first 2=tokens 3=known 4=signs 5=numbers 6=sign
def c_parse_line_0 : Ex := (.cpi [6] (.one 6) .items (.var 4) (.con .none) (.cmp .notin (.var 6) (.glo 5)) (.var 6))
def c_parse_line_1 : Ex := (.cpr [6] (.one 6) .items (.var 4) (.con .none) (.mt .sindex (.glo 5) (.var 6)))
def f_parse_line : Fn := ⟨7, 2,
   [.asg 2 (.mt .split (.var 0) (.con (.str ⟨#[32]⟩))),
    .ite (.cmp .ne (.fn1 .len (.var 2)) (.con (.int 2)))
     [.ret (.con .none)]
     [],
    .ite (.var 1)
     [.asg 3 (.and (.cmp .eq (.idx (.var 2) (.con (.int 0))) (.con (.str ⟨#[118, 101, 114, 116, 105, 99, 101, 115]⟩))) (.and (.cmp .eq (.fn1 .len (.idx (.var 2) (.con (.int 1)))) (.con (.int 1))) (.cmp .isin (.idx (.var 2) (.con (.int 1))) (.glo 5)))),
      .ret (.ite (.var 3) (.mt .sindex (.glo 5) (.idx (.var 2) (.con (.int 1)))) (.con .none))]
     [],
    .ite (.or (.cmp .ne (.fn1 .len (.idx (.var 2) (.con (.int 0)))) (.con (.int 3))) (.or (.cmp .ne (.idx (.idx (.var 2) (.con (.int 0))) (.con (.int 1))) (.con (.str ⟨#[45]⟩))) (.cmp .ne (.fn1 .len (.idx (.var 2) (.con (.int 1)))) (.con (.int 3)))))
     [.ret (.con .none)]
     [],
    .asg 4 (.bin .add (.lst [(.idx (.idx (.var 2) (.con (.int 0))) (.con (.int 0))), (.idx (.idx (.var 2) (.con (.int 0))) (.con (.int 2)))]) (.fn1 .chars (.idx (.var 2) (.con (.int 1))))),
    .ite c_parse_line_0
     [.ret (.con .none)]
     [],
    .asg 5 c_parse_line_1,
    .ret (.tup [(.fn1 .tuple (.slt (.var 5) (.con (.int 2)))), (.fn1 .tuple (.slf (.var 5) (.con (.int 2))))])]⟩
-- 58 parse_labels : 0=text 1=rows 2=number 3=line 4=row 5=graph 6=labels
def b_parse_labels_0 : List Stm :=
  [.asg 4 (.call 57 [(.var 3), (.cmp .eq (.var 2) (.con (.int 0)))]),
  .ite (.isn true (.var 4))
   [.raise1 1 (.var 2)]
   [],
  .app 1 (.var 4)]
def s_parse_labels_0 : Stm := .for_ (.many [(.one 2), (.one 3)]) .enm (.mt .split (.var 0) (.con (.str ⟨#[10]⟩))) (.con .none) b_parse_labels_0
def c_parse_labels_0 : Ex := (.cpr [4] (.one 4) .items (.slf (.var 1) (.con (.int 1))) (.con .none) (.idx (.var 4) (.con (.int 0))))
def c_parse_labels_1 : Ex := (.cpr [4] (.one 4) .items (.slf (.var 1) (.con (.int 1))) (.con .none) (.idx (.var 4) (.con (.int 1))))
def f_parse_labels : Fn := ⟨7, 1,
   [.ite (.not (.isi (.var 0) .str))
     [.raise1 1 (.con .none)]
     [],
    .new 1 (.lst []),
    s_parse_labels_0,
    .asg 5 (.tup [(.idx (.var 1) (.con (.int 0))), (.fn1 .tuple c_parse_labels_0)]),
    .asg 6 (.fn1 .tuple c_parse_labels_1),
    .ite (.or (.not (.call 10 [(.var 5)])) (.not (.call 12 [(.var 5), (.var 6)])))
     [.raise1 1 (.con .none)]
     [],
    .ret (.tup [(.var 5), (.var 6)])]⟩
-- 59 is_odd : 0=one 1=name
def c_is_odd_0 : Ex := (.cpi [1] (.one 1) .items (.glo 0) (.con .none) (.cmp .ne (.idx (.var 0) (.var 1)) (.var 1)) (.var 1))
def f_is_odd : Fn := ⟨2, 1,
   [.ret (.cmp .eq (.fn1 .len c_is_odd_0) (.con (.int 2)))]⟩
-- 60 odd_loop : 0=graph 1=labels 2=walk
def b_odd_loop_0 : List Stm :=
  [.ite (.call 59 [(.call 16 [(.var 0), (.var 1), (.var 2)])])
   [.ret (.var 2)]
   []]
def s_odd_loop_0 : Stm := .for_ (.one 2) .items (.call 18 [(.var 0)]) (.con .none) b_odd_loop_0
def f_odd_loop : Fn := ⟨3, 2,
   [s_odd_loop_0,
    .ret (.con .none)]⟩
-- 61 halves : 0=graph 1=labels 2=tree 3=vertex
def c_halves_0 : Ex := (.cpr [3] (.one 3) .rg1 (.idx (.var 0) (.con (.int 0))) (.con .none) (.fn1 .int (.call 59 [(.call 16 [(.var 0), (.var 1), (.idx (.var 2) (.var 3))])])))
def f_halves : Fn := ⟨4, 2,
   [.exp (.call 13 [(.var 0), (.var 1)]),
    .ite (.isn false (.call 60 [(.var 0), (.var 1)]))
     [.raise 12]
     [],
    .asg 2 (.call 9 [(.var 0)]),
    .ret (.fn1 .tuple c_halves_0)]⟩
-- 62 odd_walk : 0=graph 1=labels 2=found
def f_odd_walk : Fn := ⟨3, 2,
   [.exp (.call 13 [(.var 0), (.var 1)]),
    .asg 2 (.call 60 [(.var 0), (.var 1)]),
    .ite (.isn true (.var 2))
     [.raise 13]
     [],
    .ret (.var 2)]⟩
-- 63 closure : 0=some 1=found 2=queue 3=one 4=other 5=both
def b_closure_1 : List Stm :=
  [.asg 5 (.call 4 [(.var 3), (.var 4)]),
  .ite (.cmp .notin (.var 5) (.var 1))
   [.set 1 (.var 5) (.con (.bool true)),
    .app 2 (.var 5)]
   []]
def s_closure_1 : Stm := .for_ (.one 4) .items (.var 0) (.con .none) b_closure_1
def b_closure_0 : List Stm :=
  [.pop (.one 3) 2 none,
  s_closure_1]
def s_closure_0 : Stm := .whl (.var 2) b_closure_0
def f_closure : Fn := ⟨6, 1,
   [.new 1 (.dc1 (.glo 0) (.con (.bool true))),
    .new 2 (.lst [(.glo 0)]),
    s_closure_0,
    .ret (.fn1 .sorted (.var 1))]⟩
-- 64 group_of : 0=graph 1=labels 2=walk
def c_group_of_0 : Ex := (.cpr [2] (.one 2) .items (.call 18 [(.var 0)]) (.con .none) (.call 16 [(.var 0), (.var 1), (.var 2)]))
def f_group_of : Fn := ⟨3, 2,
   [.ret (.call 63 [c_group_of_0])]⟩
-- 65 loop_group : 0=graph 1=labels
def f_loop_group : Fn := ⟨2, 2,
   [.exp (.call 13 [(.var 0), (.var 1)]),
    .ret (.call 64 [(.var 0), (.var 1)])]⟩
-- 66 keepers : 0=group 1=names 2=one
def c_keepers_1 : Ex := (.cpi [2] (.one 2) .items (.var 0) (.con .none) (.cmp .ne (.call 41 [(.var 2), (.var 1)]) (.var 2)) (.var 2))
def c_keepers_0 : Ex := (.cpi [1] (.one 1) .items (.glo 1) (.con .none) (.not c_keepers_1) (.var 1))
def f_keepers : Fn := ⟨3, 1,
   [.ret c_keepers_0]⟩
-- 67 count_alike : 0=graph 1=labels 2=result 3=vertex
def b_count_alike_0 : List Stm :=
  [.aug 2 .mul (.con (.int 6))]
def s_count_alike_0 : Stm := .for_ (.one 3) .rg1 (.idx (.var 0) (.con (.int 0))) (.con .none) b_count_alike_0
def f_count_alike : Fn := ⟨4, 2,
   [.exp (.call 13 [(.var 0), (.var 1)]),
    .asg 2 (.con (.int 1)),
    s_count_alike_0,
    .ret (.bin .fdiv (.var 2) (.fn1 .len (.call 66 [(.call 64 [(.var 0), (.var 1)])])))]⟩
-- 68 _law_cell : 0=script 1=k
-- 69 _law_row : 0=script 1=at 2=cell 3=found 4=time
-- 70 _law_six : 
def l_six : Fn := ⟨0, 0,
   [.ret (.lst [(.tup [(.con (.int 0)), (.con (.int 1)), (.con (.int 2))]), (.tup [(.con (.int 0)), (.con (.int 2)), (.con (.int 1))]), (.tup [(.con (.int 1)), (.con (.int 0)), (.con (.int 2))]), (.tup [(.con (.int 1)), (.con (.int 2)), (.con (.int 0))]), (.tup [(.con (.int 2)), (.con (.int 0)), (.con (.int 1))]), (.tup [(.con (.int 2)), (.con (.int 1)), (.con (.int 0))])])]⟩
-- 71 _law_back : 0=one 1=found 2=name
def b_l_back_0 : List Stm :=
  [.set 1 (.idx (.var 0) (.var 2)) (.var 2)]
def s_l_back_0 : Stm := .for_ (.one 2) .rg1 (.con (.int 3)) (.con .none) b_l_back_0
def l_back : Fn := ⟨3, 1,
   [.new 1 (.lst [(.con (.int 0)), (.con (.int 0)), (.con (.int 0))]),
    s_l_back_0,
    .ret (.fn1 .tuple (.var 1))]⟩
-- 72 _law_then : 0=some 1=found 2=one
def b_l_then_0 : List Stm :=
  [.asg 1 (.tup [(.idx (.var 2) (.idx (.var 1) (.con (.int 0)))), (.idx (.var 2) (.idx (.var 1) (.con (.int 1)))), (.idx (.var 2) (.idx (.var 1) (.con (.int 2))))])]
def s_l_then_0 : Stm := .for_ (.one 2) .items (.var 0) (.con .none) b_l_then_0
def l_then : Fn := ⟨3, 1,
   [.asg 1 (.tup [(.con (.int 0)), (.con (.int 1)), (.con (.int 2))]),
    s_l_then_0,
    .ret (.var 1)]⟩
-- 73 _law_named : 0=mode 1=one 2=e
def l_named : Fn := ⟨3, 2,
   [.try_ [.ite (.cmp .eq (.var 0) (.con (.int 0)))
       [.ret (.call 7 [(.var 1)])]
       [],
      .ret (.ite (.cmp .eq (.var 0) (.con (.int 1))) (.call 6 [(.var 1), (.tup [(.con (.int 0)), (.con (.int 1)), (.con (.int 2))])]) (.call 6 [(.tup [(.con (.int 0)), (.con (.int 1)), (.con (.int 2))]), (.var 1)]))]
     (.cons 4 2 [.ret (.ite (.and (.isi (.var 2) (.cls 0)) (.not (.isi (.var 2) (.cls 3)))) (.con (.str ⟨#[110, 97, 109, 101, 115]⟩)) (.con (.str ⟨#[111, 116, 104, 101, 114]⟩)))] .nil)]⟩
-- 74 _law_whole : 0=found
def l_whole : Fn := ⟨1, 1,
   [.ret (.and (.isi (.var 0) .int) (.not (.isi (.var 0) .bool)))]⟩
-- 75 _law_in : 0=thing 1=low 2=high
def l_in : Fn := ⟨3, 3,
   [.ret (.and (.call 74 [(.var 0)]) (.chn .le .le (.var 1) (.var 0) (.var 2)))]⟩
-- 76 _law_graph : 0=script 1=at 2=most 3=extra 4=draws 5=vertices 6=edges 7=vertex 8=time 9=one 10=other 11=edge
def b_l_graph_0 : List Stm :=
  [.app 6 (.tup [(.bin .mod (.idx (.var 4) (.var 7)) (.var 7)), (.var 7)])]
def s_l_graph_0 : Stm := .for_ (.one 7) .rg2 (.con (.int 1)) (.var 5) b_l_graph_0
def b_l_graph_1 : List Stm :=
  [.asg 9 (.bin .mod (.idx (.var 4) (.bin .add (.con (.int 21)) (.bin .mul (.con (.int 2)) (.var 8)))) (.var 5)),
  .asg 10 (.bin .mod (.idx (.var 4) (.bin .add (.con (.int 22)) (.bin .mul (.con (.int 2)) (.var 8)))) (.var 5)),
  .asg 11 (.tup [(.fn2 .min (.var 9) (.var 10)), (.fn2 .max (.var 9) (.var 10))]),
  .ite (.and (.cmp .ne (.var 9) (.var 10)) (.and (.cmp .notin (.var 11) (.var 6)) (.cmp .lt (.fn1 .len (.var 6)) (.con (.int 9)))))
   [.app 6 (.var 11)]
   []]
def s_l_graph_1 : Stm := .for_ (.one 8) .rg1 (.bin .mod (.idx (.var 4) (.con (.int 20))) (.bin .add (.var 3) (.con (.int 1)))) (.con .none) b_l_graph_1
def l_graph : Fn := ⟨12, 4,
   [.asg 4 (.call 69 [(.var 0), (.var 1)]),
    .asg 5 (.bin .add (.con (.int 1)) (.bin .mod (.idx (.var 4) (.con (.int 0))) (.var 2))),
    .new 6 (.lst []),
    s_l_graph_0,
    s_l_graph_1,
    .ret (.tup [(.var 5), (.fn1 .tuple (.fn1 .sorted (.var 6)))])]⟩
-- 77 _law_is_graph : 0=value 1=last 2=marks 3=one 4=low 5=high 6=mark
def c_l_is_graph_0 : Ex := (.cpr [6] (.one 6) .items (.var 2) (.con .none) (.ite (.cmp .eq (.var 6) (.var 5)) (.var 4) (.var 6)))
def b_l_is_graph_0 : List Stm :=
  [.ite (.or (.not (.isi (.var 3) .tuple)) (.or (.cmp .ne (.fn1 .len (.var 3)) (.con (.int 2))) (.not (.call 75 [(.idx (.var 3) (.con (.int 0))), (.con (.int 0)), (.bin .sub (.idx (.var 0) (.con (.int 0))) (.con (.int 1)))]))))
   [.ret (.con (.bool false))]
   [],
  .ite (.or (.not (.call 75 [(.idx (.var 3) (.con (.int 1))), (.bin .add (.idx (.var 3) (.con (.int 0))) (.con (.int 1))), (.bin .sub (.idx (.var 0) (.con (.int 0))) (.con (.int 1)))])) (.cmp .le (.var 3) (.var 1)))
   [.ret (.con (.bool false))]
   [],
  .asg 1 (.var 3),
  .unp [(.one 4), (.one 5)] (.fn1 .sorted (.lst [(.idx (.var 2) (.idx (.var 3) (.con (.int 0)))), (.idx (.var 2) (.idx (.var 3) (.con (.int 1))))])),
  .asg 2 c_l_is_graph_0]
def s_l_is_graph_0 : Stm := .for_ (.one 3) .items (.idx (.var 0) (.con (.int 1))) (.con .none) b_l_is_graph_0
def l_is_graph : Fn := ⟨7, 1,
   [.ite (.or (.not (.isi (.var 0) .tuple)) (.or (.cmp .ne (.fn1 .len (.var 0)) (.con (.int 2))) (.not (.call 75 [(.idx (.var 0) (.con (.int 0))), (.con (.int 1)), (.con (.int 6))]))))
     [.ret (.con (.bool false))]
     [],
    .ite (.or (.not (.isi (.idx (.var 0) (.con (.int 1))) .tuple)) (.cmp .gt (.fn1 .len (.idx (.var 0) (.con (.int 1)))) (.con (.int 9))))
     [.ret (.con (.bool false))]
     [],
    .asg 1 (.tup [(.neg (.con (.int 1))), (.neg (.con (.int 1)))]),
    .asg 2 (.fn1 .listRange (.idx (.var 0) (.con (.int 0)))),
    s_l_is_graph_0,
    .ret (.cmp .eq (.fn1 .sortedSet (.var 2)) (.lst [(.con (.int 0))]))]⟩
-- 78 _law_graph_error : 0=mode 1=graph 2=e 3=others
def l_graph_error : Fn := ⟨4, 2,
   [.try_ [.ite (.cmp .eq (.var 0) (.con (.int 0)))
       [.exp (.call 17 [(.var 1), (.con .none), (.con .none)])]
       [.ite (.cmp .eq (.var 0) (.con (.int 1)))
         [.exp (.call 19 [(.var 1)])]
         [.ite (.cmp .eq (.var 0) (.con (.int 2)))
           [.exp (.call 23 [(.var 1), (.con .none), (.con .none)])]
           [.ite (.cmp .eq (.var 0) (.con (.int 3)))
             [.exp (.call 27 [(.var 1), (.con .none), (.con .none)])]
             [.ite (.cmp .eq (.var 0) (.con (.int 4)))
               [.exp (.call 28 [(.var 1)])]
               [.ite (.cmp .eq (.var 0) (.con (.int 5)))
                 [.exp (.call 38 [(.var 1), (.con .none)])]
                 [.ite (.cmp .eq (.var 0) (.con (.int 6)))
                   [.exp (.call 35 [(.var 1), (.con .none)])]
                   [.ite (.cmp .eq (.var 0) (.con (.int 7)))
                     [.exp (.call 33 [(.var 1), (.con .none)])]
                     [.ite (.cmp .eq (.var 0) (.con (.int 8)))
                       [.exp (.call 151 [(.var 1), (.con .none)])]
                       [.exp (.call 160 [(.con .none), (.var 1), (.con .none)])]]]]]]]]]]
     (.cons 0 2 [.ret (.ite (.and (.isi (.var 2) (.cls 2)) (.not (.or (.isi (.var 2) (.cls 3)) (.or (.isi (.var 2) (.cls 8)) (.isi (.var 2) (.cls 5)))))) (.con (.str ⟨#[103, 114, 97, 112, 104]⟩)) (.con (.str ⟨#[111, 116, 104, 101, 114]⟩)))] .nil),
    .ret (.con (.str ⟨#[110, 111, 110, 101]⟩))]⟩
-- 79 _law_labels : 0=script 1=at 2=graph 3=draws 4=place
def c_l_labels_0 : Ex := (.cpr [4] (.one 4) .rg1 (.fn1 .len (.idx (.var 2) (.con (.int 1)))) (.con .none) (.idx (.call 70 []) (.bin .mod (.idx (.var 3) (.bin .add (.con (.int 30)) (.var 4))) (.con (.int 6)))))
def l_labels : Fn := ⟨5, 3,
   [.asg 3 (.call 69 [(.var 0), (.var 1)]),
    .ret (.fn1 .tuple c_l_labels_0)]⟩
-- 80 _law_step : 0=graph 1=labels 2=one 3=other
def l_step : Fn := ⟨4, 4,
   [.ite (.cmp .lt (.var 2) (.var 3))
     [.ret (.idx (.var 1) (.mt .index (.idx (.var 0) (.con (.int 1))) (.tup [(.var 2), (.var 3)])))]
     [],
    .ret (.call 71 [(.idx (.var 1) (.mt .index (.idx (.var 0) (.con (.int 1))) (.tup [(.var 3), (.var 2)])))])]⟩
-- 81 _law_product : 0=graph 1=labels 2=walk 3=place
def c_l_product_0 : Ex := (.cpr [3] (.one 3) .rg2 (.con (.int 1)) (.fn1 .len (.var 2)) (.call 80 [(.var 0), (.var 1), (.idx (.var 2) (.bin .sub (.var 3) (.con (.int 1)))), (.idx (.var 2) (.var 3))]))
def l_product : Fn := ⟨4, 3,
   [.ret (.call 72 [c_l_product_0])]⟩
-- 82 _law_walk : 0=script 1=at 2=graph 3=most 4=draws 5=found 6=time 7=beside 8=edge
def c_l_walk_0 : Ex := (.cpi [8] (.one 8) .items (.idx (.var 2) (.con (.int 1))) (.con .none) (.cmp .isin (.idx (.var 5) (.neg (.con (.int 1)))) (.var 8)) (.bin .sub (.bin .add (.idx (.var 8) (.con (.int 0))) (.idx (.var 8) (.con (.int 1)))) (.idx (.var 5) (.neg (.con (.int 1))))))
def b_l_walk_0 : List Stm :=
  [.asg 7 c_l_walk_0,
  .ite (.cmp .ne (.var 7) (.lst []))
   [.app 5 (.idx (.var 7) (.bin .mod (.idx (.var 4) (.bin .add (.con (.int 2)) (.var 6))) (.fn1 .len (.var 7))))]
   []]
def s_l_walk_0 : Stm := .for_ (.one 6) .rg1 (.bin .mod (.idx (.var 4) (.con (.int 1))) (.bin .add (.var 3) (.con (.int 1)))) (.con .none) b_l_walk_0
def l_walk : Fn := ⟨9, 4,
   [.asg 4 (.call 69 [(.var 0), (.var 1)]),
    .new 5 (.lst [(.bin .mod (.idx (.var 4) (.con (.int 0))) (.idx (.var 2) (.con (.int 0))))]),
    s_l_walk_0,
    .ret (.fn1 .tuple (.var 5))]⟩
-- 83 _law_walked : 0=graph 1=labels 2=walk 3=e
def l_walked : Fn := ⟨4, 3,
   [.try_ [.ret (.call 17 [(.var 0), (.var 1), (.var 2)])]
     (.cons 7 3 [.ret (.ite (.and (.isi (.var 3) (.cls 0)) (.not (.isi (.var 3) (.cls 2)))) (.con (.str ⟨#[119, 97, 108, 107]⟩)) (.con (.str ⟨#[111, 116, 104, 101, 114]⟩)))] (.cons 3 3 [.ret (.ite (.and (.isi (.var 3) (.cls 0)) (.not (.isi (.var 3) (.cls 2)))) (.con (.str ⟨#[108, 97, 98, 101, 108, 115]⟩)) (.con (.str ⟨#[111, 116, 104, 101, 114]⟩)))] .nil))]⟩
-- 84 _law_tree : 0=graph 1=found 2=order 3=place 4=one 5=other 6=goal
def b_l_tree_1 : List Stm :=
  [.ite (.cmp .isin (.idx (.var 2) (.var 3)) (.tup [(.var 4), (.var 5)]))
   [.asg 6 (.bin .sub (.bin .add (.var 4) (.var 5)) (.idx (.var 2) (.var 3))),
    .ite (.cmp .notin (.var 6) (.var 1))
     [.set 1 (.var 6) (.bin .add (.idx (.var 1) (.idx (.var 2) (.var 3))) (.tup [(.var 6)])),
      .app 2 (.var 6)]
     []]
   []]
def s_l_tree_1 : Stm := .for_ (.many [(.one 4), (.one 5)]) .items (.idx (.var 0) (.con (.int 1))) (.con .none) b_l_tree_1
def b_l_tree_0 : List Stm :=
  [s_l_tree_1]
def s_l_tree_0 : Stm := .for_ (.one 3) .rg1 (.idx (.var 0) (.con (.int 0))) (.con .none) b_l_tree_0
def l_tree : Fn := ⟨7, 1,
   [.new 1 (.dc1 (.con (.int 0)) (.tup [(.con (.int 0))])),
    .new 2 (.lst [(.con (.int 0))]),
    s_l_tree_0,
    .frz [1],
    .ret (.var 1)]⟩
-- 85 _law_tree_edges : 0=graph 1=tree 2=found 3=vertex
def b_l_tree_edges_0 : List Stm :=
  [.app 2 (.tup [(.fn1 .min (.slf (.idx (.var 1) (.var 3)) (.neg (.con (.int 2))))), (.fn1 .max (.slf (.idx (.var 1) (.var 3)) (.neg (.con (.int 2)))))])]
def s_l_tree_edges_0 : Stm := .for_ (.one 3) .rg2 (.con (.int 1)) (.idx (.var 0) (.con (.int 0))) b_l_tree_edges_0
def l_tree_edges : Fn := ⟨4, 1,
   [.asg 1 (.call 84 [(.var 0)]),
    .new 2 (.lst []),
    s_l_tree_edges_0,
    .frz [2],
    .ret (.var 2)]⟩
-- 86 _law_loops : 0=graph 1=tree 2=inner 3=one 4=other
def c_l_loops_0 : Ex := (.cpi [3, 4] (.many [(.one 3), (.one 4)]) .items (.idx (.var 0) (.con (.int 1))) (.con .none) (.cmp .notin (.tup [(.var 3), (.var 4)]) (.var 2)) (.bin .add (.idx (.var 1) (.var 3)) (.rev (.idx (.var 1) (.var 4)))))
def l_loops : Fn := ⟨5, 1,
   [.asg 1 (.call 84 [(.var 0)]),
    .asg 2 (.call 85 [(.var 0)]),
    .ret c_l_loops_0]⟩
-- 87 _law_renaming : 0=script 1=at 2=graph 3=draws 4=vertex
def c_l_renaming_0 : Ex := (.cpr [4] (.one 4) .rg1 (.idx (.var 2) (.con (.int 0))) (.con .none) (.idx (.call 70 []) (.bin .mod (.idx (.var 3) (.bin .add (.con (.int 45)) (.var 4))) (.con (.int 6)))))
def l_renaming : Fn := ⟨5, 3,
   [.asg 3 (.call 69 [(.var 0), (.var 1)]),
    .ret (.fn1 .tuple c_l_renaming_0)]⟩
-- 88 _law_renamed : 0=graph 1=labels 2=renaming 3=found 4=place 5=one 6=other
def b_l_renamed_0 : List Stm :=
  [.unp [(.one 5), (.one 6)] (.idx (.idx (.var 0) (.con (.int 1))) (.var 4)),
  .app 3 (.call 72 [(.lst [(.call 71 [(.idx (.var 2) (.var 5))]), (.idx (.var 1) (.var 4)), (.idx (.var 2) (.var 6))])])]
def s_l_renamed_0 : Stm := .for_ (.one 4) .rg1 (.fn1 .len (.var 1)) (.con .none) b_l_renamed_0
def l_renamed : Fn := ⟨7, 3,
   [.new 3 (.lst []),
    s_l_renamed_0,
    .ret (.fn1 .tuple (.var 3))]⟩
-- 89 _law_turned : 0=mode 1=graph 2=labels 3=one 4=other 5=e
def l_turned : Fn := ⟨6, 5,
   [.try_ [.ret (.ite (.cmp .eq (.var 0) (.con (.int 0))) (.call 23 [(.var 1), (.var 2), (.var 3)]) (.call 40 [(.var 1), (.var 2), (.var 3), (.var 4)]))]
     (.cons 5 5 [.ret (.ite (.and (.isi (.var 5) (.cls 0)) (.not (.isi (.var 5) (.cls 4)))) (.con (.str ⟨#[114, 101, 110, 97, 109, 105, 110, 103]⟩)) (.con (.str ⟨#[111, 116, 104, 101, 114]⟩)))] (.cons 6 5 [.ret (.ite (.and (.isi (.var 5) (.cls 0)) (.not (.isi (.var 5) (.cls 4)))) (.con (.str ⟨#[118, 101, 114, 116, 101, 120]⟩)) (.con (.str ⟨#[111, 116, 104, 101, 114]⟩)))] (.cons 4 5 [.ret (.ite (.and (.isi (.var 5) (.cls 0)) (.not (.isi (.var 5) (.cls 6)))) (.con (.str ⟨#[110, 97, 109, 101, 115]⟩)) (.con (.str ⟨#[111, 116, 104, 101, 114]⟩)))] .nil)))]⟩
-- 90 _law_pair : 0=script 1=graph 2=draws 3=one 4=other 5=at
def l_pair : Fn := ⟨6, 2,
   [.asg 2 (.call 69 [(.var 0), (.con (.int 7))]),
    .asg 3 (.call 79 [(.var 0), (.con (.int 3)), (.var 1)]),
    .asg 4 (.call 88 [(.var 1), (.var 3), (.call 87 [(.var 0), (.con (.int 4)), (.var 1)])]),
    .ite (.and (.cmp .eq (.bin .mod (.idx (.var 2) (.con (.int 0))) (.con (.int 2))) (.con (.int 0))) (.cmp .ne (.var 4) (.tup [])))
     [.asg 5 (.bin .mod (.idx (.var 2) (.con (.int 1))) (.fn1 .len (.var 4))),
      .asg 4 (.bin .add (.bin .add (.slt (.var 4) (.var 5)) (.tup [(.idx (.call 70 []) (.bin .mod (.idx (.var 2) (.con (.int 2))) (.con (.int 6))))])) (.slf (.var 4) (.bin .add (.var 5) (.con (.int 1)))))]
     [],
    .ret (.tup [(.var 3), (.var 4)])]⟩
-- 91 _law_matched : 0=mode 1=graph 2=one 3=other 4=e
def l_matched : Fn := ⟨5, 4,
   [.try_ [.ret (.ite (.cmp .eq (.var 0) (.con (.int 0))) (.call 42 [(.var 1), (.var 2), (.var 3)]) (.call 45 [(.var 1), (.var 2), (.var 3)]))]
     (.cons 9 4 [.ret (.ite (.and (.isi (.var 4) (.cls 0)) (.not (.isi (.var 4) (.cls 10)))) (.con (.str ⟨#[110, 111, 116]⟩)) (.con (.str ⟨#[111, 116, 104, 101, 114]⟩)))] (.cons 10 4 [.ret (.ite (.and (.isi (.var 4) (.cls 0)) (.not (.isi (.var 4) (.cls 9)))) (.con (.str ⟨#[97, 108, 105, 107, 101]⟩)) (.con (.str ⟨#[111, 116, 104, 101, 114]⟩)))] (.cons 3 4 [.ret (.ite (.and (.isi (.var 4) (.cls 0)) (.not (.isi (.var 4) (.cls 9)))) (.con (.str ⟨#[108, 97, 98, 101, 108, 115]⟩)) (.con (.str ⟨#[111, 116, 104, 101, 114]⟩)))] .nil)))]⟩
-- 92 _law_unmatched : 0=graph 1=one 2=other 3=walks 4=names 5=unlike 6=walk 7=due
def b_l_unmatched_1 : List Stm :=
  [.asg 7 (.call 72 [(.lst [(.call 71 [(.var 4)]), (.call 81 [(.var 0), (.var 1), (.var 6)]), (.var 4)])]),
  .asg 5 (.bin .add (.var 5) (.bin .mul (.lst [(.var 6)]) (.fn1 .int (.cmp .ne (.var 7) (.call 81 [(.var 0), (.var 2), (.var 6)])))))]
def s_l_unmatched_1 : Stm := .for_ (.one 6) .items (.var 3) (.con .none) b_l_unmatched_1
def b_l_unmatched_0 : List Stm :=
  [.asg 5 (.lst []),
  s_l_unmatched_1,
  .ite (.cmp .eq (.var 5) (.lst []))
   [.ret (.con (.bool false))]
   []]
def s_l_unmatched_0 : Stm := .for_ (.one 4) .items (.call 70 []) (.con .none) b_l_unmatched_0
def l_unmatched : Fn := ⟨8, 4,
   [s_l_unmatched_0,
    .ret (.con (.bool true))]⟩
-- 93 _law_is_closed : 0=graph 1=walk 2=place 3=one
def c_l_is_closed_0 : Ex := (.cpi [3] (.one 3) .items (.var 1) (.con .none) (.not (.call 75 [(.var 3), (.con (.int 0)), (.bin .sub (.idx (.var 0) (.con (.int 0))) (.con (.int 1)))])) (.var 3))
def b_l_is_closed_0 : List Stm :=
  [.ite (.cmp .notin (.tup [(.fn2 .min (.idx (.var 1) (.bin .sub (.var 2) (.con (.int 1)))) (.idx (.var 1) (.var 2))), (.fn2 .max (.idx (.var 1) (.bin .sub (.var 2) (.con (.int 1)))) (.idx (.var 1) (.var 2)))]) (.idx (.var 0) (.con (.int 1))))
   [.ret (.con (.bool false))]
   []]
def s_l_is_closed_0 : Stm := .for_ (.one 2) .rg2 (.con (.int 1)) (.fn1 .len (.var 1)) b_l_is_closed_0
def l_is_closed : Fn := ⟨4, 2,
   [.ite (.or (.not (.isi (.var 1) .tuple)) (.or (.cmp .eq (.var 1) (.tup [])) (.cmp .ne c_l_is_closed_0 (.lst []))))
     [.ret (.con (.bool false))]
     [],
    s_l_is_closed_0,
    .ret (.and (.cmp .eq (.idx (.var 1) (.con (.int 0))) (.con (.int 0))) (.cmp .eq (.idx (.var 1) (.neg (.con (.int 1)))) (.con (.int 0))))]⟩
-- 94 _law_all_renamings : 0=count 1=found 2=time 3=longer 4=one 5=names
def c_l_all_renamings_0 : Ex := (.cpr [5] (.one 5) .items (.call 70 []) (.con .none) (.bin .add (.var 4) (.tup [(.var 5)])))
def b_l_all_renamings_1 : List Stm :=
  [.asg 3 (.bin .add (.var 3) c_l_all_renamings_0)]
def s_l_all_renamings_1 : Stm := .for_ (.one 4) .items (.var 1) (.con .none) b_l_all_renamings_1
def b_l_all_renamings_0 : List Stm :=
  [.asg 3 (.lst []),
  s_l_all_renamings_1,
  .asg 1 (.var 3)]
def s_l_all_renamings_0 : Stm := .for_ (.one 2) .rg1 (.var 0) (.con .none) b_l_all_renamings_0
def l_all_renamings : Fn := ⟨6, 1,
   [.asg 1 (.lst [(.tup [])]),
    s_l_all_renamings_0,
    .ret (.var 1)]⟩
-- 95 _law_kinds : 0=graph 1=inner 2=rows 3=edge 4=longer 5=labels 6=found 7=turned_ones 8=names
def c_l_kinds_0 : Ex := (.cpr [8] (.one 8) .items (.ite (.cmp .notin (.var 3) (.var 1)) (.call 70 []) (.lst [(.tup [(.con (.int 0)), (.con (.int 1)), (.con (.int 2))])])) (.con .none) (.bin .add (.var 5) (.tup [(.var 8)])))
def b_l_kinds_1 : List Stm :=
  [.asg 4 (.bin .add (.var 4) c_l_kinds_0)]
def s_l_kinds_1 : Stm := .for_ (.one 5) .items (.var 2) (.con .none) b_l_kinds_1
def b_l_kinds_0 : List Stm :=
  [.asg 4 (.lst []),
  s_l_kinds_1,
  .asg 2 (.var 4)]
def s_l_kinds_0 : Stm := .for_ (.one 3) .items (.idx (.var 0) (.con (.int 1))) (.con .none) b_l_kinds_0
def c_l_kinds_1 : Ex := (.cpr [8] (.one 8) .items (.call 70 []) (.con .none) (.call 88 [(.var 0), (.var 5), (.bin .mul (.tup [(.var 8)]) (.idx (.var 0) (.con (.int 0))))]))
def b_l_kinds_2 : List Stm :=
  [.asg 7 c_l_kinds_1,
  .ite (.cmp .eq (.var 5) (.fn1 .min (.var 7)))
   [.app 6 (.var 5)]
   []]
def s_l_kinds_2 : Stm := .for_ (.one 5) .items (.var 2) (.con .none) b_l_kinds_2
def l_kinds : Fn := ⟨9, 1,
   [.asg 1 (.call 85 [(.var 0)]),
    .asg 2 (.lst [(.tup [])]),
    s_l_kinds_0,
    .new 6 (.lst []),
    s_l_kinds_2,
    .ret (.fn1 .sorted (.var 6))]⟩
-- 96 _law_hidden : 0=mode 1=graph 2=answers 3=e
def l_hidden : Fn := ⟨4, 3,
   [.try_ [.ite (.cmp .eq (.var 0) (.con (.int 0)))
       [.ret (.call 48 [(.var 1)])]
       [],
      .ret (.ite (.cmp .eq (.var 0) (.con (.int 1))) (.call 33 [(.var 1), (.var 2)]) (.call 50 [(.var 1), (.var 2)]))]
     (.cons 14 3 [.ret (.ite (.and (.isi (.var 3) (.cls 0)) (.not (.isi (.var 3) (.cls 8)))) (.con (.str ⟨#[109, 97, 110, 121]⟩)) (.con (.str ⟨#[111, 116, 104, 101, 114]⟩)))] (.cons 8 3 [.ret (.ite (.and (.isi (.var 3) (.cls 0)) (.not (.isi (.var 3) (.cls 14)))) (.con (.str ⟨#[97, 110, 115, 119, 101, 114, 115]⟩)) (.con (.str ⟨#[111, 116, 104, 101, 114]⟩)))] .nil))]⟩
-- 97 _law_lined : 0=mode 1=graph 2=labels 3=e
def l_lined : Fn := ⟨4, 3,
   [.try_ [.ret (.ite (.cmp .eq (.var 0) (.con (.int 0))) (.call 53 [(.var 1), (.var 2)]) (.call 54 [(.var 1), (.var 2)]))]
     (.cons 10 3 [.ret (.ite (.and (.isi (.var 3) (.cls 0)) (.not (.isi (.var 3) (.cls 11)))) (.con (.str ⟨#[115, 116, 114, 97, 105, 103, 104, 116]⟩)) (.con (.str ⟨#[111, 116, 104, 101, 114]⟩)))] (.cons 11 3 [.ret (.ite (.and (.isi (.var 3) (.cls 0)) (.not (.isi (.var 3) (.cls 10)))) (.con (.str ⟨#[99, 114, 111, 111, 107, 101, 100]⟩)) (.con (.str ⟨#[111, 116, 104, 101, 114]⟩)))] .nil))]⟩
-- 98 _law_straight_labels : 0=script 1=graph 2=draws 3=labels 4=found 5=time
def b_l_straight_labels_0 : List Stm :=
  [.ite (.cmp .ne (.var 4) (.lst []))
   [.set 4 (.bin .mod (.idx (.var 2) (.bin .add (.con (.int 1)) (.var 5))) (.fn1 .len (.var 4))) (.idx (.call 70 []) (.bin .mod (.idx (.var 2) (.bin .add (.con (.int 5)) (.var 5))) (.con (.int 6))))]
   []]
def s_l_straight_labels_0 : Stm := .for_ (.one 5) .rg1 (.bin .mod (.idx (.var 2) (.con (.int 0))) (.con (.int 3))) (.con .none) b_l_straight_labels_0
def l_straight_labels : Fn := ⟨6, 2,
   [.asg 2 (.call 69 [(.var 0), (.con (.int 7))]),
    .asg 3 (.call 88 [(.var 1), (.bin .mul (.tup [(.tup [(.con (.int 0)), (.con (.int 1)), (.con (.int 2))])]) (.fn1 .len (.idx (.var 1) (.con (.int 1))))), (.call 87 [(.var 0), (.con (.int 4)), (.var 1)])]),
    .new 4 (.fn1 .list (.var 3)),
    s_l_straight_labels_0,
    .ret (.fn1 .tuple (.var 4))]⟩
-- 99 _law_is_kept : 0=graph 1=labels 2=choice 3=place 4=one 5=other
def b_l_is_kept_0 : List Stm :=
  [.unp [(.one 4), (.one 5)] (.idx (.idx (.var 0) (.con (.int 1))) (.var 3)),
  .ite (.cmp .ne (.idx (.idx (.var 1) (.var 3)) (.idx (.var 2) (.var 4))) (.idx (.var 2) (.var 5)))
   [.ret (.con (.bool false))]
   []]
def s_l_is_kept_0 : Stm := .for_ (.one 3) .rg1 (.fn1 .len (.var 1)) (.con .none) b_l_is_kept_0
def l_is_kept : Fn := ⟨6, 3,
   [s_l_is_kept_0,
    .ret (.con (.bool true))]⟩
-- 100 _law_changes : 0=graph 1=labels 2=walk 3=row 4=name
def c_l_changes_0 : Ex := (.cpi [4] (.one 4) .rg1 (.con (.int 3)) (.con .none) (.cmp .ne (.idx (.var 3) (.var 4)) (.var 4)) (.var 4))
def l_changes : Fn := ⟨5, 3,
   [.asg 3 (.call 81 [(.var 0), (.var 1), (.var 2)]),
    .ret (.fn1 .len c_l_changes_0)]⟩
-- 101 _law_best : 0=graph 1=due 2=asked 3=best 4=walk 5=here 6=worst 7=labels 8=many
def c_l_best_0 : Ex := (.cpr [7] (.one 7) .items (.var 1) (.con .none) (.call 100 [(.var 0), (.var 7), (.var 4)]))
def c_l_best_1 : Ex := (.cpr [8] (.one 8) .items (.tup [(.con (.int 0)), (.con (.int 2)), (.con (.int 3))]) (.con .none) (.mt .count (.var 5) (.var 8)))
def b_l_best_0 : List Stm :=
  [.asg 5 c_l_best_0,
  .asg 6 (.fn1 .max c_l_best_1),
  .ite (.and (.cmp .lt (.var 6) (.fn1 .len (.var 1))) (.or (.isn true (.var 3)) (.cmp .lt (.var 6) (.idx (.var 3) (.con (.int 0))))))
   [.asg 3 (.tup [(.var 6), (.var 4)])]
   []]
def s_l_best_0 : Stm := .for_ (.one 4) .items (.var 2) (.con .none) b_l_best_0
def l_best : Fn := ⟨9, 3,
   [.asg 3 (.con .none),
    s_l_best_0,
    .ret (.ite (.isn true (.var 3)) (.con .none) (.idx (.var 3) (.con (.int 1))))]⟩
-- 102 _law_parse : 0=text 1=e
def l_parse : Fn := ⟨2, 1,
   [.try_ [.ret (.call 58 [(.var 0)])]
     (.cons 1 1 [.ret (.ite (.and (.isi (.var 1) (.cls 0)) (.not (.isi (.var 1) (.cls 2)))) (.lst [(.con (.str ⟨#[108, 105, 110, 101]⟩)), (.fld (.var 1))]) (.lst [(.con (.str ⟨#[111, 116, 104, 101, 114]⟩))]))] .nil)]⟩
-- 104 _law_raise : 0=mode 1=graph 2=labels
def l_raise : Fn := ⟨3, 1,
   [.asg 1 (.tup [(.con (.int 2)), (.tup [(.tup [(.con (.int 0)), (.con (.int 1))])])]),
    .asg 2 (.tup [(.tup [(.con (.int 1)), (.con (.int 2)), (.con (.int 0))])]),
    .ite (.cmp .eq (.var 0) (.con (.int 0)))
     [.ret (.call 19 [(.tup [(.con (.int 2)), (.tup [])])])]
     [],
    .ite (.cmp .eq (.var 0) (.con (.int 1)))
     [.ret (.call 52 [(.var 1), (.tup [(.tup [(.con (.int 0)), (.con (.int 0)), (.con (.int 1))])])])]
     [],
    .ite (.cmp .eq (.var 0) (.con (.int 2)))
     [.ret (.call 7 [(.tup [(.con (.int 0)), (.con (.int 0)), (.con (.int 1))])])]
     [],
    .ite (.cmp .eq (.var 0) (.con (.int 3)))
     [.ret (.call 23 [(.var 1), (.var 2), (.var 2)])]
     [],
    .ite (.cmp .eq (.var 0) (.con (.int 4)))
     [.ret (.call 40 [(.var 1), (.var 2), (.con (.int 2)), (.tup [(.con (.int 0)), (.con (.int 1)), (.con (.int 2))])])]
     [],
    .ite (.cmp .eq (.var 0) (.con (.int 5)))
     [.ret (.call 17 [(.var 1), (.var 2), (.tup [(.con (.int 0)), (.con (.int 0))])])]
     [],
    .ite (.cmp .eq (.var 0) (.con (.int 6)))
     [.ret (.call 33 [(.var 1), (.tup [(.tup [(.tup [(.con (.int 0)), (.con (.int 1))]), (.con (.int 0))])])])]
     [],
    .ret (.call 105 [(.var 0)])]⟩
-- 105 _law_raise_more : 0=mode 1=ring 2=same
def l_raise_more : Fn := ⟨3, 1,
   [.asg 1 (.tup [(.con (.int 3)), (.tup [(.tup [(.con (.int 0)), (.con (.int 1))]), (.tup [(.con (.int 0)), (.con (.int 2))]), (.tup [(.con (.int 1)), (.con (.int 2))])])]),
    .asg 2 (.bin .mul (.tup [(.tup [(.con (.int 0)), (.con (.int 1)), (.con (.int 2))])]) (.con (.int 3))),
    .ite (.cmp .eq (.var 0) (.con (.int 7)))
     [.ret (.call 42 [(.var 1), (.var 2), (.bin .add (.slt (.var 2) (.con (.int 2))) (.tup [(.tup [(.con (.int 1)), (.con (.int 0)), (.con (.int 2))])]))])]
     [],
    .ite (.cmp .eq (.var 0) (.con (.int 8)))
     [.ret (.call 45 [(.var 1), (.var 2), (.var 2)])]
     [],
    .ite (.cmp .eq (.var 0) (.con (.int 9)))
     [.ret (.call 54 [(.var 1), (.bin .add (.slt (.var 2) (.con (.int 2))) (.tup [(.tup [(.con (.int 1)), (.con (.int 0)), (.con (.int 2))])]))])]
     [],
    .ite (.cmp .eq (.var 0) (.con (.int 10)))
     [.ret (.call 48 [(.tup [(.con (.int 5)), (.tup [(.tup [(.con (.int 0)), (.con (.int 1))]), (.tup [(.con (.int 0)), (.con (.int 2))]), (.tup [(.con (.int 0)), (.con (.int 3))]), (.tup [(.con (.int 0)), (.con (.int 4))]), (.tup [(.con (.int 1)), (.con (.int 2))]), (.tup [(.con (.int 1)), (.con (.int 3))]), (.tup [(.con (.int 2)), (.con (.int 3))]), (.tup [(.con (.int 3)), (.con (.int 4))])])])])]
     [],
    .ite (.cmp .eq (.var 0) (.con (.int 11)))
     [.ret (.call 58 [(.con (.str ⟨#[118, 101, 114, 116, 105, 99, 101, 115, 32, 50, 10, 48, 45, 49, 32, 48, 49]⟩))])]
     [],
    .ite (.cmp .eq (.var 0) (.con (.int 12)))
     [.ret (.call 61 [(.var 1), (.bin .add (.slt (.var 2) (.con (.int 2))) (.tup [(.tup [(.con (.int 1)), (.con (.int 0)), (.con (.int 2))])]))])]
     [],
    .ret (.ite (.cmp .eq (.var 0) (.con (.int 13))) (.call 62 [(.var 1), (.var 2)]) (.call 170 [(.var 1), (.var 2)]))]⟩
-- 106 _law_halved : 0=mode 1=graph 2=labels 3=e
def l_halved : Fn := ⟨4, 3,
   [.try_ [.ret (.ite (.cmp .eq (.var 0) (.con (.int 0))) (.call 61 [(.var 1), (.var 2)]) (.call 62 [(.var 1), (.var 2)]))]
     (.cons 12 3 [.ret (.ite (.and (.isi (.var 3) (.cls 0)) (.not (.isi (.var 3) (.cls 13)))) (.con (.str ⟨#[110, 111, 110, 101]⟩)) (.con (.str ⟨#[111, 116, 104, 101, 114]⟩)))] (.cons 13 3 [.ret (.ite (.and (.isi (.var 3) (.cls 0)) (.not (.isi (.var 3) (.cls 12)))) (.con (.str ⟨#[101, 120, 105, 115, 116]⟩)) (.con (.str ⟨#[111, 116, 104, 101, 114]⟩)))] .nil))]⟩
-- 150 Desk.__init__ : self graph labels
def f_desk_init : Fn := ⟨3, 3,
   [.exp (.call 13 [(.var 1), (.var 2)]), .pass, .pass, .pass]⟩
-- 151 format_labels, its first statement
def f_format_head : Fn := ⟨8, 2,
   [.exp (.call 13 [(.var 0), (.var 1)]), .pass, .pass, .pass]⟩
def f_pe_init : Fn := ⟨2, 2, [.pass, .pass]⟩
-- k01 : 0=script 1=draws 2=one 3=other 4=wrong 5=mode
def c_k01_0 : Ex := (.cpr [5] (.one 5) .rg1 (.con (.int 3)) (.con .none) (.call 73 [(.var 5), (.var 4)]))
def law_k01 : Fn := ⟨6, 1,
   [.asg 1 (.call 69 [(.var 0), (.con (.int 2))]),
    .par [2, 3] [(.idx (.call 70 []) (.bin .mod (.idx (.var 1) (.con (.int 0))) (.con (.int 6)))), (.idx (.call 70 []) (.bin .mod (.idx (.var 1) (.con (.int 1))) (.con (.int 6))))],
    .ite (.or (.cmp .ne (.call 6 [(.var 2), (.var 3)]) (.call 72 [(.lst [(.var 2), (.var 3)])])) (.cmp .ne (.call 7 [(.var 2)]) (.call 71 [(.var 2)])))
     [.ret (.con (.bool false))]
     [],
    .ite (.cmp .ne (.call 6 [(.var 2), (.call 7 [(.var 2)])]) (.tup [(.con (.int 0)), (.con (.int 1)), (.con (.int 2))]))
     [.ret (.con (.bool false))]
     [],
    .asg 4 (.lst [(.con .none), (.lst [(.con (.int 0)), (.con (.int 1)), (.con (.int 2))]), (.tup [(.con (.int 0)), (.con (.int 1))]), (.tup [(.con (.int 0)), (.con (.int 1)), (.con (.int 2)), (.con (.int 3))]), (.tup [(.con (.int 0)), (.con (.int 0)), (.con (.int 1))]), (.tup [(.con (.int 0)), (.con (.int 1)), (.con (.int 3))]), (.tup [(.con (.int 0)), (.con (.bool true)), (.con (.int 2))]), (.tup [(.con (.int 0)), (.con .none), (.con (.int 2))])]),
    .asg 4 (.idx (.bin .add (.var 4) (.lst [(.con (.str ⟨#[48, 49, 50]⟩))])) (.bin .mod (.idx (.var 1) (.con (.int 2))) (.con (.int 9)))),
    .ret (.cmp .eq c_k01_0 (.bin .mul (.lst [(.con (.str ⟨#[110, 97, 109, 101, 115]⟩))]) (.con (.int 3))))]⟩
-- k02 : 0=script 1=draws 2=graph 3=vertices 4=edges 5=one 6=every 7=first 8=path 9=tries 10=due 11=step 12=mode 13=second
def c_k02_0 : Ex := (.cpr [13] (.one 13) .rg2 (.bin .add (.var 7) (.con (.int 1))) (.con (.int 5)) (.tup [(.var 7), (.var 13)]))
def b_k02_0 : List Stm :=
  [.asg 6 (.bin .add (.var 6) c_k02_0)]
def s_k02_0 : Stm := .for_ (.one 7) .rg1 (.con (.int 4)) (.con .none) b_k02_0
def c_k02_1 : Ex := (.cpr [11] (.one 11) .rg1 (.con (.int 6)) (.con .none) (.tup [(.var 11), (.bin .add (.var 11) (.con (.int 1)))]))
def c_k02_2 : Ex := (.cpr [12] (.one 12) .rg1 (.con (.int 10)) (.con .none) (.call 78 [(.var 12), (.var 2)]))
def law_k02 : Fn := ⟨14, 1,
   [.asg 1 (.call 69 [(.var 0), (.con (.int 4))]),
    .asg 2 (.call 76 [(.var 0), (.con (.int 2)), (.con (.int 6)), (.con (.int 4))]),
    .unp [(.one 3), (.one 4)] (.var 2),
    .ite (.cmp .eq (.bin .mod (.idx (.var 1) (.con (.int 0))) (.con (.int 2))) (.con (.int 0)))
     [.asg 5 (.idx (.lst [(.tup [(.con (.int 0)), (.con (.int 0))]), (.tup [(.con (.int 1)), (.con (.int 0))]), (.tup [(.con (.int 0)), (.var 3)]), (.tup [(.con (.int 0))]), (.lst [(.con (.int 0)), (.con (.int 1))]), (.con .none), (.tup [(.con (.bool true)), (.con (.int 2))]), (.tup [(.con (.int 0)), (.con (.int 1)), (.con (.int 2))]), (.tup [(.neg (.con (.int 1))), (.con (.int 0))])]) (.bin .mod (.idx (.var 1) (.con (.int 1))) (.con (.int 9)))),
      .asg 6 (.lst []),
      s_k02_0,
      .asg 8 (.fn1 .tuple c_k02_1),
      .asg 9 (.lst [(.con .none), (.tup [(.var 3)]), (.lst [(.var 3), (.var 4)]), (.tup [(.con (.int 7)), (.tup [])]), (.tup [(.con (.int 0)), (.tup [])]), (.tup [(.var 3), (.fn1 .list (.var 4))])]),
      .asg 9 (.bin .add (.var 9) (.lst [(.tup [(.var 3), (.bin .add (.slt (.var 4) (.con (.int 8))) (.tup [(.var 5)]))]), (.tup [(.var 3), (.bin .add (.slt (.var 4) (.con (.int 8))) (.slf (.var 4) (.neg (.con (.int 1)))))]), (.tup [(.var 3), (.rev (.var 4))])])),
      .asg 9 (.bin .add (.var 9) (.lst [(.tup [(.var 3), (.slf (.var 4) (.con (.int 1)))]), (.tup [(.con (.int 5)), (.fn1 .tuple (.slf (.var 6) (.con (.int 1))))]), (.tup [(.con (.int 5)), (.fn1 .tuple (.var 6))]), (.tup [(.con (.int 7)), (.var 8)]), (.tup [(.con (.bool true)), (.tup [])])])),
      .asg 2 (.idx (.var 9) (.bin .mod (.idx (.var 1) (.con (.int 2))) (.con (.int 14))))]
     [],
    .asg 10 (.call 77 [(.var 2)]),
    .ite (.cmp .ne (.call 10 [(.var 2)]) (.var 10))
     [.ret (.con (.bool false))]
     [],
    .ret (.or (.var 10) (.cmp .eq c_k02_2 (.bin .mul (.lst [(.con (.str ⟨#[103, 114, 97, 112, 104]⟩))]) (.con (.int 10)))))]⟩
-- k03 : 0=script 1=draws 2=graph 3=labels 4=walk 5=found 6=wrong
def law_k03 : Fn := ⟨7, 1,
   [.asg 1 (.call 69 [(.var 0), (.con (.int 5))]),
    .asg 2 (.call 76 [(.var 0), (.con (.int 2)), (.con (.int 6)), (.con (.int 4))]),
    .asg 3 (.call 79 [(.var 0), (.con (.int 3)), (.var 2)]),
    .asg 4 (.call 82 [(.var 0), (.con (.int 4)), (.var 2), (.con (.int 8))]),
    .asg 5 (.call 83 [(.var 2), (.var 3), (.var 4)]),
    .ite (.or (.cmp .ne (.var 5) (.call 81 [(.var 2), (.var 3), (.var 4)])) (.cmp .ne (.call 83 [(.var 2), (.var 3), (.rev (.var 4))]) (.call 71 [(.var 5)])))
     [.ret (.con (.bool false))]
     [],
    .asg 6 (.idx (.lst [(.con .none), (.fn1 .list (.var 4)), (.tup []), (.bin .add (.var 4) (.slf (.var 4) (.neg (.con (.int 1))))), (.bin .add (.var 4) (.tup [(.idx (.var 2) (.con (.int 0)))])), (.bin .add (.var 4) (.tup [(.con .none)])), (.bin .add (.var 4) (.tup [(.neg (.con (.int 1)))]))]) (.bin .mod (.idx (.var 1) (.con (.int 0))) (.con (.int 7)))),
    .ite (.cmp .ne (.call 83 [(.var 2), (.var 3), (.var 6)]) (.con (.str ⟨#[119, 97, 108, 107]⟩)))
     [.ret (.con (.bool false))]
     [],
    .asg 6 (.idx (.lst [(.con .none), (.fn1 .list (.var 3)), (.bin .add (.var 3) (.tup [(.tup [(.con (.int 0)), (.con (.int 1)), (.con (.int 2))])])), (.bin .add (.slt (.var 3) (.neg (.con (.int 1)))) (.tup [(.tup [(.con (.int 0)), (.con (.int 0)), (.con (.int 1))])])), (.bin .add (.slt (.var 3) (.neg (.con (.int 1)))) (.tup [(.con .none)]))]) (.bin .mod (.idx (.var 1) (.con (.int 1))) (.con (.int 5)))),
    .asg 6 (.ite (.cmp .eq (.var 3) (.tup [])) (.con .none) (.var 6)),
    .ret (.cmp .eq (.call 83 [(.var 2), (.var 6), (.var 4)]) (.con (.str ⟨#[108, 97, 98, 101, 108, 115]⟩)))]⟩
-- k04 : 0=script 1=graph 2=found 3=labels 4=walk
def b_k04_0 : List Stm :=
  [.ite (.or (.cmp .ne (.idx (.var 4) (.con (.int 0))) (.con (.int 0))) (.cmp .ne (.idx (.var 4) (.neg (.con (.int 1)))) (.con (.int 0))))
   [.ret (.con (.bool false))]
   [],
  .ite (.cmp .ne (.call 83 [(.var 1), (.var 3), (.var 4)]) (.call 81 [(.var 1), (.var 3), (.var 4)]))
   [.ret (.con (.bool false))]
   []]
def s_k04_0 : Stm := .for_ (.one 4) .items (.var 2) (.con .none) b_k04_0
def law_k04 : Fn := ⟨5, 1,
   [.asg 1 (.call 76 [(.var 0), (.con (.int 2)), (.con (.int 6)), (.con (.int 4))]),
    .asg 2 (.call 19 [(.var 1)]),
    .ite (.or (.cmp .ne (.var 2) (.call 86 [(.var 1)])) (.cmp .ne (.fn1 .len (.var 2)) (.bin .add (.bin .sub (.fn1 .len (.idx (.var 1) (.con (.int 1)))) (.idx (.var 1) (.con (.int 0)))) (.con (.int 1)))))
     [.ret (.con (.bool false))]
     [],
    .asg 3 (.call 79 [(.var 0), (.con (.int 3)), (.var 1)]),
    s_k04_0,
    .ret (.con (.bool true))]⟩
-- k05 : 0=script 1=draws 2=graph 3=labels 4=renaming 5=found 6=current 7=vertex 8=walk 9=due 10=wrong
def b_k05_0 : List Stm :=
  [.asg 6 (.call 40 [(.var 2), (.var 6), (.var 7), (.idx (.var 4) (.var 7))])]
def s_k05_0 : Stm := .for_ (.one 7) .rg1 (.idx (.var 2) (.con (.int 0))) (.con .none) b_k05_0
def law_k05 : Fn := ⟨11, 1,
   [.asg 1 (.call 69 [(.var 0), (.con (.int 5))]),
    .asg 2 (.call 76 [(.var 0), (.con (.int 2)), (.con (.int 6)), (.con (.int 4))]),
    .asg 3 (.call 79 [(.var 0), (.con (.int 3)), (.var 2)]),
    .asg 4 (.call 87 [(.var 0), (.con (.int 4)), (.var 2)]),
    .asg 5 (.call 89 [(.con (.int 0)), (.var 2), (.var 3), (.var 4), (.con .none)]),
    .ite (.cmp .ne (.var 5) (.call 88 [(.var 2), (.var 3), (.var 4)]))
     [.ret (.con (.bool false))]
     [],
    .asg 6 (.var 3),
    s_k05_0,
    .asg 8 (.call 82 [(.var 0), (.con (.int 6)), (.var 2), (.con (.int 7))]),
    .asg 9 (.call 72 [(.lst [(.call 71 [(.idx (.var 4) (.idx (.var 8) (.con (.int 0))))]), (.call 81 [(.var 2), (.var 3), (.var 8)]), (.idx (.var 4) (.idx (.var 8) (.neg (.con (.int 1)))))])]),
    .ite (.or (.cmp .ne (.var 6) (.var 5)) (.cmp .ne (.call 17 [(.var 2), (.var 5), (.var 8)]) (.var 9)))
     [.ret (.con (.bool false))]
     [],
    .asg 10 (.idx (.lst [(.con .none), (.fn1 .list (.var 4)), (.bin .add (.var 4) (.tup [(.tup [(.con (.int 0)), (.con (.int 1)), (.con (.int 2))])])), (.slf (.var 4) (.con (.int 1))), (.bin .add (.slt (.var 4) (.neg (.con (.int 1)))) (.tup [(.con .none)]))]) (.bin .mod (.idx (.var 1) (.con (.int 0))) (.con (.int 5)))),
    .ite (.cmp .ne (.call 89 [(.con (.int 0)), (.var 2), (.var 3), (.var 10), (.con .none)]) (.con (.str ⟨#[114, 101, 110, 97, 109, 105, 110, 103]⟩)))
     [.ret (.con (.bool false))]
     [],
    .ite (.cmp .ne (.call 89 [(.con (.int 1)), (.var 2), (.var 3), (.idx (.lst [(.con .none), (.neg (.con (.int 1))), (.idx (.var 2) (.con (.int 0))), (.con (.bool true))]) (.bin .mod (.idx (.var 1) (.con (.int 1))) (.con (.int 4)))), (.tup [(.con (.int 0)), (.con (.int 1)), (.con (.int 2))])]) (.con (.str ⟨#[118, 101, 114, 116, 101, 120]⟩)))
     [.ret (.con (.bool false))]
     [],
    .ret (.cmp .eq (.call 89 [(.con (.int 1)), (.var 2), (.var 3), (.con (.int 0)), (.idx (.lst [(.con .none), (.tup [(.con (.int 0)), (.con (.int 0)), (.con (.int 1))]), (.lst [(.con (.int 0)), (.con (.int 1)), (.con (.int 2))]), (.tup [(.con (.int 0)), (.con (.int 1))])]) (.bin .mod (.idx (.var 1) (.con (.int 2))) (.con (.int 4))))]) (.con (.str ⟨#[110, 97, 109, 101, 115]⟩)))]⟩
-- k06 : 0=script 1=draws 2=graph 3=one 4=other 5=renaming 6=walks 7=unmatched 8=place 9=wrong
def b_k06_0 : List Stm :=
  [.ite (.call 92 [(.var 2), (.var 3), (.var 4), (.bin .add (.slt (.var 6) (.var 8)) (.slf (.var 6) (.bin .add (.var 8) (.con (.int 1)))))])
   [.ret (.con (.bool false))]
   []]
def s_k06_0 : Stm := .for_ (.one 8) .rg1 (.fn1 .len (.var 6)) (.con .none) b_k06_0
def law_k06 : Fn := ⟨10, 1,
   [.asg 1 (.call 69 [(.var 0), (.con (.int 5))]),
    .asg 2 (.call 76 [(.var 0), (.con (.int 2)), (.con (.int 6)), (.con (.int 4))]),
    .unp [(.one 3), (.one 4)] (.call 90 [(.var 0), (.var 2)]),
    .asg 5 (.call 91 [(.con (.int 0)), (.var 2), (.var 3), (.var 4)]),
    .asg 6 (.call 91 [(.con (.int 1)), (.var 2), (.var 3), (.var 4)]),
    .asg 7 (.call 92 [(.var 2), (.var 3), (.var 4), (.call 86 [(.var 2)])]),
    .ite (.cmp .eq (.call 27 [(.var 2), (.var 3), (.var 4)]) (.var 7))
     [.ret (.con (.bool false))]
     [],
    .ite (.not (.var 7))
     [.ret (.and (.cmp .eq (.var 6) (.con (.str ⟨#[97, 108, 105, 107, 101]⟩))) (.cmp .eq (.call 88 [(.var 2), (.var 3), (.var 5)]) (.var 4)))]
     [],
    .ite (.or (.cmp .ne (.var 5) (.con (.str ⟨#[110, 111, 116]⟩))) (.or (.not (.call 46 [(.var 2), (.var 3), (.var 4), (.var 6)])) (.not (.call 92 [(.var 2), (.var 3), (.var 4), (.var 6)]))))
     [.ret (.con (.bool false))]
     [],
    s_k06_0,
    .asg 9 (.idx (.lst [(.con .none), (.fn1 .list (.var 4)), (.bin .add (.var 4) (.tup [(.tup [(.con (.int 0)), (.con (.int 1)), (.con (.int 2))])])), (.slf (.var 4) (.con (.int 1)))]) (.bin .mod (.idx (.var 1) (.con (.int 0))) (.con (.int 4)))),
    .ret (.cmp .eq (.call 91 [(.bin .mod (.idx (.var 1) (.con (.int 1))) (.con (.int 2))), (.var 2), (.var 3), (.var 9)]) (.con (.str ⟨#[108, 97, 98, 101, 108, 115]⟩)))]⟩
-- k07 : 0=script 1=draws 2=graph 3=one 4=other 5=walks 6=drawn 7=tries 8=value 9=due 10=walk
def c_k07_0 : Ex := (.cpr [10] (.one 10) .items (.var 5) (.con .none) (.rev (.var 10)))
def c_k07_1 : Ex := (.cpr [10] (.one 10) .items (.var 5) (.con .none) (.slf (.var 10) (.con (.int 1))))
def b_k07_0 : List Stm :=
  [.asg 9 (.and (.var 9) (.call 93 [(.var 2), (.var 10)]))]
def s_k07_0 : Stm := .for_ (.one 10) .items (.ite (.var 9) (.var 8) (.lst [])) (.con .none) b_k07_0
def law_k07 : Fn := ⟨11, 1,
   [.asg 1 (.call 69 [(.var 0), (.con (.int 5))]),
    .asg 2 (.call 76 [(.var 0), (.con (.int 2)), (.con (.int 6)), (.con (.int 4))]),
    .unp [(.one 3), (.one 4)] (.call 90 [(.var 0), (.var 2)]),
    .asg 5 (.call 86 [(.var 2)]),
    .asg 6 (.call 82 [(.var 0), (.con (.int 6)), (.var 2), (.con (.int 7))]),
    .asg 7 (.lst [(.var 5), (.var 5), (.rev (.var 5)), c_k07_0, (.slf (.var 5) (.con (.int 1))), (.lst [(.var 6)]), (.bin .add (.slt (.var 5) (.con (.int 1))) (.lst [(.var 6)]))]),
    .asg 7 (.bin .add (.var 7) (.lst [(.lst []), (.con .none), (.fn1 .tuple (.var 5)), (.bin .add (.var 5) (.lst [(.tup [])])), (.bin .add (.var 5) (.lst [(.con .none)])), c_k07_1, (.bin .add (.var 5) (.lst [(.tup [(.con (.int 0))])]))])),
    .asg 8 (.idx (.var 7) (.bin .mod (.idx (.var 1) (.con (.int 0))) (.con (.int 14)))),
    .asg 9 (.isi (.var 8) .list),
    s_k07_0,
    .ret (.cmp .eq (.call 46 [(.var 2), (.var 3), (.var 4), (.var 8)]) (.and (.var 9) (.call 92 [(.var 2), (.var 3), (.var 4), (.var 8)])))]⟩
-- k08 : 0=script 1=graph 2=one 3=other 4=inner 5=options 6=renaming 7=labels 8=still 9=place
def c_k08_0 : Ex := (.cpi [9] (.one 9) .rg1 (.fn1 .len (.var 7)) (.con .none) (.and (.cmp .isin (.idx (.idx (.var 1) (.con (.int 1))) (.var 9)) (.var 4)) (.cmp .ne (.idx (.var 7) (.var 9)) (.tup [(.con (.int 0)), (.con (.int 1)), (.con (.int 2))]))) (.var 9))
def b_k08_0 : List Stm :=
  [.asg 7 (.call 88 [(.var 1), (.var 2), (.var 6)]),
  .asg 8 c_k08_0,
  .asg 5 (.bin .add (.var 5) (.bin .mul (.lst [(.var 7)]) (.fn1 .int (.cmp .eq (.var 8) (.lst [])))))]
def s_k08_0 : Stm := .for_ (.one 6) .items (.call 94 [(.idx (.var 1) (.con (.int 0)))]) (.con .none) b_k08_0
def law_k08 : Fn := ⟨10, 1,
   [.asg 1 (.call 76 [(.var 0), (.con (.int 2)), (.con (.int 4)), (.con (.int 3))]),
    .unp [(.one 2), (.one 3)] (.call 90 [(.var 0), (.var 1)]),
    .asg 4 (.call 85 [(.var 1)]),
    .asg 5 (.lst []),
    s_k08_0,
    .ite (.cmp .ne (.call 47 [(.var 1), (.var 2)]) (.fn1 .min (.var 5)))
     [.ret (.con (.bool false))]
     [],
    .ret (.cmp .eq (.cmp .eq (.call 47 [(.var 1), (.var 3)]) (.call 47 [(.var 1), (.var 2)])) (.call 27 [(.var 1), (.var 2), (.var 3)]))]⟩
-- k09 : 0=script 1=graph 2=found 3=full 4=more
def law_k09 : Fn := ⟨5, 1,
   [.asg 1 (.call 76 [(.var 0), (.con (.int 2)), (.con (.int 6)), (.con (.int 2))]),
    .asg 2 (.call 48 [(.var 1)]),
    .ite (.or (.cmp .ne (.var 2) (.call 95 [(.var 1)])) (.cmp .ne (.call 28 [(.var 1)]) (.fn1 .len (.var 2))))
     [.ret (.con (.bool false))]
     [],
    .ite (.cmp .notin (.call 47 [(.var 1), (.call 79 [(.var 0), (.con (.int 3)), (.var 1)])]) (.var 2))
     [.ret (.con (.bool false))]
     [],
    .asg 3 (.tup [(.con (.int 4)), (.tup [(.tup [(.con (.int 0)), (.con (.int 1))]), (.tup [(.con (.int 0)), (.con (.int 2))]), (.tup [(.con (.int 0)), (.con (.int 3))]), (.tup [(.con (.int 1)), (.con (.int 2))]), (.tup [(.con (.int 1)), (.con (.int 3))]), (.tup [(.con (.int 2)), (.con (.int 3))])])]),
    .asg 4 (.tup [(.con (.int 5)), (.tup [(.tup [(.con (.int 0)), (.con (.int 1))]), (.tup [(.con (.int 0)), (.con (.int 2))]), (.tup [(.con (.int 0)), (.con (.int 3))]), (.tup [(.con (.int 0)), (.con (.int 4))]), (.tup [(.con (.int 1)), (.con (.int 2))]), (.tup [(.con (.int 1)), (.con (.int 3))]), (.tup [(.con (.int 2)), (.con (.int 3))]), (.tup [(.con (.int 3)), (.con (.int 4))])])]),
    .ret (.and (.cmp .eq (.call 28 [(.var 3)]) (.con (.int 49))) (.and (.cmp .eq (.call 96 [(.con (.int 0)), (.var 4), (.con .none)]) (.con (.str ⟨#[109, 97, 110, 121]⟩))) (.cmp .eq (.call 28 [(.var 4)]) (.con (.int 251)))))]⟩
-- k10 : 0=script 1=graph 2=labels 3=crooked_ones 4=walk 5=renaming
def c_k10_0 : Ex := (.cpi [4] (.one 4) .items (.call 86 [(.var 1)]) (.con .none) (.cmp .ne (.call 81 [(.var 1), (.var 2), (.var 4)]) (.tup [(.con (.int 0)), (.con (.int 1)), (.con (.int 2))])) (.var 4))
def law_k10 : Fn := ⟨6, 1,
   [.asg 1 (.call 76 [(.var 0), (.con (.int 2)), (.con (.int 6)), (.con (.int 4))]),
    .asg 2 (.call 98 [(.var 0), (.var 1)]),
    .asg 3 c_k10_0,
    .ite (.cmp .ne (.call 52 [(.var 1), (.var 2)]) (.cmp .eq (.var 3) (.lst [])))
     [.ret (.con (.bool false))]
     [],
    .asg 4 (.call 97 [(.con (.int 0)), (.var 1), (.var 2)]),
    .asg 5 (.call 97 [(.con (.int 1)), (.var 1), (.var 2)]),
    .ite (.cmp .eq (.var 3) (.lst []))
     [.ret (.and (.cmp .eq (.var 4) (.con (.str ⟨#[115, 116, 114, 97, 105, 103, 104, 116]⟩))) (.cmp .eq (.call 88 [(.var 1), (.var 2), (.var 5)]) (.bin .mul (.tup [(.tup [(.con (.int 0)), (.con (.int 1)), (.con (.int 2))])]) (.fn1 .len (.var 2)))))]
     [],
    .ite (.or (.cmp .ne (.var 5) (.con (.str ⟨#[99, 114, 111, 111, 107, 101, 100]⟩))) (.cmp .ne (.idx (.var 4) (.con (.int 0))) (.idx (.var 4) (.neg (.con (.int 1))))))
     [.ret (.con (.bool false))]
     [],
    .ret (.cmp .notin (.call 83 [(.var 1), (.var 2), (.var 4)]) (.tup [(.con (.str ⟨#[119, 97, 108, 107]⟩)), (.tup [(.con (.int 0)), (.con (.int 1)), (.con (.int 2))])]))]⟩
-- k11 : 0=script 1=graph 2=labels 3=found 4=options 5=renaming 6=turned_labels 7=edges 8=place
def c_k11_0 : Ex := (.cpi [8] (.one 8) .rg1 (.fn1 .len (.var 2)) (.con .none) (.cmp .ne (.idx (.var 6) (.var 8)) (.tup [(.con (.int 0)), (.con (.int 1)), (.con (.int 2))])) (.var 8))
def b_k11_0 : List Stm :=
  [.asg 6 (.call 88 [(.var 1), (.var 2), (.bin .add (.tup [(.tup [(.con (.int 0)), (.con (.int 1)), (.con (.int 2))])]) (.var 5))]),
  .asg 7 (.fn1 .tuple c_k11_0),
  .app 4 (.tup [(.fn1 .len (.var 7)), (.var 7)])]
def s_k11_0 : Stm := .for_ (.one 5) .items (.call 94 [(.bin .sub (.idx (.var 1) (.con (.int 0))) (.con (.int 1)))]) (.con .none) b_k11_0
def law_k11 : Fn := ⟨9, 1,
   [.asg 1 (.call 76 [(.var 0), (.con (.int 2)), (.con (.int 4)), (.con (.int 3))]),
    .asg 2 (.call 98 [(.var 0), (.var 1)]),
    .asg 3 (.call 38 [(.var 1), (.var 2)]),
    .new 4 (.lst []),
    s_k11_0,
    .ret (.and (.cmp .eq (.var 3) (.idx (.fn1 .min (.var 4)) (.con (.int 1)))) (.cmp .eq (.cmp .eq (.var 3) (.tup [])) (.call 52 [(.var 1), (.var 2)])))]⟩
-- k12 : 0=script 1=graph 2=labels 3=marks 4=vertex 5=name 6=time 7=place 8=one 9=other 10=low 11=due 12=mark 13=found 14=choices 15=longer 16=steady 17=point 18=part
def b_k12_1 : List Stm :=
  [.set 3 (.tup [(.var 4), (.var 5)]) (.bin .add (.bin .mul (.con (.int 3)) (.var 4)) (.var 5))]
def s_k12_1 : Stm := .for_ (.one 5) .rg1 (.con (.int 3)) (.con .none) b_k12_1
def b_k12_0 : List Stm :=
  [s_k12_1]
def s_k12_0 : Stm := .for_ (.one 4) .rg1 (.idx (.var 1) (.con (.int 0))) (.con .none) b_k12_0
def b_k12_4 : List Stm :=
  [.asg 10 (.fn2 .min (.idx (.var 3) (.tup [(.var 8), (.var 5)])) (.idx (.var 3) (.tup [(.var 9), (.idx (.idx (.var 2) (.var 7)) (.var 5))]))),
  .set 3 (.tup [(.var 8), (.var 5)]) (.var 10),
  .set 3 (.tup [(.var 9), (.idx (.idx (.var 2) (.var 7)) (.var 5))]) (.var 10)]
def s_k12_4 : Stm := .for_ (.one 5) .rg1 (.con (.int 3)) (.con .none) b_k12_4
def b_k12_3 : List Stm :=
  [.unp [(.one 8), (.one 9)] (.idx (.idx (.var 1) (.con (.int 1))) (.var 7)),
  s_k12_4]
def s_k12_3 : Stm := .for_ (.one 7) .rg1 (.fn1 .len (.var 2)) (.con .none) b_k12_3
def b_k12_2 : List Stm :=
  [s_k12_3]
def s_k12_2 : Stm := .for_ (.one 6) .rg1 (.bin .mul (.con (.int 3)) (.idx (.var 1) (.con (.int 0)))) (.con .none) b_k12_2
def c_k12_0 : Ex := (.cpi [17] (.one 17) .items (.var 3) (.con .none) (.cmp .eq (.idx (.var 3) (.var 17)) (.var 12)) (.var 17))
def b_k12_5 : List Stm :=
  [.app 11 (.fn1 .tuple (.fn1 .sorted c_k12_0))]
def c_k12_1 : Ex := (.cpr [17] (.one 17) .items (.var 3) (.con .none) (.idx (.var 3) (.var 17)))
def s_k12_5 : Stm := .for_ (.one 12) .items (.fn1 .sortedSet c_k12_1) (.con .none) b_k12_5
def c_k12_2 : Ex := (.cpr [18] (.one 18) .items (.var 11) (.con .none) (.bin .fdiv (.fn1 .len (.var 18)) (.idx (.var 1) (.con (.int 0)))))
def c_k12_3 : Ex := (.cpr [5] (.one 5) .rg1 (.con (.int 3)) (.con .none) (.bin .add (.var 8) (.tup [(.var 5)])))
def b_k12_7 : List Stm :=
  [.asg 15 (.bin .add (.var 15) c_k12_3)]
def s_k12_7 : Stm := .for_ (.one 8) .items (.var 14) (.con .none) b_k12_7
def b_k12_6 : List Stm :=
  [.asg 15 (.lst []),
  s_k12_7,
  .asg 14 (.var 15)]
def s_k12_6 : Stm := .for_ (.one 4) .rg1 (.idx (.var 1) (.con (.int 0))) (.con .none) b_k12_6
def c_k12_4 : Ex := (.cpi [8] (.one 8) .items (.var 14) (.con .none) (.call 99 [(.var 1), (.var 2), (.var 8)]) (.var 8))
def law_k12 : Fn := ⟨19, 1,
   [.asg 1 (.call 76 [(.var 0), (.con (.int 2)), (.con (.int 5)), (.con (.int 4))]),
    .asg 2 (.call 98 [(.var 0), (.var 1)]),
    .new 3 .dc0,
    s_k12_0,
    s_k12_2,
    .new 11 (.lst []),
    s_k12_5,
    .asg 13 (.call 35 [(.var 1), (.var 2)]),
    .ite (.or (.cmp .ne (.var 13) (.fn1 .sorted (.var 11))) (.cmp .ne (.cmp .eq (.fn1 .len (.var 13)) (.con (.int 3))) (.call 52 [(.var 1), (.var 2)])))
     [.ret (.con (.bool false))]
     [],
    .ite (.cmp .ne (.call 56 [(.var 1), (.var 2)]) (.fn1 .sorted c_k12_2))
     [.ret (.con (.bool false))]
     [],
    .asg 14 (.lst [(.tup [])]),
    s_k12_6,
    .asg 16 c_k12_4,
    .ret (.cmp .eq (.call 55 [(.var 1), (.var 2)]) (.var 16))]⟩
-- k13 : 0=script 1=draws 2=graph 3=every 4=hidden 5=walks 6=asked 7=one 8=other 9=some 10=answers 11=time 12=walk 13=told 14=due 15=labels 16=wrong 17=mode 18=found
def b_k13_1 : List Stm :=
  [.ite (.cmp .ne (.var 7) (.var 8))
   [.asg 6 (.bin .add (.var 6) (.lst [(.bin .add (.var 7) (.slf (.var 8) (.con (.int 1)))), (.bin .add (.var 7) (.slf (.rev (.var 8)) (.con (.int 1))))]))]
   []]
def s_k13_1 : Stm := .for_ (.one 8) .items (.var 5) (.con .none) b_k13_1
def b_k13_0 : List Stm :=
  [s_k13_1]
def s_k13_0 : Stm := .for_ (.one 7) .items (.var 5) (.con .none) b_k13_0
def b_k13_2 : List Stm :=
  [.asg 12 (.idx (.var 9) (.bin .mod (.idx (.var 1) (.bin .add (.con (.int 2)) (.var 11))) (.fn1 .len (.var 9)))),
  .asg 13 (.call 100 [(.var 2), (.var 4), (.var 12)]),
  .app 10 (.tup [(.var 12), (.ite (.and (.cmp .eq (.bin .mod (.idx (.var 1) (.bin .add (.con (.int 10)) (.var 11))) (.con (.int 9))) (.con (.int 0))) (.cmp .ne (.var 13) (.con (.int 2)))) (.bin .sub (.con (.int 3)) (.var 13)) (.var 13))])]
def s_k13_2 : Stm := .for_ (.one 11) .rg1 (.bin .mod (.idx (.var 1) (.con (.int 1))) (.con (.int 4))) (.con .none) b_k13_2
def c_k13_0 : Ex := (.cpi [12, 13] (.many [(.one 12), (.one 13)]) .items (.var 10) (.con .none) (.cmp .ne (.call 100 [(.var 2), (.var 15), (.var 12)]) (.var 13)) (.con (.int 1)))
def b_k13_3 : List Stm :=
  [.ite (.cmp .eq c_k13_0 (.lst []))
   [.app 14 (.var 15)]
   []]
def s_k13_3 : Stm := .for_ (.one 15) .items (.var 3) (.con .none) b_k13_3
def law_k13 : Fn := ⟨19, 1,
   [.asg 1 (.call 69 [(.var 0), (.con (.int 5))]),
    .asg 2 (.call 76 [(.var 0), (.con (.int 2)), (.con (.int 6)), (.con (.int 2))]),
    .asg 3 (.call 95 [(.var 2)]),
    .asg 4 (.idx (.var 3) (.bin .mod (.idx (.var 1) (.con (.int 0))) (.fn1 .len (.var 3)))),
    .asg 5 (.call 86 [(.var 2)]),
    .asg 6 (.fn1 .list (.var 5)),
    s_k13_0,
    .asg 9 (.bin .add (.lst [(.tup [(.con (.int 0))])]) (.var 6)),
    .new 10 (.lst []),
    s_k13_2,
    .asg 10 (.fn1 .tuple (.var 10)),
    .new 14 (.lst []),
    s_k13_3,
    .frz [10],
    .ite (.cmp .ne (.call 33 [(.var 2), (.var 10)]) (.var 14))
     [.ret (.con (.bool false))]
     [],
    .asg 16 (.lst [(.tup [(.tup [(.con (.int 0))]), (.con (.int 1))]), (.tup [(.tup [(.con (.int 0))]), (.con (.int 4))]), (.tup [(.tup []), (.con (.int 0))]), (.tup [(.tup [(.con (.int 0))]), (.con (.bool true))]), (.tup [(.con (.int 0)), (.con (.int 0))]), (.lst [(.tup [(.con (.int 0))]), (.con (.int 0))]), (.con .none), (.tup [(.tup [(.con (.int 0))])])]),
    .asg 16 (.idx (.bin .add (.var 16) (.lst [(.tup [(.tup [(.idx (.var 2) (.con (.int 0)))]), (.con (.int 0))])])) (.bin .mod (.idx (.var 1) (.con (.int 20))) (.con (.int 9)))),
    .asg 17 (.bin .add (.con (.int 1)) (.bin .mod (.idx (.var 1) (.con (.int 21))) (.con (.int 2)))),
    .ite (.cmp .ne (.call 96 [(.var 17), (.var 2), (.bin .add (.var 10) (.tup [(.var 16)]))]) (.con (.str ⟨#[97, 110, 115, 119, 101, 114, 115]⟩)))
     [.ret (.con (.bool false))]
     [],
    .ite (.cmp .ne (.call 96 [(.var 17), (.var 2), (.fn1 .list (.var 10))]) (.con (.str ⟨#[97, 110, 115, 119, 101, 114, 115]⟩)))
     [.ret (.con (.bool false))]
     [],
    .frz [10],
    .asg 18 (.call 96 [(.con (.int 2)), (.var 2), (.var 10)]),
    .ite (.cmp .eq (.var 14) (.lst []))
     [.ret (.cmp .eq (.var 18) (.con (.str ⟨#[97, 110, 115, 119, 101, 114, 115]⟩)))]
     [],
    .frz [14],
    .ret (.cmp .eq (.var 18) (.call 101 [(.var 2), (.var 14), (.var 6)]))]⟩
-- k14 : 0=script 1=graph 2=labels 3=renaming 4=other 5=loop 6=way 7=around 8=turned_loop 9=walk 10=row 11=again 12=changed 13=name
def c_k14_0 : Ex := (.cpi [13] (.one 13) .rg1 (.con (.int 3)) (.con .none) (.cmp .ne (.idx (.var 10) (.var 13)) (.var 13)) (.var 13))
def c_k14_1 : Ex := (.cpi [13] (.one 13) .rg1 (.con (.int 3)) (.con .none) (.cmp .ne (.idx (.var 11) (.var 13)) (.var 13)) (.var 13))
def b_k14_1 : List Stm :=
  [.asg 10 (.call 17 [(.var 1), (.var 2), (.var 9)]),
  .asg 11 (.call 17 [(.var 1), (.var 4), (.var 9)]),
  .asg 12 c_k14_0,
  .ite (.cmp .ne (.fn1 .len (.var 12)) (.fn1 .len c_k14_1))
   [.ret (.con (.bool false))]
   []]
def s_k14_1 : Stm := .for_ (.one 9) .items (.tup [(.var 5), (.var 8), (.var 7)]) (.con .none) b_k14_1
def b_k14_0 : List Stm :=
  [.asg 6 (.call 82 [(.var 0), (.con (.int 6)), (.var 1), (.con (.int 5))]),
  .asg 7 (.ite (.cmp .ne (.var 6) (.tup [])) (.bin .add (.rev (.var 6)) (.slf (.var 6) (.con (.int 1)))) (.var 6)),
  .asg 8 (.bin .add (.slf (.var 5) (.con (.int 1))) (.slb (.var 5) (.con (.int 1)) (.con (.int 2)))),
  s_k14_1,
  .ite (.cmp .ne (.call 100 [(.var 1), (.var 2), (.var 5)]) (.call 100 [(.var 1), (.var 2), (.var 8)]))
   [.ret (.con (.bool false))]
   []]
def s_k14_0 : Stm := .for_ (.one 5) .items (.call 19 [(.var 1)]) (.con .none) b_k14_0
def law_k14 : Fn := ⟨14, 1,
   [.asg 1 (.call 76 [(.var 0), (.con (.int 2)), (.con (.int 6)), (.con (.int 4))]),
    .asg 2 (.call 79 [(.var 0), (.con (.int 3)), (.var 1)]),
    .asg 3 (.call 87 [(.var 0), (.con (.int 4)), (.var 1)]),
    .asg 4 (.call 23 [(.var 1), (.var 2), (.var 3)]),
    .ite (.or (.not (.call 27 [(.var 1), (.var 2), (.var 4)])) (.not (.call 27 [(.var 1), (.var 4), (.var 2)])))
     [.ret (.con (.bool false))]
     [],
    .ite (.or (.cmp .ne (.call 56 [(.var 1), (.var 2)]) (.call 56 [(.var 1), (.var 4)])) (.cmp .ne (.fn1 .sum (.call 56 [(.var 1), (.var 2)])) (.con (.int 3))))
     [.ret (.con (.bool false))]
     [],
    s_k14_0,
    .ret (.con (.bool true))]⟩
-- k15 : 0=script 1=draws 2=graph 3=labels 4=lines_here 5=place 6=one 7=other 8=text 9=spot 10=new 11=edited 12=found 13=at 14=wrong 15=name
def c_k15_0 : Ex := (.cpr [15] (.one 15) .items (.idx (.var 3) (.var 5)) (.con .none) (.fn1 .str (.var 15)))
def b_k15_0 : List Stm :=
  [.unp [(.one 6), (.one 7)] (.idx (.idx (.var 2) (.con (.int 1))) (.var 5)),
  .app 4 (.bin .add (.bin .add (.bin .add (.bin .add (.fn1 .str (.var 6)) (.con (.str ⟨#[45]⟩))) (.fn1 .str (.var 7))) (.con (.str ⟨#[32]⟩))) (.mt .join (.con (.str ⟨#[]⟩)) c_k15_0))]
def s_k15_0 : Stm := .for_ (.one 5) .rg1 (.fn1 .len (.var 3)) (.con .none) b_k15_0
def law_k15 : Fn := ⟨16, 1,
   [.asg 1 (.call 69 [(.var 0), (.con (.int 6))]),
    .asg 2 (.call 76 [(.var 0), (.con (.int 2)), (.con (.int 6)), (.con (.int 4))]),
    .asg 3 (.call 79 [(.var 0), (.con (.int 3)), (.var 2)]),
    .new 4 (.lst [(.bin .add (.con (.str ⟨#[118, 101, 114, 116, 105, 99, 101, 115, 32]⟩)) (.fn1 .str (.idx (.var 2) (.con (.int 0)))))]),
    s_k15_0,
    .asg 8 (.mt .join (.con (.str ⟨#[10]⟩)) (.var 4)),
    .ite (.or (.cmp .ne (.call 20 [(.var 2), (.var 3)]) (.var 8)) (.cmp .ne (.call 102 [(.var 8)]) (.tup [(.var 2), (.var 3)])))
     [.ret (.con (.bool false))]
     [],
    .asg 9 (.bin .mod (.bin .mul (.idx (.var 1) (.con (.int 0))) (.con (.int 5))) (.bin .add (.fn1 .len (.var 8)) (.con (.int 1)))),
    .asg 10 (.idx (.lst [(.con (.str ⟨#[48]⟩)), (.con (.str ⟨#[32]⟩)), (.con (.str ⟨#[49]⟩)), (.con (.str ⟨#[10]⟩)), (.con (.str ⟨#[45]⟩)), (.con (.str ⟨#[51]⟩))]) (.bin .mod (.idx (.var 1) (.con (.int 1))) (.con (.int 6)))),
    .asg 11 (.idx (.lst [(.bin .add (.slt (.var 8) (.var 9)) (.slf (.var 8) (.bin .add (.var 9) (.con (.int 1))))), (.bin .add (.bin .add (.slt (.var 8) (.var 9)) (.var 10)) (.slf (.var 8) (.var 9))), (.bin .add (.var 8) (.con (.str ⟨#[10]⟩))), (.bin .add (.con (.str ⟨#[32]⟩)) (.var 8))]) (.bin .mod (.idx (.var 1) (.con (.int 2))) (.con (.int 4)))),
    .asg 12 (.call 102 [(.var 11)]),
    .ite (.or (.cmp .eq (.idx (.var 12) (.con (.int 0))) (.con (.str ⟨#[111, 116, 104, 101, 114]⟩))) (.and (.cmp .ne (.idx (.var 12) (.con (.int 0))) (.con (.str ⟨#[108, 105, 110, 101]⟩))) (.cmp .ne (.call 20 [(.idx (.var 12) (.con (.int 0))), (.idx (.var 12) (.con (.int 1)))]) (.var 11))))
     [.ret (.con (.bool false))]
     [],
    .asg 13 (.bin .add (.con (.int 1)) (.bin .mod (.idx (.var 1) (.con (.int 3))) (.fn1 .len (.var 4)))),
    .asg 14 (.idx (.lst [(.con (.str ⟨#[]⟩)), (.con (.str ⟨#[48, 45, 49]⟩)), (.con (.str ⟨#[48, 49, 32, 48, 49, 50]⟩)), (.con (.str ⟨#[48, 45, 49, 32, 48, 49]⟩)), (.con (.str ⟨#[48, 95, 49, 32, 48, 49, 50]⟩)), (.con (.str ⟨#[48, 45, 49, 32, 32, 48, 49, 50]⟩)), (.con (.str ⟨#[97, 45, 49, 32, 48, 49, 50]⟩)), (.con (.str ⟨#[48, 45, 49, 32, 48, 49, 120]⟩))]) (.bin .mod (.idx (.var 1) (.con (.int 4))) (.con (.int 8)))),
    .ite (.cmp .ne (.call 102 [(.mt .join (.con (.str ⟨#[10]⟩)) (.bin .add (.bin .add (.slt (.var 4) (.var 13)) (.lst [(.var 14)])) (.slf (.var 4) (.var 13))))]) (.lst [(.con (.str ⟨#[108, 105, 110, 101]⟩)), (.var 13)]))
     [.ret (.con (.bool false))]
     [],
    .asg 14 (.idx (.lst [(.con (.str ⟨#[118, 101, 114, 116, 105, 99, 101, 115]⟩)), (.con (.str ⟨#[118, 101, 114, 116, 105, 99, 101, 115, 32, 49, 48]⟩)), (.con (.str ⟨#[118, 101, 114, 116, 101, 120, 32, 49]⟩)), (.con (.str ⟨#[]⟩)), (.con (.str ⟨#[118, 101, 114, 116, 105, 99, 101, 115, 32, 120]⟩)), (.con (.str ⟨#[118, 101, 114, 116, 105, 99, 101, 115, 32, 32, 49]⟩))]) (.bin .mod (.idx (.var 1) (.con (.int 5))) (.con (.int 6)))),
    .ite (.cmp .ne (.call 102 [(.mt .join (.con (.str ⟨#[10]⟩)) (.bin .add (.lst [(.var 14)]) (.slf (.var 4) (.con (.int 1)))))]) (.lst [(.con (.str ⟨#[108, 105, 110, 101]⟩)), (.con (.int 0))]))
     [.ret (.con (.bool false))]
     [],
    .ite (.or (.cmp .ne (.call 102 [(.con (.str ⟨#[118, 101, 114, 116, 105, 99, 101, 115, 32, 50, 10, 48, 45, 49, 32, 48, 49, 49]⟩))]) (.lst [(.con (.str ⟨#[108, 105, 110, 101]⟩)), (.con .none)])) (.cmp .ne (.call 102 [(.con (.str ⟨#[118, 101, 114, 116, 105, 99, 101, 115, 32, 50, 10, 49, 45, 48, 32, 48, 49, 50]⟩))]) (.lst [(.con (.str ⟨#[108, 105, 110, 101]⟩)), (.con .none)])))
     [.ret (.con (.bool false))]
     [],
    .frz [4],
    .ret (.cmp .eq (.call 102 [(.idx (.lst [(.con .none), (.con (.int 7)), (.var 4), (.var 2)]) (.bin .mod (.idx (.var 1) (.con (.int 7))) (.con (.int 4))))]) (.lst [(.con (.str ⟨#[108, 105, 110, 101]⟩)), (.con .none)]))]⟩
-- k18 : 0=script 1=mode 2=found 3=is_under 4=line_here 5=e 6=at
def c_k18_0 : Ex := (.cpr [6] (.one 6) .rg1 (.con (.int 15)) (.con .none) (.cmp .eq (.var 6) (.var 1)))
def law_k18 : Fn := ⟨7, 1,
   [.asg 1 (.bin .mod (.call 68 [(.var 0), (.con (.int 0))]) (.con (.int 15))),
    .asg 2 (.lst []),
    .asg 3 (.con (.bool false)),
    .asg 4 (.con (.str ⟨#[110, 111, 110, 101]⟩)),
    .try_ [.exp (.call 104 [(.var 1)])]
     (.cons 0 5 [.asg 2 (.lst [(.isi (.var 5) (.cls 2)), (.isi (.var 5) (.cls 3)), (.isi (.var 5) (.cls 4))]),
      .asg 2 (.bin .add (.var 2) (.lst [(.isi (.var 5) (.cls 5)), (.isi (.var 5) (.cls 6)), (.isi (.var 5) (.cls 7))])),
      .asg 2 (.bin .add (.var 2) (.lst [(.isi (.var 5) (.cls 8)), (.isi (.var 5) (.cls 9)), (.isi (.var 5) (.cls 10))])),
      .asg 2 (.bin .add (.var 2) (.lst [(.isi (.var 5) (.cls 11)), (.isi (.var 5) (.cls 14)), (.isi (.var 5) (.cls 1))])),
      .asg 2 (.bin .add (.var 2) (.lst [(.isi (.var 5) (.cls 12)), (.isi (.var 5) (.cls 13)), (.isi (.var 5) (.cls 15))])),
      .asg 3 (.isi (.var 5) (.cls 16)),
      .asg 4 (.ite (.cmp .eq (.var 1) (.con (.int 11))) (.fld (.var 5)) (.con (.str ⟨#[110, 111, 110, 101]⟩)))] .nil),
    .ret (.and (.var 3) (.and (.cmp .eq (.var 4) (.ite (.cmp .eq (.var 1) (.con (.int 11))) (.con (.int 1)) (.con (.str ⟨#[110, 111, 110, 101]⟩)))) (.cmp .eq (.var 2) c_k18_0)))]⟩
-- k19 : 0=script 1=graph 2=labels 3=found 4=time 5=walk 6=group 7=way 8=there 9=back 10=one
def c_k19_0 : Ex := (.cpr [10] (.one 10) .items (.var 3) (.con .none) (.call 72 [(.lst [(.var 10), (.call 81 [(.var 1), (.var 2), (.var 5)])])]))
def b_k19_1 : List Stm :=
  [.asg 3 (.bin .add (.var 3) c_k19_0)]
def s_k19_1 : Stm := .for_ (.one 5) .items (.call 86 [(.var 1)]) (.con .none) b_k19_1
def b_k19_0 : List Stm :=
  [s_k19_1,
  .asg 3 (.fn1 .sortedSet (.var 3))]
def s_k19_0 : Stm := .for_ (.one 4) .rg1 (.con (.int 6)) (.con .none) b_k19_0
def law_k19 : Fn := ⟨11, 1,
   [.asg 1 (.call 76 [(.var 0), (.con (.int 2)), (.con (.int 6)), (.con (.int 4))]),
    .asg 2 (.call 98 [(.var 0), (.var 1)]),
    .asg 3 (.lst [(.tup [(.con (.int 0)), (.con (.int 1)), (.con (.int 2))])]),
    s_k19_0,
    .asg 6 (.call 65 [(.var 1), (.var 2)]),
    .ite (.or (.cmp .ne (.var 6) (.var 3)) (.or (.cmp .notin (.fn1 .len (.var 6)) (.tup [(.con (.int 1)), (.con (.int 2)), (.con (.int 3)), (.con (.int 6))])) (.cmp .ne (.cmp .eq (.fn1 .len (.var 6)) (.con (.int 1))) (.call 52 [(.var 1), (.var 2)]))))
     [.ret (.con (.bool false))]
     [],
    .asg 7 (.call 82 [(.var 0), (.con (.int 6)), (.var 1), (.con (.int 6))]),
    .asg 8 (.idx (.call 84 [(.var 1)]) (.idx (.var 7) (.con (.int 0)))),
    .asg 9 (.idx (.call 84 [(.var 1)]) (.idx (.var 7) (.neg (.con (.int 1))))),
    .ret (.cmp .isin (.call 81 [(.var 1), (.var 2), (.bin .add (.bin .add (.var 8) (.slf (.var 7) (.con (.int 1)))) (.slf (.rev (.var 9)) (.con (.int 1))))]) (.var 6))]⟩
-- k20 : 0=script 1=graph 2=labels 3=found 4=renaming
def c_k20_0 : Ex := (.cpr [4] (.one 4) .items (.call 94 [(.idx (.var 1) (.con (.int 0)))]) (.con .none) (.call 88 [(.var 1), (.var 2), (.var 4)]))
def law_k20 : Fn := ⟨5, 1,
   [.asg 1 (.call 76 [(.var 0), (.con (.int 2)), (.con (.int 4)), (.con (.int 3))]),
    .asg 2 (.call 98 [(.var 0), (.var 1)]),
    .asg 3 c_k20_0,
    .ret (.cmp .eq (.call 67 [(.var 1), (.var 2)]) (.fn1 .len (.fn1 .sortedSet (.var 3))))]⟩
-- k21 : 0=script 1=draws 2=graph 3=labels 4=odd 5=options 6=vertex 7=longer 8=one 9=place 10=other 11=found 12=walk 13=some
def b_k21_1 : List Stm :=
  [.asg 7 (.bin .add (.var 7) (.lst [(.bin .add (.var 8) (.tup [(.con (.int 0))])), (.bin .add (.var 8) (.tup [(.con (.int 1))]))]))]
def s_k21_1 : Stm := .for_ (.one 8) .items (.var 5) (.con .none) b_k21_1
def b_k21_0 : List Stm :=
  [.asg 7 (.lst []),
  s_k21_1,
  .asg 5 (.var 7)]
def s_k21_0 : Stm := .for_ (.one 6) .rg2 (.con (.int 1)) (.idx (.var 2) (.con (.int 0))) b_k21_0
def c_k21_0 : Ex := (.cpi [13] (.one 13) .items (.var 5) (.con .none) (.cmp .eq (.cmp .ne (.idx (.var 13) (.var 8)) (.idx (.var 13) (.var 10))) (.cmp .isin (.idx (.var 3) (.var 9)) (.var 4))) (.var 13))
def b_k21_2 : List Stm :=
  [.unp [(.one 8), (.one 10)] (.idx (.idx (.var 2) (.con (.int 1))) (.var 9)),
  .asg 5 c_k21_0]
def s_k21_2 : Stm := .for_ (.one 9) .rg1 (.fn1 .len (.var 3)) (.con .none) b_k21_2
def law_k21 : Fn := ⟨14, 1,
   [.asg 1 (.call 69 [(.var 0), (.con (.int 5))]),
    .asg 2 (.call 76 [(.var 0), (.con (.int 2)), (.con (.int 6)), (.con (.int 4))]),
    .asg 3 (.call 79 [(.var 0), (.con (.int 3)), (.var 2)]),
    .ite (.cmp .eq (.bin .mod (.idx (.var 1) (.con (.int 0))) (.con (.int 2))) (.con (.int 0)))
     [.asg 3 (.call 98 [(.var 0), (.var 2)])]
     [],
    .asg 4 (.lst [(.tup [(.con (.int 0)), (.con (.int 2)), (.con (.int 1))]), (.tup [(.con (.int 1)), (.con (.int 0)), (.con (.int 2))]), (.tup [(.con (.int 2)), (.con (.int 1)), (.con (.int 0))])]),
    .asg 5 (.lst [(.tup [(.con (.int 0))])]),
    s_k21_0,
    s_k21_2,
    .asg 11 (.call 106 [(.con (.int 0)), (.var 2), (.var 3)]),
    .asg 12 (.call 106 [(.con (.int 1)), (.var 2), (.var 3)]),
    .ite (.cmp .ne (.var 5) (.lst []))
     [.ret (.and (.cmp .eq (.lst [(.var 11)]) (.var 5)) (.cmp .eq (.var 12) (.con (.str ⟨#[101, 120, 105, 115, 116]⟩))))]
     [],
    .ret (.and (.cmp .eq (.var 11) (.con (.str ⟨#[110, 111, 110, 101]⟩))) (.and (.cmp .eq (.idx (.var 12) (.con (.int 0))) (.idx (.var 12) (.neg (.con (.int 1))))) (.cmp .isin (.call 83 [(.var 2), (.var 3), (.var 12)]) (.var 4))))]⟩
def fnTab0 : List (Option Fn) := [none, some f_in_range, some f_is_permutation, some f_check_permutation, some f_after, some f_opposite, some f_compose, some f_inverse, some f_is_edge, some f_tree_of, some f_is_graph, some f_check_graph, some f_are_labels, some f_check_labels, some f_is_walk, some f_step_label, some f_product_of, some f_product, some f_loops_of, some f_loops, some f_format_labels, some f_is_renaming, some f_renamed_labels, some f_rename, some f_tree_renaming]
def fnTab1 : List (Option Fn) := [some f_check_pair, some f_matching, some f_are_alike, some f_count_kinds, some f_least_alike, some f_all_kinds, some f_changes, some f_are_answers, some f_candidates, some f_part_of, some f_parts, some f_all_renamings, some f_changed_edges, some f_fewest_changes, some f_check_vertex, some f_rename_at, some f_turned, some f_renaming_between, some f_fits, some f_is_unmatched, some f_paper, some f_is_paper, some f_tidy, some f_kinds, some f_possible_walks]
def fnTab2 : List (Option Fn) := [some f_best_walk, some f_crooked, some f_is_straight, some f_crooked_walk, some f_straightening, some f_steady_choices, some f_sheet_counts, some f_parse_line, some f_parse_labels, some f_is_odd, some f_odd_loop, some f_halves, some f_odd_walk, some f_closure, some f_group_of, some f_loop_group, some f_keepers, some f_count_alike, some l_cell, some l_row, some l_six, some l_back, some l_then, some l_named, some l_whole]
def fnTab3 : List (Option Fn) := [some l_in, some l_graph, some l_is_graph, some l_graph_error, some l_labels, some l_step, some l_product, some l_walk, some l_walked, some l_tree, some l_tree_edges, some l_loops, some l_renaming, some l_renamed, some l_turned, some l_pair, some l_matched, some l_unmatched, some l_is_closed, some l_all_renamings, some l_kinds, some l_hidden, some l_lined, some l_straight_labels, some l_is_kept]
def fnTab4 : List (Option Fn) := [some l_changes, some l_best, some l_parse, none, some l_raise, some l_raise_more, some l_halved]
def fnTab : List (Option Fn) := fnTab0 ++ fnTab1 ++ fnTab2 ++ fnTab3 ++ fnTab4
def lawTab : List (Option Fn) := [none, some law_k01, some law_k02, some law_k03, some law_k04, some law_k05, some law_k06, some law_k07, some law_k08, some law_k09, some law_k10, some law_k11, some law_k12, some law_k13, some law_k14, some law_k15, none, none, some law_k18, some law_k19, some law_k20, some law_k21]
def U : Prg := ⟨fun i => if i < 150 then fnTab.getD i none else if i < 160 then [some f_desk_init, some f_format_head].getD (i - 150) none else if i < 300 then wrapF i else lawTab.getD (i - 300) none, gvT, subT⟩
def CU (k : Nat) : Cfg := ⟨callN U k, gvT, subT⟩
abbrev V (d : D) : Option Sl := some (.val (.dat d))
abbrev O (d : D) : Option Sl := some (.own (.dat d))
theorem CU_ck (k : Nat) : (CU k).ck = callN U k := rfl
theorem CU_gv (k : Nat) : (CU k).gv = gvT := rfl
theorem CU_sub (k : Nat) : (CU k).sub = subT := rfl
theorem call_in_range (k : Nat) (x0 x1 x2 : D) : callN U (k + 1) 1 [x0, x1, x2] = outcome (execs (CU k) [V x0, V x1, V x2] f_in_range.body) := callN_eq (fn := f_in_range) rfl rfl
theorem call_is_permutation (k : Nat) (x0 : D) : callN U (k + 1) 2 [x0] = outcome (execs (CU k) [V x0, none] f_is_permutation.body) := callN_eq (fn := f_is_permutation) rfl rfl
theorem call_check_permutation (k : Nat) (x0 : D) : callN U (k + 1) 3 [x0] = outcome (execs (CU k) [V x0] f_check_permutation.body) := callN_eq (fn := f_check_permutation) rfl rfl
theorem call_after (k : Nat) (x0 x1 : D) : callN U (k + 1) 4 [x0, x1] = outcome (execs (CU k) [V x0, V x1, none] f_after.body) := callN_eq (fn := f_after) rfl rfl
theorem call_opposite (k : Nat) (x0 : D) : callN U (k + 1) 5 [x0] = outcome (execs (CU k) [V x0, none] f_opposite.body) := callN_eq (fn := f_opposite) rfl rfl
theorem call_compose (k : Nat) (x0 x1 : D) : callN U (k + 1) 6 [x0, x1] = outcome (execs (CU k) [V x0, V x1] f_compose.body) := callN_eq (fn := f_compose) rfl rfl
theorem call_inverse (k : Nat) (x0 : D) : callN U (k + 1) 7 [x0] = outcome (execs (CU k) [V x0] f_inverse.body) := callN_eq (fn := f_inverse) rfl rfl
theorem call_is_edge (k : Nat) (x0 x1 : D) : callN U (k + 1) 8 [x0, x1] = outcome (execs (CU k) [V x0, V x1] f_is_edge.body) := callN_eq (fn := f_is_edge) rfl rfl
theorem call_tree_of (k : Nat) (x0 : D) : callN U (k + 1) 9 [x0] = outcome (execs (CU k) [V x0, none, none, none, none, none] f_tree_of.body) := callN_eq (fn := f_tree_of) rfl rfl
theorem call_is_graph (k : Nat) (x0 : D) : callN U (k + 1) 10 [x0] = outcome (execs (CU k) [V x0, none, none] f_is_graph.body) := callN_eq (fn := f_is_graph) rfl rfl
theorem call_check_graph (k : Nat) (x0 : D) : callN U (k + 1) 11 [x0] = outcome (execs (CU k) [V x0] f_check_graph.body) := callN_eq (fn := f_check_graph) rfl rfl
theorem call_are_labels (k : Nat) (x0 x1 : D) : callN U (k + 1) 12 [x0, x1] = outcome (execs (CU k) [V x0, V x1, none] f_are_labels.body) := callN_eq (fn := f_are_labels) rfl rfl
theorem call_check_labels (k : Nat) (x0 x1 : D) : callN U (k + 1) 13 [x0, x1] = outcome (execs (CU k) [V x0, V x1] f_check_labels.body) := callN_eq (fn := f_check_labels) rfl rfl
theorem call_is_walk (k : Nat) (x0 x1 : D) : callN U (k + 1) 14 [x0, x1] = outcome (execs (CU k) [V x0, V x1, none, none, none] f_is_walk.body) := callN_eq (fn := f_is_walk) rfl rfl
theorem call_step_label (k : Nat) (x0 x1 x2 x3 : D) : callN U (k + 1) 15 [x0, x1, x2, x3] = outcome (execs (CU k) [V x0, V x1, V x2, V x3] f_step_label.body) := callN_eq (fn := f_step_label) rfl rfl
theorem call_product_of (k : Nat) (x0 x1 x2 : D) : callN U (k + 1) 16 [x0, x1, x2] = outcome (execs (CU k) [V x0, V x1, V x2, none, none, none] f_product_of.body) := callN_eq (fn := f_product_of) rfl rfl
theorem call_product (k : Nat) (x0 x1 x2 : D) : callN U (k + 1) 17 [x0, x1, x2] = outcome (execs (CU k) [V x0, V x1, V x2] f_product.body) := callN_eq (fn := f_product) rfl rfl
theorem call_loops_of (k : Nat) (x0 : D) : callN U (k + 1) 18 [x0] = outcome (execs (CU k) [V x0, none, none, none, none] f_loops_of.body) := callN_eq (fn := f_loops_of) rfl rfl
theorem call_loops (k : Nat) (x0 : D) : callN U (k + 1) 19 [x0] = outcome (execs (CU k) [V x0] f_loops.body) := callN_eq (fn := f_loops) rfl rfl
theorem call_format_labels (k : Nat) (x0 x1 : D) : callN U (k + 1) 20 [x0, x1] = outcome (execs (CU k) [V x0, V x1, none, none, none, none, none, none] f_format_labels.body) := callN_eq (fn := f_format_labels) rfl rfl
theorem call_is_renaming (k : Nat) (x0 x1 : D) : callN U (k + 1) 21 [x0, x1] = outcome (execs (CU k) [V x0, V x1, none] f_is_renaming.body) := callN_eq (fn := f_is_renaming) rfl rfl
theorem call_renamed_labels (k : Nat) (x0 x1 x2 : D) : callN U (k + 1) 22 [x0, x1, x2] = outcome (execs (CU k) [V x0, V x1, V x2, none, none, none, none] f_renamed_labels.body) := callN_eq (fn := f_renamed_labels) rfl rfl
theorem call_rename (k : Nat) (x0 x1 x2 : D) : callN U (k + 1) 23 [x0, x1, x2] = outcome (execs (CU k) [V x0, V x1, V x2] f_rename.body) := callN_eq (fn := f_rename) rfl rfl
theorem call_tree_renaming (k : Nat) (x0 x1 x2 : D) : callN U (k + 1) 24 [x0, x1, x2] = outcome (execs (CU k) [V x0, V x1, V x2, none, none] f_tree_renaming.body) := callN_eq (fn := f_tree_renaming) rfl rfl
theorem call_check_pair (k : Nat) (x0 x1 x2 : D) : callN U (k + 1) 25 [x0, x1, x2] = outcome (execs (CU k) [V x0, V x1, V x2] f_check_pair.body) := callN_eq (fn := f_check_pair) rfl rfl
theorem call_matching (k : Nat) (x0 x1 x2 : D) : callN U (k + 1) 26 [x0, x1, x2] = outcome (execs (CU k) [V x0, V x1, V x2, none, none, none, none, none, none] f_matching.body) := callN_eq (fn := f_matching) rfl rfl
theorem call_are_alike (k : Nat) (x0 x1 x2 : D) : callN U (k + 1) 27 [x0, x1, x2] = outcome (execs (CU k) [V x0, V x1, V x2] f_are_alike.body) := callN_eq (fn := f_are_alike) rfl rfl
theorem call_count_kinds (k : Nat) (x0 : D) : callN U (k + 1) 28 [x0] = outcome (execs (CU k) [V x0, none, none, none, none] f_count_kinds.body) := callN_eq (fn := f_count_kinds) rfl rfl
theorem call_least_alike (k : Nat) (x0 x1 : D) : callN U (k + 1) 29 [x0, x1] = outcome (execs (CU k) [V x0, V x1, none] f_least_alike.body) := callN_eq (fn := f_least_alike) rfl rfl
theorem call_all_kinds (k : Nat) (x0 : D) : callN U (k + 1) 30 [x0] = outcome (execs (CU k) [V x0, none, none, none, none, none, none, none, none] f_all_kinds.body) := callN_eq (fn := f_all_kinds) rfl rfl
theorem call_changes (k : Nat) (x0 x1 x2 : D) : callN U (k + 1) 31 [x0, x1, x2] = outcome (execs (CU k) [V x0, V x1, V x2, none, none] f_changes.body) := callN_eq (fn := f_changes) rfl rfl
theorem call_are_answers (k : Nat) (x0 x1 : D) : callN U (k + 1) 32 [x0, x1] = outcome (execs (CU k) [V x0, V x1, none] f_are_answers.body) := callN_eq (fn := f_are_answers) rfl rfl
theorem call_candidates (k : Nat) (x0 x1 : D) : callN U (k + 1) 33 [x0, x1] = outcome (execs (CU k) [V x0, V x1, none, none, none, none, none] f_candidates.body) := callN_eq (fn := f_candidates) rfl rfl
theorem call_part_of (k : Nat) (x0 x1 x2 : D) : callN U (k + 1) 34 [x0, x1, x2] = outcome (execs (CU k) [V x0, V x1, V x2, none, none, none, none, none, none, none] f_part_of.body) := callN_eq (fn := f_part_of) rfl rfl
theorem call_parts (k : Nat) (x0 x1 : D) : callN U (k + 1) 35 [x0, x1] = outcome (execs (CU k) [V x0, V x1, none, none, none] f_parts.body) := callN_eq (fn := f_parts) rfl rfl
theorem call_all_renamings (k : Nat) (x0 : D) : callN U (k + 1) 36 [x0] = outcome (execs (CU k) [V x0, none, none, none, none, none] f_all_renamings.body) := callN_eq (fn := f_all_renamings) rfl rfl
theorem call_changed_edges (k : Nat) (x0 x1 x2 : D) : callN U (k + 1) 37 [x0, x1, x2] = outcome (execs (CU k) [V x0, V x1, V x2, none, none, none] f_changed_edges.body) := callN_eq (fn := f_changed_edges) rfl rfl
theorem call_fewest_changes (k : Nat) (x0 x1 : D) : callN U (k + 1) 38 [x0, x1] = outcome (execs (CU k) [V x0, V x1, none, none, none, none] f_fewest_changes.body) := callN_eq (fn := f_fewest_changes) rfl rfl
theorem call_check_vertex (k : Nat) (x0 x1 : D) : callN U (k + 1) 39 [x0, x1] = outcome (execs (CU k) [V x0, V x1] f_check_vertex.body) := callN_eq (fn := f_check_vertex) rfl rfl
theorem call_rename_at (k : Nat) (x0 x1 x2 x3 : D) : callN U (k + 1) 40 [x0, x1, x2, x3] = outcome (execs (CU k) [V x0, V x1, V x2, V x3, none] f_rename_at.body) := callN_eq (fn := f_rename_at) rfl rfl
theorem call_turned (k : Nat) (x0 x1 : D) : callN U (k + 1) 41 [x0, x1] = outcome (execs (CU k) [V x0, V x1] f_turned.body) := callN_eq (fn := f_turned) rfl rfl
theorem call_renaming_between (k : Nat) (x0 x1 x2 : D) : callN U (k + 1) 42 [x0, x1, x2] = outcome (execs (CU k) [V x0, V x1, V x2, none] f_renaming_between.body) := callN_eq (fn := f_renaming_between) rfl rfl
theorem call_fits (k : Nat) (x0 x1 x2 x3 x4 : D) : callN U (k + 1) 43 [x0, x1, x2, x3, x4] = outcome (execs (CU k) [V x0, V x1, V x2, V x3, V x4, none] f_fits.body) := callN_eq (fn := f_fits) rfl rfl
theorem call_is_unmatched (k : Nat) (x0 x1 x2 x3 : D) : callN U (k + 1) 44 [x0, x1, x2, x3] = outcome (execs (CU k) [V x0, V x1, V x2, V x3, none] f_is_unmatched.body) := callN_eq (fn := f_is_unmatched) rfl rfl
theorem call_paper (k : Nat) (x0 x1 x2 : D) : callN U (k + 1) 45 [x0, x1, x2] = outcome (execs (CU k) [V x0, V x1, V x2, none, none, none] f_paper.body) := callN_eq (fn := f_paper) rfl rfl
theorem call_is_paper (k : Nat) (x0 x1 x2 x3 : D) : callN U (k + 1) 46 [x0, x1, x2, x3] = outcome (execs (CU k) [V x0, V x1, V x2, V x3, none] f_is_paper.body) := callN_eq (fn := f_is_paper) rfl rfl
theorem call_tidy (k : Nat) (x0 x1 : D) : callN U (k + 1) 47 [x0, x1] = outcome (execs (CU k) [V x0, V x1, none] f_tidy.body) := callN_eq (fn := f_tidy) rfl rfl
theorem call_kinds (k : Nat) (x0 : D) : callN U (k + 1) 48 [x0] = outcome (execs (CU k) [V x0] f_kinds.body) := callN_eq (fn := f_kinds) rfl rfl
theorem call_possible_walks (k : Nat) (x0 : D) : callN U (k + 1) 49 [x0] = outcome (execs (CU k) [V x0, none, none, none, none] f_possible_walks.body) := callN_eq (fn := f_possible_walks) rfl rfl
theorem call_best_walk (k : Nat) (x0 x1 : D) : callN U (k + 1) 50 [x0, x1] = outcome (execs (CU k) [V x0, V x1, none, none, none, none, none, none, none] f_best_walk.body) := callN_eq (fn := f_best_walk) rfl rfl
theorem call_crooked (k : Nat) (x0 x1 : D) : callN U (k + 1) 51 [x0, x1] = outcome (execs (CU k) [V x0, V x1, none] f_crooked.body) := callN_eq (fn := f_crooked) rfl rfl
theorem call_is_straight (k : Nat) (x0 x1 : D) : callN U (k + 1) 52 [x0, x1] = outcome (execs (CU k) [V x0, V x1] f_is_straight.body) := callN_eq (fn := f_is_straight) rfl rfl
theorem call_crooked_walk (k : Nat) (x0 x1 : D) : callN U (k + 1) 53 [x0, x1] = outcome (execs (CU k) [V x0, V x1, none] f_crooked_walk.body) := callN_eq (fn := f_crooked_walk) rfl rfl
theorem call_straightening (k : Nat) (x0 x1 : D) : callN U (k + 1) 54 [x0, x1] = outcome (execs (CU k) [V x0, V x1] f_straightening.body) := callN_eq (fn := f_straightening) rfl rfl
theorem call_steady_choices (k : Nat) (x0 x1 : D) : callN U (k + 1) 55 [x0, x1] = outcome (execs (CU k) [V x0, V x1, none, none, none, none] f_steady_choices.body) := callN_eq (fn := f_steady_choices) rfl rfl
theorem call_sheet_counts (k : Nat) (x0 x1 : D) : callN U (k + 1) 56 [x0, x1] = outcome (execs (CU k) [V x0, V x1, none] f_sheet_counts.body) := callN_eq (fn := f_sheet_counts) rfl rfl
theorem call_parse_line (k : Nat) (x0 x1 : D) : callN U (k + 1) 57 [x0, x1] = outcome (execs (CU k) [V x0, V x1, none, none, none, none, none] f_parse_line.body) := callN_eq (fn := f_parse_line) rfl rfl
theorem call_parse_labels (k : Nat) (x0 : D) : callN U (k + 1) 58 [x0] = outcome (execs (CU k) [V x0, none, none, none, none, none, none] f_parse_labels.body) := callN_eq (fn := f_parse_labels) rfl rfl
theorem call_is_odd (k : Nat) (x0 : D) : callN U (k + 1) 59 [x0] = outcome (execs (CU k) [V x0, none] f_is_odd.body) := callN_eq (fn := f_is_odd) rfl rfl
theorem call_odd_loop (k : Nat) (x0 x1 : D) : callN U (k + 1) 60 [x0, x1] = outcome (execs (CU k) [V x0, V x1, none] f_odd_loop.body) := callN_eq (fn := f_odd_loop) rfl rfl
theorem call_halves (k : Nat) (x0 x1 : D) : callN U (k + 1) 61 [x0, x1] = outcome (execs (CU k) [V x0, V x1, none, none] f_halves.body) := callN_eq (fn := f_halves) rfl rfl
theorem call_odd_walk (k : Nat) (x0 x1 : D) : callN U (k + 1) 62 [x0, x1] = outcome (execs (CU k) [V x0, V x1, none] f_odd_walk.body) := callN_eq (fn := f_odd_walk) rfl rfl
theorem call_closure (k : Nat) (x0 : D) : callN U (k + 1) 63 [x0] = outcome (execs (CU k) [V x0, none, none, none, none, none] f_closure.body) := callN_eq (fn := f_closure) rfl rfl
theorem call_group_of (k : Nat) (x0 x1 : D) : callN U (k + 1) 64 [x0, x1] = outcome (execs (CU k) [V x0, V x1, none] f_group_of.body) := callN_eq (fn := f_group_of) rfl rfl
theorem call_loop_group (k : Nat) (x0 x1 : D) : callN U (k + 1) 65 [x0, x1] = outcome (execs (CU k) [V x0, V x1] f_loop_group.body) := callN_eq (fn := f_loop_group) rfl rfl
theorem call_keepers (k : Nat) (x0 : D) : callN U (k + 1) 66 [x0] = outcome (execs (CU k) [V x0, none, none] f_keepers.body) := callN_eq (fn := f_keepers) rfl rfl
theorem call_count_alike (k : Nat) (x0 x1 : D) : callN U (k + 1) 67 [x0, x1] = outcome (execs (CU k) [V x0, V x1, none, none] f_count_alike.body) := callN_eq (fn := f_count_alike) rfl rfl
theorem call_l_cell (k : Nat) (x0 x1 : D) : callN U (k + 1) 68 [x0, x1] = outcome (execs (CU k) [V x0, V x1] l_cell.body) := callN_eq (fn := l_cell) rfl rfl
theorem call_l_row (k : Nat) (x0 x1 : D) : callN U (k + 1) 69 [x0, x1] = outcome (execs (CU k) [V x0, V x1, none, none, none] l_row.body) := callN_eq (fn := l_row) rfl rfl
theorem call_l_six (k : Nat) : callN U (k + 1) 70 [] = outcome (execs (CU k) [] l_six.body) := callN_eq (fn := l_six) rfl rfl
theorem call_l_back (k : Nat) (x0 : D) : callN U (k + 1) 71 [x0] = outcome (execs (CU k) [V x0, none, none] l_back.body) := callN_eq (fn := l_back) rfl rfl
theorem call_l_then (k : Nat) (x0 : D) : callN U (k + 1) 72 [x0] = outcome (execs (CU k) [V x0, none, none] l_then.body) := callN_eq (fn := l_then) rfl rfl
theorem call_l_named (k : Nat) (x0 x1 : D) : callN U (k + 1) 73 [x0, x1] = outcome (execs (CU k) [V x0, V x1, none] l_named.body) := callN_eq (fn := l_named) rfl rfl
theorem call_l_whole (k : Nat) (x0 : D) : callN U (k + 1) 74 [x0] = outcome (execs (CU k) [V x0] l_whole.body) := callN_eq (fn := l_whole) rfl rfl
theorem call_l_in (k : Nat) (x0 x1 x2 : D) : callN U (k + 1) 75 [x0, x1, x2] = outcome (execs (CU k) [V x0, V x1, V x2] l_in.body) := callN_eq (fn := l_in) rfl rfl
theorem call_l_graph (k : Nat) (x0 x1 x2 x3 : D) : callN U (k + 1) 76 [x0, x1, x2, x3] = outcome (execs (CU k) [V x0, V x1, V x2, V x3, none, none, none, none, none, none, none, none] l_graph.body) := callN_eq (fn := l_graph) rfl rfl
theorem call_l_is_graph (k : Nat) (x0 : D) : callN U (k + 1) 77 [x0] = outcome (execs (CU k) [V x0, none, none, none, none, none, none] l_is_graph.body) := callN_eq (fn := l_is_graph) rfl rfl
theorem call_l_graph_error (k : Nat) (x0 x1 : D) : callN U (k + 1) 78 [x0, x1] = outcome (execs (CU k) [V x0, V x1, none, none] l_graph_error.body) := callN_eq (fn := l_graph_error) rfl rfl
theorem call_l_labels (k : Nat) (x0 x1 x2 : D) : callN U (k + 1) 79 [x0, x1, x2] = outcome (execs (CU k) [V x0, V x1, V x2, none, none] l_labels.body) := callN_eq (fn := l_labels) rfl rfl
theorem call_l_step (k : Nat) (x0 x1 x2 x3 : D) : callN U (k + 1) 80 [x0, x1, x2, x3] = outcome (execs (CU k) [V x0, V x1, V x2, V x3] l_step.body) := callN_eq (fn := l_step) rfl rfl
theorem call_l_product (k : Nat) (x0 x1 x2 : D) : callN U (k + 1) 81 [x0, x1, x2] = outcome (execs (CU k) [V x0, V x1, V x2, none] l_product.body) := callN_eq (fn := l_product) rfl rfl
theorem call_l_walk (k : Nat) (x0 x1 x2 x3 : D) : callN U (k + 1) 82 [x0, x1, x2, x3] = outcome (execs (CU k) [V x0, V x1, V x2, V x3, none, none, none, none, none] l_walk.body) := callN_eq (fn := l_walk) rfl rfl
theorem call_l_walked (k : Nat) (x0 x1 x2 : D) : callN U (k + 1) 83 [x0, x1, x2] = outcome (execs (CU k) [V x0, V x1, V x2, none] l_walked.body) := callN_eq (fn := l_walked) rfl rfl
theorem call_l_tree (k : Nat) (x0 : D) : callN U (k + 1) 84 [x0] = outcome (execs (CU k) [V x0, none, none, none, none, none, none] l_tree.body) := callN_eq (fn := l_tree) rfl rfl
theorem call_l_tree_edges (k : Nat) (x0 : D) : callN U (k + 1) 85 [x0] = outcome (execs (CU k) [V x0, none, none, none] l_tree_edges.body) := callN_eq (fn := l_tree_edges) rfl rfl
theorem call_l_loops (k : Nat) (x0 : D) : callN U (k + 1) 86 [x0] = outcome (execs (CU k) [V x0, none, none, none, none] l_loops.body) := callN_eq (fn := l_loops) rfl rfl
theorem call_l_renaming (k : Nat) (x0 x1 x2 : D) : callN U (k + 1) 87 [x0, x1, x2] = outcome (execs (CU k) [V x0, V x1, V x2, none, none] l_renaming.body) := callN_eq (fn := l_renaming) rfl rfl
theorem call_l_renamed (k : Nat) (x0 x1 x2 : D) : callN U (k + 1) 88 [x0, x1, x2] = outcome (execs (CU k) [V x0, V x1, V x2, none, none, none, none] l_renamed.body) := callN_eq (fn := l_renamed) rfl rfl
theorem call_l_turned (k : Nat) (x0 x1 x2 x3 x4 : D) : callN U (k + 1) 89 [x0, x1, x2, x3, x4] = outcome (execs (CU k) [V x0, V x1, V x2, V x3, V x4, none] l_turned.body) := callN_eq (fn := l_turned) rfl rfl
theorem call_l_pair (k : Nat) (x0 x1 : D) : callN U (k + 1) 90 [x0, x1] = outcome (execs (CU k) [V x0, V x1, none, none, none, none] l_pair.body) := callN_eq (fn := l_pair) rfl rfl
theorem call_l_matched (k : Nat) (x0 x1 x2 x3 : D) : callN U (k + 1) 91 [x0, x1, x2, x3] = outcome (execs (CU k) [V x0, V x1, V x2, V x3, none] l_matched.body) := callN_eq (fn := l_matched) rfl rfl
theorem call_l_unmatched (k : Nat) (x0 x1 x2 x3 : D) : callN U (k + 1) 92 [x0, x1, x2, x3] = outcome (execs (CU k) [V x0, V x1, V x2, V x3, none, none, none, none] l_unmatched.body) := callN_eq (fn := l_unmatched) rfl rfl
theorem call_l_is_closed (k : Nat) (x0 x1 : D) : callN U (k + 1) 93 [x0, x1] = outcome (execs (CU k) [V x0, V x1, none, none] l_is_closed.body) := callN_eq (fn := l_is_closed) rfl rfl
theorem call_l_all_renamings (k : Nat) (x0 : D) : callN U (k + 1) 94 [x0] = outcome (execs (CU k) [V x0, none, none, none, none, none] l_all_renamings.body) := callN_eq (fn := l_all_renamings) rfl rfl
theorem call_l_kinds (k : Nat) (x0 : D) : callN U (k + 1) 95 [x0] = outcome (execs (CU k) [V x0, none, none, none, none, none, none, none, none] l_kinds.body) := callN_eq (fn := l_kinds) rfl rfl
theorem call_l_hidden (k : Nat) (x0 x1 x2 : D) : callN U (k + 1) 96 [x0, x1, x2] = outcome (execs (CU k) [V x0, V x1, V x2, none] l_hidden.body) := callN_eq (fn := l_hidden) rfl rfl
theorem call_l_lined (k : Nat) (x0 x1 x2 : D) : callN U (k + 1) 97 [x0, x1, x2] = outcome (execs (CU k) [V x0, V x1, V x2, none] l_lined.body) := callN_eq (fn := l_lined) rfl rfl
theorem call_l_straight_labels (k : Nat) (x0 x1 : D) : callN U (k + 1) 98 [x0, x1] = outcome (execs (CU k) [V x0, V x1, none, none, none, none] l_straight_labels.body) := callN_eq (fn := l_straight_labels) rfl rfl
theorem call_l_is_kept (k : Nat) (x0 x1 x2 : D) : callN U (k + 1) 99 [x0, x1, x2] = outcome (execs (CU k) [V x0, V x1, V x2, none, none, none] l_is_kept.body) := callN_eq (fn := l_is_kept) rfl rfl
theorem call_l_changes (k : Nat) (x0 x1 x2 : D) : callN U (k + 1) 100 [x0, x1, x2] = outcome (execs (CU k) [V x0, V x1, V x2, none, none] l_changes.body) := callN_eq (fn := l_changes) rfl rfl
theorem call_l_best (k : Nat) (x0 x1 x2 : D) : callN U (k + 1) 101 [x0, x1, x2] = outcome (execs (CU k) [V x0, V x1, V x2, none, none, none, none, none, none] l_best.body) := callN_eq (fn := l_best) rfl rfl
theorem call_l_parse (k : Nat) (x0 : D) : callN U (k + 1) 102 [x0] = outcome (execs (CU k) [V x0, none] l_parse.body) := callN_eq (fn := l_parse) rfl rfl
theorem call_l_raise (k : Nat) (x0 : D) : callN U (k + 1) 104 [x0] = outcome (execs (CU k) [V x0, none, none] l_raise.body) := callN_eq (fn := l_raise) rfl rfl
theorem call_l_raise_more (k : Nat) (x0 : D) : callN U (k + 1) 105 [x0] = outcome (execs (CU k) [V x0, none, none] l_raise_more.body) := callN_eq (fn := l_raise_more) rfl rfl
theorem call_l_halved (k : Nat) (x0 x1 x2 : D) : callN U (k + 1) 106 [x0, x1, x2] = outcome (execs (CU k) [V x0, V x1, V x2, none] l_halved.body) := callN_eq (fn := l_halved) rfl rfl
theorem call_desk_init (k : Nat) (x0 x1 x2 : D) : callN U (k + 1) 150 [x0, x1, x2] = outcome (execs (CU k) [V x0, V x1, V x2] f_desk_init.body) := callN_eq (fn := f_desk_init) rfl rfl
theorem call_format_head (k : Nat) (x0 x1 : D) : callN U (k + 1) 151 [x0, x1] = outcome (execs (CU k) [V x0, V x1, none, none, none, none, none, none] f_format_head.body) := callN_eq (fn := f_format_head) rfl rfl
theorem call_k01 (k : Nat) (x0 : D) : callN U (k + 1) 301 [x0] = outcome (execs (CU k) [V x0, none, none, none, none, none] law_k01.body) := callN_eq (fn := law_k01) rfl rfl
theorem call_k02 (k : Nat) (x0 : D) : callN U (k + 1) 302 [x0] = outcome (execs (CU k) [V x0, none, none, none, none, none, none, none, none, none, none, none, none, none] law_k02.body) := callN_eq (fn := law_k02) rfl rfl
theorem call_k03 (k : Nat) (x0 : D) : callN U (k + 1) 303 [x0] = outcome (execs (CU k) [V x0, none, none, none, none, none, none] law_k03.body) := callN_eq (fn := law_k03) rfl rfl
theorem call_k04 (k : Nat) (x0 : D) : callN U (k + 1) 304 [x0] = outcome (execs (CU k) [V x0, none, none, none, none] law_k04.body) := callN_eq (fn := law_k04) rfl rfl
theorem call_k05 (k : Nat) (x0 : D) : callN U (k + 1) 305 [x0] = outcome (execs (CU k) [V x0, none, none, none, none, none, none, none, none, none, none] law_k05.body) := callN_eq (fn := law_k05) rfl rfl
theorem call_k06 (k : Nat) (x0 : D) : callN U (k + 1) 306 [x0] = outcome (execs (CU k) [V x0, none, none, none, none, none, none, none, none, none] law_k06.body) := callN_eq (fn := law_k06) rfl rfl
theorem call_k07 (k : Nat) (x0 : D) : callN U (k + 1) 307 [x0] = outcome (execs (CU k) [V x0, none, none, none, none, none, none, none, none, none, none] law_k07.body) := callN_eq (fn := law_k07) rfl rfl
theorem call_k08 (k : Nat) (x0 : D) : callN U (k + 1) 308 [x0] = outcome (execs (CU k) [V x0, none, none, none, none, none, none, none, none, none] law_k08.body) := callN_eq (fn := law_k08) rfl rfl
theorem call_k09 (k : Nat) (x0 : D) : callN U (k + 1) 309 [x0] = outcome (execs (CU k) [V x0, none, none, none, none] law_k09.body) := callN_eq (fn := law_k09) rfl rfl
theorem call_k10 (k : Nat) (x0 : D) : callN U (k + 1) 310 [x0] = outcome (execs (CU k) [V x0, none, none, none, none, none] law_k10.body) := callN_eq (fn := law_k10) rfl rfl
theorem call_k11 (k : Nat) (x0 : D) : callN U (k + 1) 311 [x0] = outcome (execs (CU k) [V x0, none, none, none, none, none, none, none, none] law_k11.body) := callN_eq (fn := law_k11) rfl rfl
theorem call_k12 (k : Nat) (x0 : D) : callN U (k + 1) 312 [x0] = outcome (execs (CU k) [V x0, none, none, none, none, none, none, none, none, none, none, none, none, none, none, none, none, none, none] law_k12.body) := callN_eq (fn := law_k12) rfl rfl
theorem call_k13 (k : Nat) (x0 : D) : callN U (k + 1) 313 [x0] = outcome (execs (CU k) [V x0, none, none, none, none, none, none, none, none, none, none, none, none, none, none, none, none, none, none] law_k13.body) := callN_eq (fn := law_k13) rfl rfl
theorem call_k14 (k : Nat) (x0 : D) : callN U (k + 1) 314 [x0] = outcome (execs (CU k) [V x0, none, none, none, none, none, none, none, none, none, none, none, none, none] law_k14.body) := callN_eq (fn := law_k14) rfl rfl
theorem call_k15 (k : Nat) (x0 : D) : callN U (k + 1) 315 [x0] = outcome (execs (CU k) [V x0, none, none, none, none, none, none, none, none, none, none, none, none, none, none, none] law_k15.body) := callN_eq (fn := law_k15) rfl rfl
theorem call_k18 (k : Nat) (x0 : D) : callN U (k + 1) 318 [x0] = outcome (execs (CU k) [V x0, none, none, none, none, none, none] law_k18.body) := callN_eq (fn := law_k18) rfl rfl
theorem call_k19 (k : Nat) (x0 : D) : callN U (k + 1) 319 [x0] = outcome (execs (CU k) [V x0, none, none, none, none, none, none, none, none, none, none] law_k19.body) := callN_eq (fn := law_k19) rfl rfl
theorem call_k20 (k : Nat) (x0 : D) : callN U (k + 1) 320 [x0] = outcome (execs (CU k) [V x0, none, none, none, none] law_k20.body) := callN_eq (fn := law_k20) rfl rfl
theorem call_k21 (k : Nat) (x0 : D) : callN U (k + 1) 321 [x0] = outcome (execs (CU k) [V x0, none, none, none, none, none, none, none, none, none, none, none, none, none] law_k21.body) := callN_eq (fn := law_k21) rfl rfl
end RL
/-! RLW: walking the evaluator: equations for a simp set, typed data, loops. -/
namespace RL
open PySem
section eqs
variable {C : Cfg} {r : Env}
theorem w_nil : execs C r [] = .nx r := rfl
theorem w_cons {s : Stm} {l : List Stm} : execs C r (s :: l) = (exec C r s).seq fun r => execs C r l := rfl
theorem w_asg {i : Nat} {e : Ex} : exec C r (.asg i e) = .of r (evF C r e) fun v => .nx (r.set i (some (.val v))) := rfl
theorem w_new {i : Nat} {e : Ex} (h : fresh e = true) : exec C r (.new i e) = .of r (evF C r e) fun v => .nx (r.set i (some (.own v))) := by
  show SR.opt (grdO (fresh e) (some ())) _ = _
  rw [h]; rfl
theorem w_newL {i : Nat} {es : List Ex} : exec C r (.new i (.lst es)) = .of r (evF C r (.lst es)) fun v => .nx (r.set i (some (.own v))) := rfl
theorem w_newD {i : Nat} {a b : Ex} : exec C r (.new i (.dc1 a b)) = .of r (evF C r (.dc1 a b)) fun v => .nx (r.set i (some (.own v))) := rfl
theorem w_newE {i : Nat} : exec C r (.new i .dc0) = .nx (r.set i (some (.own (.dT [])))) := rfl
theorem w_newT {i : Nat} {a : Ex} : exec C r (.new i (.fn1 .list a)) = .of r (evF C r (.fn1 .list a)) fun v => .nx (r.set i (some (.own v))) := rfl
theorem w_unp {l : List Tg} {e : Ex} : exec C r (.unp l e) = .of r (evR C r e) fun d => .opt (unpD r d l) fun r => .nx r := rfl
theorem w_par {l : List Nat} {es : List Ex} : exec C r (.par l es) = .of r (evs C r es) fun ds => .opt (setAll r l ds) fun r => .nx r := rfl
theorem w_set {i : Nat} {k e : Ex} : exec C r (.set i k e) = .opt (ownAt r i) fun v => .of r (evD C r e) fun x => .of r (evR C r k) fun k => .opt (setV v k x) fun v => .nx (r.set i (some (.own v))) := rfl
theorem w_aug {i : Nat} {o : BOp} {e : Ex} : exec C r (.aug i o e) = .opt (valI r i) fun a => .of r (evR C r e) fun y => .opt (augD o (.int a) y) fun z => .nx (r.set i (some (.val (.dat z)))) := rfl
theorem w_app {i : Nat} {e : Ex} : exec C r (.app i e) = .opt (ownL r i) fun xs => .of r (evD C r e) fun x => .opt (appV (.dat (.list xs)) x) fun v => .nx (r.set i (some (.own v))) := rfl
theorem w_ext {i : Nat} {e : Ex} : exec C r (.ext i e) = .opt (ownL r i) fun xs => .of r (evD C r e) fun x => .opt (extV (.dat (.list xs)) x) fun v => .nx (r.set i (some (.own v))) := rfl
theorem w_pop {t : Tg} {i : Nat} {k : Option Int} : exec C r (.pop t i k) = .opt (ownAt r i) fun v => .opt (popV v k) fun p => .opt (bindTg (r.set i (some (.own p.2))) p.1 t) fun r => .nx r := rfl
theorem w_exp {e : Ex} : exec C r (.exp e) = .of r (ev C r e) fun _ => .nx r := rfl
theorem w_ite {c : Ex} {a b : List Stm} : exec C r (.ite c a b) = .of r (evT C r c) fun k => cond k (execs C r a) (execs C r b) := by
  rfl
theorem w_ret {e : Ex} : exec C r (.ret e) = .of r (evF C r e) fun v => .rt v := rfl
theorem w_raise {c : Nat} : exec C r (.raise c) = .ex c none r := rfl
theorem w_raise1 {c : Nat} {e : Ex} : exec C r (.raise1 c e) = .of r (evD C r e) fun d => .opt (grdO (flatD d) (some ())) fun _ => .ex c (some d) r := rfl
theorem w_frz {l : List Nat} : exec C r (.frz l) = .nx (frzAll r l) := rfl
theorem w_pass : exec C r .pass = .bad := rfl
/-! try: what its suite ends with -/
def tryE (C : Cfg) (h : Hs) : SR → SR
  | .ex c p r => hands C r c p h
  | s => s
theorem w_try {body : List Stm} {h : Hs} : exec C r (.try_ body h) = tryE C h (execs C r body) := by
  show (match execs C r body with
    | .ex c p r => hands C r c p h
    | s => s) = _
  cases execs C r body <;> rfl
def offE (i : Nat) : SR → SR
  | .nx r => .nx (r.set i none)
  | s => s
theorem w_hcons {c d i : Nat} {p : Option D} {su : List Stm} {h : Hs} : hands C r c p (.cons d i su h) = cond (C.sub c d) (offE i (execs C (r.set i (some (.val (.exn c p)))) su)) (hands C r c p h) := by
  show (match C.sub c d with
    | true => (match execs C (r.set i (some (.val (.exn c p)))) su with
      | .nx r => SR.nx (r.set i none)
      | s => s)
    | false => hands C r c p h) = _
  cases C.sub c d with
  | false => rfl
  | true =>
    show (match execs C (r.set i (some (.val (.exn c p)))) su with
      | .nx r => SR.nx (r.set i none)
      | s => s) = offE i (execs C (r.set i (some (.val (.exn c p)))) su)
    cases execs C (r.set i (some (.val (.exn c p)))) su <;> rfl
theorem w_hnil {c : Nat} {p : Option D} : hands C r c p .nil = .ex c p r := rfl
/-! expressions -/
theorem e_con {d : D} : ev C r (.con d) = ret d := rfl
theorem e_glo {g : Nat} : ev C r (.glo g) = opt (C.gv g) ret := rfl
def varR : Option (Option Sl) → Res (Bool × Vl)
  | some (some (.val v)) => .ok (false, v)
  | some (some (.own v)) => .ok (true, v)
  | _ => .bad
theorem e_var {i : Nat} : ev C r (.var i) = varR r[i]? := rfl
theorem varR_v {v : Vl} : varR (some (some (.val v))) = .ok (false, v) := rfl
theorem varR_o {v : Vl} : varR (some (some (.own v))) = .ok (true, v) := rfl
theorem e_bin {o : BOp} {a b : Ex} : ev C r (.bin o a b) = (ev C r a).bind fun x => (ev C r b).bind fun y => opt (datR x) fun x => opt (datR y) fun y => opt (binD o x y) ret := rfl
theorem e_neg {a : Ex} : ev C r (.neg a) = (ev C r a).bind fun x => opt (datR x) fun x => opt (negD x) ret := rfl
theorem e_cmp {o : COp} {a b : Ex} : ev C r (.cmp o a b) = (ev C r a).bind fun x => (ev C r b).bind fun y => opt (datR x) fun x => opt (cmpD o x y.2) retB := rfl
theorem e_chn {o p : COp} {a b c : Ex} : ev C r (.chn o p a b c) = (ev C r a).bind fun x => (ev C r b).bind fun y => opt (datR x) fun x => opt (datR y) fun y => opt (cmpD o x (.dat y)) fun k => cond k ((ev C r c).bind fun z => opt (cmpD p y z.2) retB) (retB false) := by
  rfl
theorem e_isn {pos : Bool} {a : Ex} : ev C r (.isn pos a) = (ev C r a).bind fun x => opt (datR x) fun x => retB (isNoneD x == pos) := rfl
theorem e_and {a b : Ex} : ev C r (.and a b) = (ev C r a).bind fun x => opt (truthy x.2) fun k => cond k (ev C r b) (.ok x) := by
  rfl
theorem e_or {a b : Ex} : ev C r (.or a b) = (ev C r a).bind fun x => opt (truthy x.2) fun k => cond k (.ok x) (ev C r b) := by
  rfl
theorem e_not {a : Ex} : ev C r (.not a) = (evT C r a).bind fun k => retB (!k) := by
  show (ev C r a).bind _ = ((ev C r a).bind _).bind _
  cases ev C r a with
  | ok x => show opt (truthy x.2) _ = (opt (truthy x.2) _).bind _; cases truthy x.2 <;> rfl
  | exc c p => rfl
  | bad => rfl
theorem e_ite {c a b : Ex} : ev C r (.ite c a b) = (evT C r c).bind fun k => cond k (ev C r a) (ev C r b) := by
  show (ev C r c).bind _ = ((ev C r c).bind _).bind _
  cases ev C r c with
  | ok x =>
    show opt (truthy x.2) _ = (opt (truthy x.2) _).bind _
    cases truthy x.2 with
    | none => rfl
    | some k => cases k <;> rfl
  | exc c p => rfl
  | bad => rfl
theorem e_tup {es : List Ex} : ev C r (.tup es) = (evs C r es).bind fun xs => opt (grdO (szOk xs.length) (some (.tuple xs))) ret := rfl
theorem e_lst {es : List Ex} : ev C r (.lst es) = (evs C r es).bind fun xs => opt (grdO (szOk xs.length) (some (.list xs))) ret := rfl
theorem e_idx {a i : Ex} : ev C r (.idx a i) = (ev C r a).bind fun x => (ev C r i).bind fun y => opt (datR y) fun y => opt (idxD x.2 y) ret := rfl
theorem e_slf {a lo : Ex} : ev C r (.slf a lo) = (ev C r a).bind fun x => (ev C r lo).bind fun y => opt (datR x) fun x => opt (datR y) fun y => opt (intD y) fun i => opt (cutD x (some i) none) ret := rfl
theorem e_slt {a hi : Ex} : ev C r (.slt a hi) = (ev C r a).bind fun x => (ev C r hi).bind fun y => opt (datR x) fun x => opt (datR y) fun y => opt (intD y) fun i => opt (cutD x none (some i)) ret := rfl
theorem e_slb {a lo hi : Ex} : ev C r (.slb a lo hi) = (ev C r a).bind fun x => (ev C r lo).bind fun y => opt (datR y) fun y => opt (intD y) fun i => (ev C r hi).bind fun z => opt (datR z) fun z => opt (intD z) fun j => opt (datR x) fun x => opt (cutD x (some i) (some j)) ret := rfl
theorem e_rev {a : Ex} : ev C r (.rev a) = (ev C r a).bind fun x => opt (datR x) fun x => opt (revD x) ret := rfl
theorem e_call {f : Nat} {es : List Ex} : ev C r (.call f es) = (evs C r es).bind fun xs => (C.ck f xs).bind fun v => .ok (false, v) := rfl
theorem e_fn1 {f : F1} {a : Ex} : ev C r (.fn1 f a) = (ev C r a).bind fun x => opt (fn1D f x.2) ret := rfl
theorem e_fn2 {f : F2} {a b : Ex} : ev C r (.fn2 f a b) = (ev C r a).bind fun x => (ev C r b).bind fun y => opt (datR x) fun x => opt (datR y) fun y => opt (fn2D f x y) ret := rfl
theorem e_mt {m : Mt} {a b : Ex} : ev C r (.mt m a b) = (ev C r a).bind fun x => opt (grdO (mtRecv m x.2) (some ())) fun _ => (ev C r b).bind fun y => opt (datR y) fun y => opt (mtD m x.2 y) ret := rfl
theorem e_isi {a : Ex} {t : Ty} : ev C r (.isi a t) = (ev C r a).bind fun x => opt (isiD C.sub x.2 t) retB := rfl
theorem e_dc0 : ev C r .dc0 = .ok (false, .dT []) := rfl
theorem e_dc1 {k v : Ex} : ev C r (.dc1 k v) = (ev C r k).bind fun k => (ev C r v).bind fun v => opt (dat k) fun k => opt (dat v) fun v => opt (dicD k v) fun z => .ok (false, z) := rfl
theorem e_fld {a : Ex} : ev C r (.fld a) = (ev C r a).bind fun x => opt (fldD x.2) ret := rfl
theorem e_fst {es : List Ex} : ev C r (.fst es) = (evf C r es ⟨#[]⟩).bind fun x => ret (.str x) := rfl
theorem ef_nil {acc : Str} : evf C r [] acc = .ok acc := rfl
theorem ef_cons {e : Ex} {es : List Ex} {acc : Str} : evf C r (e :: es) acc = (ev C r e).bind fun x => opt (dat x) fun d => opt (fmtD acc d) fun z => evf C r es z := rfl
theorem es_nil : evs C r [] = .ok [] := rfl
theorem es_cons {e : Ex} {es : List Ex} : evs C r (e :: es) = (ev C r e).bind fun x => opt (dat x) fun d => (evs C r es).bind fun ds => .ok (d :: ds) := rfl
theorem t_and {a b : Ex} : evT C r (.and a b) = (evT C r a).bind fun k => cond k (evT C r b) (.ok false) := by
  show ((ev C r a).bind _).bind _ = ((ev C r a).bind _).bind _
  cases ev C r a with
  | ok x =>
    show (opt (truthy x.2) _).bind _ = (opt (truthy x.2) _).bind _
    cases h : truthy x.2 with
    | none => rfl
    | some k =>
      cases k with
      | true => rfl
      | false => show opt (truthy x.2) _ = _; rw [h]; rfl
  | exc c p => rfl
  | bad => rfl
theorem t_or {a b : Ex} : evT C r (.or a b) = (evT C r a).bind fun k => cond k (.ok true) (evT C r b) := by
  show ((ev C r a).bind _).bind _ = ((ev C r a).bind _).bind _
  cases ev C r a with
  | ok x =>
    show (opt (truthy x.2) _).bind _ = (opt (truthy x.2) _).bind _
    cases h : truthy x.2 with
    | none => rfl
    | some k =>
      cases k with
      | false => rfl
      | true => show opt (truthy x.2) _ = _; rw [h]; rfl
  | exc c p => rfl
  | bad => rfl
theorem t_con {d : D} : evT C r (.con d) = (ev C r (.con d)).bind fun x => opt (truthy x.2) .ok := rfl
theorem t_glo {g : Nat} : evT C r (.glo g) = (ev C r (.glo g)).bind fun x => opt (truthy x.2) .ok := rfl
theorem t_var {i : Nat} : evT C r (.var i) = (ev C r (.var i)).bind fun x => opt (truthy x.2) .ok := rfl
theorem t_cmp {o : COp} {a b : Ex} : evT C r (.cmp o a b) = (ev C r (.cmp o a b)).bind fun x => opt (truthy x.2) .ok := rfl
theorem t_chn {o p : COp} {a b c : Ex} : evT C r (.chn o p a b c) = (ev C r (.chn o p a b c)).bind fun x => opt (truthy x.2) .ok := rfl
theorem t_isn {p : Bool} {a : Ex} : evT C r (.isn p a) = (ev C r (.isn p a)).bind fun x => opt (truthy x.2) .ok := rfl
theorem t_isi {a : Ex} {t : Ty} : evT C r (.isi a t) = (ev C r (.isi a t)).bind fun x => opt (truthy x.2) .ok := rfl
theorem t_call {f : Nat} {es : List Ex} : evT C r (.call f es) = (ev C r (.call f es)).bind fun x => opt (truthy x.2) .ok := rfl
theorem t_idx {a i : Ex} : evT C r (.idx a i) = (ev C r (.idx a i)).bind fun x => opt (truthy x.2) .ok := rfl
theorem t_def {e : Ex} : evT C r e = (ev C r e).bind fun x => opt (truthy x.2) .ok := rfl
theorem t_not {a : Ex} : evT C r (.not a) = (evT C r a).bind fun k => .ok (!k) := by
  rw [t_def, e_not]
  cases evT C r a <;> rfl
/-! conds -/
theorem c_t {p q : Bool} : cond p (Res.ok q) (Res.ok false) = Res.ok (p && q) := by cases p <;> rfl
theorem c_o {p q : Bool} : cond p (Res.ok true) (Res.ok q) = Res.ok (p || q) := by cases p <;> rfl
theorem c_ok {α : Type} {p : Bool} {a b : α} : cond p (Res.ok a) (Res.ok b) = Res.ok (cond p a b) := by cases p <;> rfl
theorem c_rt {p : Bool} {a b : Vl} : cond p (SR.rt a) (SR.rt b) = SR.rt (cond p a b) := by cases p <;> rfl
theorem c_seq {p : Bool} {a b : SR} {f : Env → SR} : (cond p a b).seq f = cond p (a.seq f) (b.seq f) := by cases p <;> rfl
theorem c_out {p : Bool} {a b : SR} : outcome (cond p a b) = cond p (outcome a) (outcome b) := by cases p <;> rfl
theorem c_bind {α β : Type} {p : Bool} {a b : Res α} {f : α → Res β} : (cond p a b).bind f = cond p (a.bind f) (b.bind f) := by cases p <;> rfl
theorem c_of {α : Type} {ρ : Env} {p : Bool} {a b : Res α} {f : α → SR} : SR.of ρ (cond p a b) f = cond p (SR.of ρ a f) (SR.of ρ b f) := by cases p <;> rfl
theorem c_dat {p : Bool} {a b : D} : cond p (Vl.dat a) (Vl.dat b) = Vl.dat (cond p a b) := by cases p <;> rfl
theorem c_bool {p a b : Bool} : cond p (PyData.bool a) (PyData.bool b) = PyData.bool (cond p a b) := by cases p <;> rfl
end eqs
def lstOf : D → Option (List D)
  | .list xs => some xs
  | _ => none
def ownX : Option (Option Sl) → Option (List D)
  | some (some (.own (.dat d))) => lstOf d
  | _ => none
theorem ownL_x {r : Env} {i : Nat} : ownL r i = ownX r[i]? := by
  unfold ownL ownX lstOf
  rcases r[i]? with _ | _ | (v | v)
  · rfl
  · rfl
  · rfl
  · rcases v with d | _ | _ | _
    · cases d <;> rfl
    · rfl
    · rfl
    · rfl
def tD {α : Type} (f : α → D) (xs : List α) : D := .tuple (xs.map f)
def liD {α : Type} (f : α → D) (xs : List α) : D := .list (xs.map f)
def pD {α β : Type} (f : α → D) (g : β → D) (p : α × β) : D := .tuple [f p.1, g p.2]
theorem lstOf_liD {α : Type} {f : α → D} {xs : List α} : lstOf (liD f xs) = some (xs.map f) := rfl
theorem lstOf_list {xs : List D} : lstOf (.list xs) = some xs := rfl
/-! by constructors -/
section con
variable {α β : Type} {ρ : Env} {x : α} {f : α → Res β} {g : α → SR} {h : Env → SR} {c : Nat} {p : Option D} {d : D} {v : Vl} {b : Bool}
theorem b_ok : (Res.ok x).bind f = f x := rfl
theorem b_exc : (Res.exc c p).bind f = .exc c p := rfl
theorem o_some : opt (some x) f = f x := rfl
theorem f_ok : SR.of ρ (.ok x) g = g x := rfl
theorem f_exc : SR.of ρ (.exc c p) g = .ex c p ρ := rfl
theorem p_some : SR.opt (some x) g = g x := rfl
theorem s_nx : (SR.nx ρ).seq h = h ρ := rfl
theorem s_rt : (SR.rt v).seq h = .rt v := rfl
theorem s_ex : (SR.ex c p ρ).seq h = .ex c p ρ := rfl
theorem u_nx : outcome (.nx ρ) = .ok (.dat .none) := rfl
theorem u_rt : outcome (.rt v) = .ok v := rfl
theorem u_ex : outcome (.ex c p ρ) = .exc c p := rfl
theorem dat_ok : dat (false, .dat d) = some d := rfl
theorem datR_ok : datR (b, .dat d) = some d := rfl
theorem frozen_ok : frozen (false, v) = some v := rfl
theorem g_t {α : Type} {x : Option α} : grdO true x = x := rfl
theorem tr_none : truthy (.dat .none) = some false := rfl
theorem tr_bool : truthy (.dat (.bool b)) = some b := rfl
theorem tr_int {i : Int} : truthy (.dat (.int i)) = some (i != 0) := rfl
theorem tr_nil : truthy (.dat (.list [])) = some false := rfl
theorem tr_cons {xs : List D} : truthy (.dat (.list (d :: xs))) = some true := rfl
theorem tr_tnil : truthy (.dat (.tuple [])) = some false := rfl
theorem tr_liD {f : α → D} {xs : List α} : truthy (.dat (liD f xs)) = some (!xs.isEmpty) := by cases xs <;> rfl
theorem tr_tD {f : α → D} {xs : List α} : truthy (.dat (tD f xs)) = some (!xs.isEmpty) := by cases xs <;> rfl
theorem try_ex {C : Cfg} {hs : Hs} : tryE C hs (.ex c p ρ) = hands C ρ c p hs := rfl
theorem try_nx {C : Cfg} {hs : Hs} : tryE C hs (.nx ρ) = .nx ρ := rfl
theorem try_rt {C : Cfg} {hs : Hs} : tryE C hs (.rt v) = .rt v := rfl
theorem off_nx {i : Nat} : offE i (.nx ρ) = .nx (ρ.set i none) := rfl
theorem off_rt {i : Nat} : offE i (.rt v) = .rt v := rfl
theorem off_ex {i : Nat} : offE i (.ex c p ρ) = .ex c p ρ := rfl
def ownV : Option (Option Sl) → Option Vl
  | some (some (.own v)) => some v
  | _ => none
theorem ownAt_x {i : Nat} : ownAt ρ i = ownV ρ[i]? := rfl
theorem ownV_o : ownV (some (some (.own v))) = some v := rfl
def valX : Option (Option Sl) → Option Int
  | some (some (.val (.dat (.int a)))) => some a
  | _ => none
theorem valI_x {i : Nat} : valI ρ i = valX ρ[i]? := rfl
theorem valX_i {i : Int} : valX (some (some (.val (.dat (.int i))))) = some i := rfl
theorem ownX_d : ownX (some (some (.own (.dat d)))) = lstOf d := rfl
/-! frz -/
def frzX (ρ : Env) (i : Nat) : Option (Option Sl) → Env
  | some (some (.own v)) => ρ.set i (some (.val v))
  | _ => ρ
theorem frz1_x {i : Nat} : frz1 ρ i = frzX ρ i ρ[i]? := rfl
theorem frzX_o {i : Nat} : frzX ρ i (some (some (.own v))) = ρ.set i (some (.val v)) := rfl
theorem frzX_v {i : Nat} : frzX ρ i (some (some (.val v))) = ρ := rfl
theorem frzX_n {i : Nat} : frzX ρ i (some none) = ρ := rfl
theorem frzA_n : frzAll ρ [] = ρ := rfl
theorem frzA_c {i : Nat} {l : List Nat} : frzAll ρ (i :: l) = frzAll (frz1 ρ i) l := rfl
/-! kinds of data -/
def isTup : D → Bool
  | .tuple _ => true
  | _ => false
def isLst : D → Bool
  | .list _ => true
  | _ => false
def isInt : D → Bool
  | .int _ => true
  | .bool _ => true
  | _ => false
def isBoo : D → Bool
  | .bool _ => true
  | _ => false
def isStr : D → Bool
  | .str _ => true
  | _ => false
variable {s : Nat → Nat → Bool} {xs : List D} {fe : α → D} {ys : List α} {ge : β → D} {q : α × β}
theorem i_tup : isiD s (.dat d) .tuple = some (isTup d) := by cases d <;> rfl
theorem i_lst : isiD s (.dat d) .list = some (isLst d) := by cases d <;> rfl
theorem i_int : isiD s (.dat d) .int = some (isInt d) := by cases d <;> rfl
theorem i_boo : isiD s (.dat d) .bool = some (isBoo d) := by cases d <;> rfl
theorem i_str : isiD s (.dat d) .str = some (isStr d) := by cases d <;> rfl
theorem i_cls {k : Nat} {pl : Option D} : isiD s (.exn c pl) (.cls k) = some (s c k) := rfl
theorem k1 : isTup (.tuple xs) = true := rfl
theorem k2 : isTup (tD fe ys) = true := rfl
theorem k3 : isTup (pD fe ge q) = true := rfl
theorem k4 : isTup (.list xs) = false := rfl
theorem k5 : isTup (liD fe ys) = false := rfl
theorem k6 : isTup .none = false := rfl
theorem k7 {i : Int} : isTup (.int i) = false := rfl
theorem k8 : isTup (.bool b) = false := rfl
theorem k9 {z : Str} : isTup (.str z) = false := rfl
theorem l1 : isLst (.tuple xs) = false := rfl
theorem l2 : isLst (tD fe ys) = false := rfl
theorem l3 : isLst (pD fe ge q) = false := rfl
theorem l4 : isLst (.list xs) = true := rfl
theorem l5 : isLst (liD fe ys) = true := rfl
theorem l6 : isLst .none = false := rfl
theorem l7 {i : Int} : isLst (.int i) = false := rfl
theorem isN1 : isNoneD .none = true := rfl
theorem isN2 : isNoneD (tD fe ys) = false := rfl
theorem isN3 : isNoneD (pD fe ge q) = false := rfl
theorem isN4 : isNoneD (liD fe ys) = false := rfl
theorem isN5 {i : Int} : isNoneD (.int i) = false := rfl
theorem isN6 : isNoneD (.tuple xs) = false := rfl
theorem isN7 : isNoneD (.list xs) = false := rfl
theorem mr1 : mtRecv .index (.dat (tD fe ys)) = true := rfl
theorem mr2 : mtRecv .index (.dat (liD fe ys)) = true := rfl
theorem mr3 : mtRecv .count (.dat (liD fe ys)) = true := rfl
theorem intD_i {i : Int} : intD (.int i) = some i := rfl
theorem unp_p {ρ : Env} {l : List Tg} : unpD ρ (pD fe ge q) l = bindTgs ρ [fe q.1, ge q.2] l := rfl
theorem unp_t {ρ : Env} {l : List Tg} : unpD ρ (.tuple xs) l = bindTgs ρ xs l := rfl
theorem unp_l {ρ : Env} {l : List Tg} : unpD ρ (.list xs) l = bindTgs ρ xs l := rfl
theorem bd_one {ρ : Env} {i : Nat} : bindTg ρ d (.one i) = some (ρ.set i (some (.val (.dat d)))) := by rw [bindTg]
theorem bd_p {ρ : Env} {l : List Tg} : bindTg ρ (pD fe ge q) (.many l) = bindTgs ρ [fe q.1, ge q.2] l := by unfold pD; rw [bindTg]
theorem bd_t {ρ : Env} {l : List Tg} : bindTg ρ (.tuple xs) (.many l) = bindTgs ρ xs l := by rw [bindTg]
theorem bds_n {ρ : Env} : bindTgs ρ [] [] = some ρ := by rw [bindTgs]
theorem bds_c {ρ : Env} {t : Tg} {l : List Tg} : bindTgs ρ (d :: xs) (t :: l) = (bindTg ρ d t).bind fun r => bindTgs r xs l := by rw [bindTgs]
theorem sa_n {ρ : Env} : setAll ρ [] [] = some ρ := rfl
theorem sa_c {ρ : Env} {i : Nat} {l : List Nat} : setAll ρ (i :: l) (d :: xs) = setAll (ρ.set i (some (.val (.dat d)))) l xs := rfl
theorem wi_n {ρ : Env} : wipe ρ [] = ρ := rfl
theorem wi_c {ρ : Env} {i : Nat} {l : List Nat} : wipe ρ (i :: l) = (wipe ρ l).set i none := rfl
end con
end RL
/-! RLE: typed data in the evaluator, loops over typed data. -/
namespace RL
open PySem
def Shp (k : Nat) (d : D) : Prop := d.canLay0 = true ∧ d.depth ≤ k
theorem shp_all {k : Nat} : ∀ {ds : List D}, (∀ d ∈ ds, Shp k d) → PyData.canLayAll0 ds = true ∧ PyData.depthAll ds ≤ k
  | [], _ => ⟨rfl, Nat.zero_le _⟩
  | d :: ds, h => by
    obtain ⟨h1, h2⟩ := h d List.mem_cons_self
    obtain ⟨h3, h4⟩ := shp_all fun d' hd => h d' (List.mem_cons_of_mem _ hd)
    exact ⟨by show (d.canLay0 && PyData.canLayAll0 ds) = true; rw [h1, h3]; rfl, Nat.max_le.mpr ⟨h2, h4⟩⟩
theorem Shp.lst {k : Nat} {ds : List D} (h : ∀ d ∈ ds, Shp k d) : Shp (k + 1) (.list ds) := ⟨(shp_all h).1, Nat.succ_le_succ (shp_all h).2⟩
theorem Shp.tup {k : Nat} {ds : List D} (h : ∀ d ∈ ds, Shp k d) : Shp (k + 1) (.tuple ds) := ⟨(shp_all h).1, Nat.succ_le_succ (shp_all h).2⟩
theorem Shp.le {k m : Nat} {d : D} (h : Shp k d) (hk : k ≤ m) : Shp m d := ⟨h.1, Nat.le_trans h.2 hk⟩
theorem Shp.ok {k : Nat} {d : D} (h : Shp k d) (hk : k ≤ 64) : SeqAt.shaped d = true := by
  unfold SeqAt.shaped
  rw [h.1, decide_eq_true (Nat.le_trans h.2 hk)]
  rfl
abbrev iD (n : Nat) : D := .int (n : Int)
def pm (a : Fin 6) : D := perm6.getD a .none
abbrev dD (l : List Int) : D := liD .int l
class Enc {α : Type} (f : α → D) (d : outParam Nat) : Prop where
  shp : ∀ a, Shp d (f a)
  inj : ∀ a b, PyData.eqv (f a) (f b) = true ↔ a = b
instance : Enc iD 0 := ⟨fun _ => ⟨rfl, Nat.zero_le _⟩, fun a b => by
  show ((a : Int) == (b : Int)) = true ↔ _
  rw [beq_iff_eq]; omega⟩
instance : Enc PyData.int 0 := ⟨fun _ => ⟨rfl, Nat.zero_le _⟩, fun a b => by
  show (a == b) = true ↔ _
  rw [beq_iff_eq]⟩
instance : Enc PyData.bool 0 := ⟨fun _ => ⟨rfl, Nat.zero_le _⟩, fun a b => by cases a <;> cases b <;> decide⟩
instance : Enc pm 1 := ⟨by
    intro a
    rcases a with ⟨_ | _ | _ | _ | _ | _ | a, ha⟩
    all_goals first | omega | exact ⟨rfl, Nat.le_refl _⟩, by decide +kernel⟩
theorem eqv_all {α : Type} {f : α → D} {d : Nat} [Enc f d] : ∀ xs ys : List α, PyData.eqvAll (xs.map f) (ys.map f) = true ↔ xs = ys
  | [], [] => by simp [PyData.eqvAll]
  | [], _ :: _ => by simp [PyData.eqvAll]
  | _ :: _, [] => by simp [PyData.eqvAll]
  | x :: xs, y :: ys => by
    show (PyData.eqv (f x) (f y) && PyData.eqvAll (xs.map f) (ys.map f)) = true ↔ _
    rw [Bool.and_eq_true, Enc.inj, eqv_all xs ys]
    simp
instance {α : Type} {f : α → D} {d : Nat} [Enc f d] : Enc (tD f) (d + 1) := ⟨fun xs => Shp.tup fun x hx => by
    obtain ⟨a, _, rfl⟩ := List.mem_map.mp hx
    exact Enc.shp (f := f) a, fun xs ys => eqv_all (f := f) xs ys⟩
instance {α : Type} {f : α → D} {d : Nat} [Enc f d] : Enc (liD f) (d + 1) := ⟨fun xs => Shp.lst fun x hx => by
    obtain ⟨a, _, rfl⟩ := List.mem_map.mp hx
    exact Enc.shp (f := f) a, fun xs ys => eqv_all (f := f) xs ys⟩
instance {α β : Type} {f : α → D} {g : β → D} {d e : Nat} [Enc f d] [Enc g e] : Enc (pD f g) (d + e + 1) := ⟨fun p => Shp.tup fun x hx => by
    rcases List.mem_cons.mp hx with z | z
    · subst z; exact (Enc.shp (f := f) p.1).le (Nat.le_add_right _ _)
    · have : x = g p.2 := by simpa using z
      subst this; exact (Enc.shp (f := g) p.2).le (Nat.le_add_left _ _), fun p q => by
    show (PyData.eqv (f p.1) (f q.1) && (PyData.eqv (g p.2) (g q.2) && true)) = true ↔ _
    rw [Bool.and_true, Bool.and_eq_true, Enc.inj (f := f), Enc.inj (f := g)]
    obtain ⟨a, b⟩ := p
    obtain ⟨c, d⟩ := q
    simp⟩
section
variable {α : Type} {f : α → D} {d : Nat} [ie : Enc f d] [DecidableEq α]
include ie
theorem Enc.dec (a b : α) : PyData.eqv (f a) (f b) = decide (a = b) := by
  by_cases h : a = b
  · rw [decide_eq_true h]; exact (Enc.inj (f := f) a b).mpr h
  · rw [decide_eq_false h]
    cases q : PyData.eqv (f a) (f b) with
    | false => rfl
    | true => exact absurd ((Enc.inj (f := f) a b).mp q) h
omit [DecidableEq α] in
theorem eqD_enc {a b : α} [Decidable (a = b)] (hd : d ≤ 64) : eqD (f a) (f b) = some (decide (a = b)) := by
  unfold eqD
  rw [(Enc.shp (f := f) a).ok hd, (Enc.shp (f := f) b).ok hd]
  show some (PyData.eqv (f a) (f b)) = _
  congr 1
  rw [Bool.eq_iff_iff, Enc.inj (f := f), decide_eq_true_eq]
theorem any_enc (a : α) (xs : List α) : ((xs.map f).any fun z => PyData.eqv z (f a)) = decide (a ∈ xs) := by
  induction xs with
  | nil => simp
  | cons b xs ih =>
    rw [List.map_cons, List.any_cons, ih, Enc.dec]
    by_cases h : b = a
    · subst h; simp
    · have h' : a ≠ b := fun z => h z.symm
      simp [h, h']
theorem in_tD {a : α} {xs : List α} [Decidable (a ∈ xs)] (hd : d ≤ 63) : inD (f a) (tD f xs) = some (decide (a ∈ xs)) := by
  show grdO (SeqAt.shaped (f a) && SeqAt.shaped (tD f xs)) _ = _
  rw [(Enc.shp (f := f) a).ok (by omega), (Enc.shp (f := tD f) xs).ok (by omega), any_enc]
  show some _ = some _
  congr 1
  exact decide_eq_decide.mpr Iff.rfl
theorem in_liD {a : α} {xs : List α} [Decidable (a ∈ xs)] (hd : d ≤ 63) : inD (f a) (liD f xs) = some (decide (a ∈ xs)) := by
  show grdO (SeqAt.shaped (f a) && SeqAt.shaped (liD f xs)) _ = _
  rw [(Enc.shp (f := f) a).ok (by omega), (Enc.shp (f := liD f) xs).ok (by omega), any_enc]
  show some _ = some _
  congr 1
  exact decide_eq_decide.mpr Iff.rfl
theorem findIx_enc [BEq α] [LawfulBEq α] (a : α) : ∀ (xs : List α) (m : Nat), a ∈ xs → findIx (fun z => PyData.eqv z (f a)) (xs.map f) m = some (m + xs.idxOf a)
  | [], _, h => by cases h
  | b :: xs, m, h => by
    show (if PyData.eqv (f b) (f a) = true then some m else findIx _ (xs.map f) (m + 1)) = _
    rw [Enc.dec]
    by_cases q : b = a
    · subst q; simp
    · have hm : a ∈ xs := by
        rcases List.mem_cons.mp h with z | z
        · exact absurd z.symm q
        · exact z
      have hx : (b :: xs).idxOf a = xs.idxOf a + 1 := by
        have hb : (b == a) = false := by simpa using q
        rw [List.idxOf_cons, hb]; rfl
      rw [if_neg (by simpa using q), findIx_enc a xs (m + 1) hm, hx]
      congr 1
      omega
theorem index_tD [BEq α] [LawfulBEq α] {a : α} {xs : List α} (h : a ∈ xs) (hd : d ≤ 63) : mtD .index (.dat (tD f xs)) (f a) = some (.int ((xs.idxOf a : Nat) : Int)) := by
  show grdO (SeqAt.shaped (tD f xs) && SeqAt.shaped (f a)) ((findIx (fun z => PyData.eqv z (f a)) (xs.map f) 0).bind _) = _
  rw [(Enc.shp (f := f) a).ok (by omega), (Enc.shp (f := tD f) xs).ok (by omega), findIx_enc a xs 0 h]
  simp [grdO, rI]
end
section
variable {α : Type} {f : α → D} {xs ys : List α}
theorem sz_le {n : Nat} (h : n ≤ 16000000) : szOk n = true := by
  unfold szOk
  have : 16000000 ≤ sizeLine := by decide
  exact decide_eq_true (by omega)
theorem len_tD : fn1D .len (.dat (tD f xs)) = some (.int (xs.length : Int)) := by simp [fn1D, tD, rI]
theorem len_liD : fn1D .len (.dat (liD f xs)) = some (.int (xs.length : Int)) := by simp [fn1D, liD, rI]
theorem tup_liD : fn1D .tuple (.dat (liD f xs)) = some (tD f xs) := rfl
theorem tup_tD : fn1D .tuple (.dat (tD f xs)) = some (tD f xs) := rfl
theorem lst_liD : fn1D .list (.dat (liD f xs)) = some (liD f xs) := rfl
theorem lst_tD : fn1D .list (.dat (tD f xs)) = some (liD f xs) := rfl
theorem idx_tD (d0 : α) {i : Nat} (h : i < xs.length) : idxD (.dat (tD f xs)) (.int (i : Int)) = some (f (xs.getD i d0)) := by
  show L2.atI (xs.map f) (i : Int) = _
  rw [atI_nat (by simpa using h)]
  simp [List.getD_eq_getElem?_getD, h]
theorem idx_liD (d0 : α) {i : Nat} (h : i < xs.length) : idxD (.dat (liD f xs)) (.int (i : Int)) = some (f (xs.getD i d0)) := by
  show L2.atI (xs.map f) (i : Int) = _
  rw [atI_nat (by simpa using h)]
  simp [List.getD_eq_getElem?_getD, h]
theorem atI_last {β : Type} {ys : List β} (h : ys ≠ []) : L2.atI ys (-1) = some (ys.getLast h) := by
  have hl : 0 < ys.length := List.length_pos_iff.mpr h
  unfold L2.atI L2.ixN
  rw [if_neg (by decide), if_pos (by omega)]
  show ys[((-1 : Int) + (ys.length : Int)).toNat]? = _
  rw [show ((-1 : Int) + (ys.length : Int)).toNat = ys.length - 1 by omega, List.getElem?_eq_getElem (by omega), List.getLast_eq_getElem]
theorem last_tD (d0 : α) (h : xs ≠ []) : idxD (.dat (tD f xs)) (.int (-1)) = some (f (xs.getLastD d0)) := by
  show L2.atI (xs.map f) (-1) = _
  rw [atI_last (by simpa using h), List.getLast_map, List.getLastD_eq_getLast?, List.getLast?_eq_some_getLast h]
  rfl
theorem last_liD (d0 : α) (h : xs ≠ []) : idxD (.dat (liD f xs)) (.int (-1)) = some (f (xs.getLastD d0)) := by
  show L2.atI (xs.map f) (-1) = _
  rw [atI_last (by simpa using h), List.getLast_map, List.getLastD_eq_getLast?, List.getLast?_eq_some_getLast h]
  rfl
theorem items_tD {b : Vl} : itemsOf .items (.dat (tD f xs)) b = some (xs.map f) := rfl
theorem items_liD {b : Vl} : itemsOf .items (.dat (liD f xs)) b = some (xs.map f) := rfl
theorem items_zip {β : Type} {g : β → D} {zs : List β} : itemsOf .zip (.dat (tD f xs)) (.dat (tD g zs)) = some ((xs.zip zs).map (pD f g)) := by
  show some (((xs.map f).zip (zs.map g)).map _) = _
  rw [List.zip_map, List.map_map]
  rfl
theorem items_zipL {β : Type} {g : β → D} {zs : List β} : itemsOf .zip (.dat (liD f xs)) (.dat (liD g zs)) = some ((xs.zip zs).map (pD f g)) := by
  show some (((xs.map f).zip (zs.map g)).map _) = _
  rw [List.zip_map, List.map_map]
  rfl
theorem items_rg {n : Nat} {b : Vl} (h : n ≤ 1000000) : itemsOf .rg1 (.dat (.int (n : Int))) b = some ((List.range n).map iD) := by
  show grdO (rngOk (n : Int)) _ = _
  unfold rngOk
  rw [decide_eq_true (by omega), decide_eq_true (by omega)]
  simp [grdO]
theorem items_rg2 {m n : Nat} (h : n ≤ 1000000) (hm : m ≤ 1000000) : itemsOf .rg2 (.dat (.int (m : Int))) (.dat (.int (n : Int))) = some ((List.range' m (n - m)).map iD) := by
  show grdO (rngOk (m : Int) && rngOk (n : Int)) _ = _
  unfold rngOk
  rw [decide_eq_true (by omega), decide_eq_true (by omega), decide_eq_true (by omega), decide_eq_true (by omega)]
  simp only [grdO, Bool.and_self]
  rw [List.range'_eq_map_range, List.map_map, show ((n : Int) - (m : Int)).toNat = n - m by omega]
  congr 1
theorem rev_tD : revD (tD f xs) = some (tD f xs.reverse) := by simp [revD, tD]
theorem rev_liD : revD (liD f xs) = some (liD f xs.reverse) := by simp [revD, liD]
theorem add_tD (h : xs.length + ys.length ≤ 16000000) : binD .add (tD f xs) (tD f ys) = some (tD f (xs ++ ys)) := by
  show grdO (szOk ((xs.map f).length + (ys.map f).length)) _ = _
  rw [List.length_map, List.length_map, sz_le h]
  simp [grdO, tD]
theorem add_liD (h : xs.length + ys.length ≤ 16000000) : binD .add (liD f xs) (liD f ys) = some (liD f (xs ++ ys)) := by
  show grdO (szOk ((xs.map f).length + (ys.map f).length)) _ = _
  rw [List.length_map, List.length_map, sz_le h]
  simp [grdO, liD]
theorem add1_tD {a : α} (h : xs.length + 1 ≤ 16000000) : binD .add (tD f xs) (.tuple [f a]) = some (tD f (xs ++ [a])) := add_tD (ys := [a]) h
theorem app_liD {a : α} (h : xs.length + 1 ≤ 16000000) : appV (.dat (.list (xs.map f))) (f a) = some (.dat (liD f (xs ++ [a]))) := by
  show grdO (szOk ((xs.map f).length + 1)) _ = _
  rw [List.length_map, sz_le h]
  simp [grdO, liD]
theorem ext_liD (h : xs.length + ys.length ≤ 16000000) : extV (.dat (.list (xs.map f))) (liD f ys) = some (.dat (liD f (xs ++ ys))) := by
  show grdO (szOk ((xs.map f).length + (ys.map f).length)) _ = _
  rw [List.length_map, List.length_map, sz_le h]
  simp [grdO, liD]
/-! slices -/
theorem cut_drop {β : Type} (x : List β) (n : Nat) : cut x (some (n : Int)) none = x.drop n := by
  unfold cut HT.sIx
  simp only [show ¬ ((n : Int) < 0) by omega, if_false, Int.toNat_natCast]
  rw [List.take_of_length_le (by simp)]
  by_cases h : n ≤ x.length
  · rw [Nat.min_eq_left h]
  · rw [Nat.min_eq_right (by omega), List.drop_eq_nil_of_le (by omega), List.drop_eq_nil_of_le (by omega)]
theorem cut_take {β : Type} (x : List β) (n : Nat) : cut x none (some (n : Int)) = x.take n := by
  unfold cut HT.sIx
  simp only [show ¬ ((n : Int) < 0) by omega, if_false, Int.toNat_natCast, List.drop_zero, Nat.sub_zero]
  by_cases h : n ≤ x.length
  · rw [Nat.min_eq_left h]
  · rw [Nat.min_eq_right (by omega), List.take_of_length_le (by omega), List.take_of_length_le (by omega)]
theorem cut_init {β : Type} (x : List β) : cut x none (some (-1)) = x.dropLast := by
  unfold cut HT.sIx
  simp only [show ((-1 : Int) < 0) by omega, if_true, List.drop_zero, Nat.sub_zero]
  rw [show ((-1 : Int) + (x.length : Int)).toNat = x.length - 1 by omega, List.dropLast_eq_take]
theorem cut_last {β : Type} (x : List β) (n : Nat) (hn : 0 < n) : cut x (some (-(n : Int))) none = x.drop (x.length - n) := by
  unfold cut HT.sIx
  simp only [show (-(n : Int) < 0) by omega, if_true]
  rw [show (-(n : Int) + (x.length : Int)).toNat = x.length - n by omega, List.take_of_length_le (by simp)]
theorem drop_tD {n : Nat} : cutD (tD f xs) (some (n : Int)) none = some (tD f (xs.drop n)) := by
  show some (PyData.tuple (cut (xs.map f) _ _)) = _
  rw [cut_drop]; simp [tD]
theorem drop_liD {n : Nat} : cutD (liD f xs) (some (n : Int)) none = some (liD f (xs.drop n)) := by
  show some (PyData.list (cut (xs.map f) _ _)) = _
  rw [cut_drop]; simp [liD]
theorem drop1_tD : cutD (tD f xs) (some 1) none = some (tD f (xs.drop 1)) := drop_tD (n := 1)
theorem drop1_liD : cutD (liD f xs) (some 1) none = some (liD f (xs.drop 1)) := drop_liD (n := 1)
theorem take_tD {n : Nat} : cutD (tD f xs) none (some (n : Int)) = some (tD f (xs.take n)) := by
  show some (PyData.tuple (cut (xs.map f) _ _)) = _
  rw [cut_take]; simp [tD]
theorem take_liD {n : Nat} : cutD (liD f xs) none (some (n : Int)) = some (liD f (xs.take n)) := by
  show some (PyData.list (cut (xs.map f) _ _)) = _
  rw [cut_take]; simp [liD]
theorem init_tD : cutD (tD f xs) none (some (-1)) = some (tD f xs.dropLast) := by
  show some (PyData.tuple (cut (xs.map f) _ _)) = _
  rw [cut_init]; simp [tD]
theorem init_liD : cutD (liD f xs) none (some (-1)) = some (liD f xs.dropLast) := by
  show some (PyData.list (cut (xs.map f) _ _)) = _
  rw [cut_init]; simp [liD]
theorem lasts_tD {n : Nat} (hn : 0 < n) : cutD (tD f xs) (some (-(n : Int))) none = some (tD f (xs.drop (xs.length - n))) := by
  show some (PyData.tuple (cut (xs.map f) _ _)) = _
  rw [cut_last _ _ hn]; simp [tD]
end
theorem fst_pD {α β : Type} {f : α → D} {g : β → D} {p : α × β} : idxD (.dat (pD f g p)) (.int 0) = some (f p.1) := rfl
theorem snd_pD {α β : Type} {f : α → D} {g : β → D} {p : α × β} : idxD (.dat (pD f g p)) (.int 1) = some (g p.2) := rfl
theorem eqD_int {i j : Int} : eqD (.int i) (.int j) = some (i == j) := rfl
theorem sz1 {a : D} : szOk [a].length = true := rfl
theorem sz2 {a b : D} : szOk [a, b].length = true := rfl
theorem sz3 {a b c : D} : szOk [a, b, c].length = true := rfl
theorem sz0 : szOk ([] : List D).length = true := rfl
/-! comprehensions -/
theorem mapC_filter {α : Type} {f : α → D} {b : D → Option Env} {c : Env → Res Bool} {e : Env → Res D} {p : α → Bool} {g : α → D} : ∀ (xs : List α), (∀ a ∈ xs, opt (b (f a)) c = .ok (p a)) → (∀ a ∈ xs, p a = true → opt (b (f a)) e = .ok (g a)) → mapC b c e (xs.map f) = .ok ((xs.filter p).map g)
  | [], _, _ => rfl
  | a :: xs, h1, h2 => by
    have ih := mapC_filter (b := b) (c := c) (e := e) (p := p) (g := g) xs (fun a' hd => h1 a' (List.mem_cons_of_mem _ hd)) (fun a' hd => h2 a' (List.mem_cons_of_mem _ hd))
    have q1 := h1 a List.mem_cons_self
    have q2 := h2 a List.mem_cons_self
    rw [List.map_cons]
    unfold mapC
    cases hb : b (f a) with
    | none => rw [hb] at q1; cases q1
    | some m =>
      rw [hb] at q1 q2
      have q1 : c m = .ok (p a) := q1
      have q2 : p a = true → e m = .ok (g a) := q2
      show (c m).bind _ = _
      rw [q1]
      cases q : p a with
      | true =>
        show (e m).bind _ = _
        rw [q2 q]
        show (mapC b c e (xs.map f)).bind _ = _
        rw [ih, List.filter_cons_of_pos q]
        rfl
      | false =>
        show mapC b c e (xs.map f) = _
        rw [ih, List.filter_cons_of_neg (by rw [q]; simp)]
section
variable {α β : Type} {C : Cfg} {ρ : Env} {own : List Nat} {tg : Tg} {kk : Sk} {a b c elt : Ex} {ra rb : Bool × Vl}
theorem ev_cpiE {xs : List α} {f : α → D} (p : α → Bool) (g : α → β) (h : β → D) (ha : ev C ρ a = .ok ra) (hb : ev C ρ b = .ok rb) (hi : itemsOf kk ra.2 rb.2 = some (xs.map f)) (hl : xs.length ≤ 16000000)
    (h1 : ∀ x ∈ xs, opt (bindTg (wipe ρ own) (f x) tg) (fun m => evT C m c) = .ok (p x)) (h2 : ∀ x ∈ xs, p x = true → opt (bindTg (wipe ρ own) (f x) tg) (fun m => evD C m elt) = .ok (h (g x))) : ev C ρ (.cpi own tg kk a b c elt) = ret (liD h ((xs.filter p).map g)) := by
  show (ev C ρ a).bind _ = _
  rw [ha]
  show (ev C ρ b).bind _ = _
  rw [hb]
  show opt (itemsOf kk ra.2 rb.2) _ = _
  rw [hi]
  have hm := mapC_filter (f := f) (b := fun d => bindTg (wipe ρ own) d tg) (c := fun m => evT C m c) (e := fun m => evD C m elt) (p := p) (g := fun x => h (g x)) xs h1 h2
  have hm' : mapC (fun d => bindTg (wipe ρ own) d tg) (fun m => (ev C m c).bind fun x => opt (truthy x.2) .ok) (fun m => (ev C m elt).bind fun z => opt (dat z) .ok) (xs.map f) = .ok ((xs.filter p).map fun x => h (g x)) := hm
  show (noX (mapC (fun d => bindTg (wipe ρ own) d tg) (fun m => (ev C m c).bind fun x => opt (truthy x.2) .ok) (fun m => (ev C m elt).bind fun z => opt (dat z) .ok) (xs.map f))).bind _ = _
  rw [hm']
  show opt (grdO (szOk (xs.map f).length) _) _ = _
  rw [List.length_map, sz_le hl]
  unfold liD
  rw [List.map_map]
  rfl
theorem ev_cprE {xs : List α} {f : α → D} (g : α → β) (h : β → D) (ha : ev C ρ a = .ok ra) (hb : ev C ρ b = .ok rb) (hi : itemsOf kk ra.2 rb.2 = some (xs.map f)) (hl : xs.length ≤ 16000000)
    (h2 : ∀ x ∈ xs, opt (bindTg (wipe ρ own) (f x) tg) (fun m => evD C m elt) = .ok (h (g x))) : ev C ρ (.cpr own tg kk a b elt) = ret (liD h (xs.map g)) := by
  show (ev C ρ a).bind _ = _
  rw [ha]
  show (ev C ρ b).bind _ = _
  rw [hb]
  show opt (itemsOf kk ra.2 rb.2) _ = _
  rw [hi]
  have hm := mapC_filter (f := f) (b := fun d => bindTg (wipe ρ own) d tg) (c := fun m => .ok true) (e := fun m => evD C m elt) (p := fun _ => true) (g := fun x => h (g x)) xs (fun x hx => by
    have := h2 x hx
    cases hb : bindTg (wipe ρ own) (f x) tg with
    | none => rw [hb] at this; cases this
    | some m => rfl) (fun x hx _ => h2 x hx)
  rw [List.filter_eq_self.mpr (fun _ _ => rfl)] at hm
  have hm' : mapC (fun d => bindTg (wipe ρ own) d tg) (fun _ => .ok true) (fun m => (ev C m elt).bind fun z => opt (dat z) .ok) (xs.map f) = .ok (xs.map fun x => h (g x)) := hm
  show (noX (mapC (fun d => bindTg (wipe ρ own) d tg) (fun _ => .ok true) (fun m => (ev C m elt).bind fun z => opt (dat z) .ok) (xs.map f))).bind _ = _
  rw [hm']
  show opt (grdO (szOk (xs.map f).length) _) _ = _
  rw [List.length_map, sz_le hl]
  unfold liD
  rw [List.map_map]
  rfl
end
/-! loops -/
def stepF (C : Cfg) (t : Tg) (body : List Stm) (r : Env) (d : D) : SR := SR.opt (bindTg r d t) fun r => execs C r body
theorem w_for {C : Cfg} {r : Env} {t : Tg} {kk : Sk} {a b : Ex} {body : List Stm} {va vb : Vl} {its : List D} (ha : ev C r a = .ok (false, va)) (hb : ev C r b = .ok (false, vb)) (hi : itemsOf kk va vb = some its) : exec C r (.for_ t kk a b body) = forL (stepF C t body) its r := by
  show SR.of r (ev C r a) _ = _
  rw [ha]
  show SR.of r (ev C r b) _ = _
  rw [hb]
  show SR.opt (itemsOf kk va vb) _ = _
  rw [hi]; rfl
section
variable {α σ J : Type} {f : α → D} {step : Env → D → SR}
/-- a loop without returns: s the state, j what the slots of the loop hold besides -/
theorem forL_st {xs : List α} (st : σ → J → Env) (g : σ → α → σ) (I : List α → σ → Prop) {s : σ} {j : J} (h0 : I [] s)
    (h : ∀ pre a post s j, xs = pre ++ a :: post → I pre s → I (pre ++ [a]) (g s a) ∧ ∃ j', step (st s j) (f a) = .nx (st (g s a) j')) : I xs (xs.foldl g s) ∧ ∃ j', forL step (xs.map f) (st s j) = .nx (st (xs.foldl g s) j') := by
  have gen : ∀ (post pre : List α) (s : σ) (j : J), xs = pre ++ post → I pre s → I xs (post.foldl g s) ∧ ∃ j', forL step (post.map f) (st s j) = .nx (st (post.foldl g s) j') := by
    intro post
    induction post with
    | nil => intro pre s j e hI; rw [e, List.append_nil]; exact ⟨hI, j, rfl⟩
    | cons a post ih =>
      intro pre s j e hI
      obtain ⟨h1, j1, h2⟩ := h pre a post s j e hI
      obtain ⟨h3, j2, h4⟩ := ih (pre ++ [a]) (g s a) j1 (by rw [e]; simp) h1
      refine ⟨h3, j2, ?_⟩
      show (step (st s j) (f a)).seq _ = _
      rw [h2]; exact h4
  exact gen xs [] s j rfl h0
/-- a loop that may return -/
theorem forL_find {xs : List α} (st : J → Env) (p : α → Option Vl) {j : J}
    (h : ∀ a ∈ xs, ∀ j, match p a with
      | some v => step (st j) (f a) = .rt v
      | none => ∃ j', step (st j) (f a) = .nx (st j')) : match xs.findSome? p with
      | some v => forL step (xs.map f) (st j) = .rt v
      | none => ∃ j', forL step (xs.map f) (st j) = .nx (st j') := by
  induction xs generalizing j with
  | nil => exact ⟨j, rfl⟩
  | cons a xs ih =>
    have ha := h a List.mem_cons_self j
    rw [List.findSome?_cons]
    cases hp : p a with
    | some v =>
      rw [hp] at ha
      show (step (st j) (f a)).seq _ = _
      rw [ha]; rfl
    | none =>
      rw [hp] at ha
      obtain ⟨j1, e1⟩ := ha
      have := ih (j := j1) fun a' h' => h a' (List.mem_cons_of_mem _ h')
      show (match xs.findSome? p with
        | some v => (step (st j) (f a)).seq _ = SR.rt v
        | none => ∃ j', (step (st j) (f a)).seq _ = SR.nx (st j'))
      rw [e1]
      exact this
end
/-! while loops: a state with a measure -/
theorem w_whl {C : Cfg} {r : Env} {c : Ex} {body : List Stm} : exec C r (.whl c body) = whlL (fun r => evT C r c) (fun r => execs C r body) iterMax r := rfl
theorem whlL_st {σ J : Type} {c : Env → Res Bool} {step : Env → SR} (st : σ → J → Env) (p : σ → Bool) (g : σ → σ) (I : σ → Prop) (μ : σ → Nat)
    (hc : ∀ s j, I s → c (st s j) = .ok (p s)) (hs : ∀ s j, I s → p s = true → I (g s) ∧ μ (g s) < μ s ∧ ∃ j', step (st s j) = .nx (st (g s) j')) :
    ∀ (n : Nat) (s : σ) (j : J), I s → μ s < n → ∃ s' j', whlL c step n (st s j) = .nx (st s' j') ∧ I s' ∧ p s' = false
  | 0, s, j, _, h => by omega
  | n + 1, s, j, hI, hn => by
    have h1 := hc s j hI
    show ∃ s' j', (SR.of (st s j) (c (st s j)) _) = _ ∧ _
    rw [h1]
    cases hp : p s with
    | false => exact ⟨s, j, rfl, hI, hp⟩
    | true =>
      obtain ⟨i1, i2, j1, i3⟩ := hs s j hI hp
      obtain ⟨s', j', k1, k2, k3⟩ := whlL_st st p g I μ hc hs n (g s) j1 i1 (by omega)
      refine ⟨s', j', ?_, k2, k3⟩
      show (step (st s j)).seq _ = _
      rw [i3]
      exact k1
end RL
/-! RLN: numbers, permutations, searches (plain). -/
namespace RL
local macro_rules
  | `(tactic| simp_all? [$ts,*]) => `(tactic| simp only [w_nil, w_cons, w_asg, w_newL, w_newD, w_newE, w_newT, w_unp, w_par, w_set, w_aug, w_app, w_ext, w_pop, w_exp, w_ite, w_ret, w_raise, w_raise1, w_frz, w_pass, w_try, w_hcons, w_hnil,
  e_con, e_glo, e_var, e_bin, e_neg, e_cmp, e_chn, e_isn, e_and, e_or, e_not, e_ite, e_tup, e_lst, e_idx, e_slf, e_slt, e_slb, e_rev, e_call, e_fn1, e_fn2, e_mt, e_isi, e_dc0, e_dc1, e_fld, e_fst, ef_nil, ef_cons, es_nil, es_cons, t_and, t_or, t_not, t_con, t_glo, t_var, t_cmp, t_chn, t_isn, t_isi, t_call, t_idx,
  c_t, c_o, c_seq, c_out, c_bind, c_of, c_rt, evF, evD, evR, ret, retB, varR_v, varR_o,
  b_ok, b_exc, o_some, f_ok, f_exc, p_some, s_nx, s_rt, s_ex, u_nx, u_rt, u_ex, dat_ok, datR_ok, frozen_ok, g_t, tr_none, tr_bool, tr_int, tr_nil, tr_cons, tr_tnil, tr_liD, tr_tD, try_ex, try_nx, try_rt, off_nx, off_rt, off_ex, ownAt_x, ownV_o, valI_x, valX_i, ownL_x, ownX_d, lstOf_liD, lstOf_list, frz1_x, frzX_o, frzX_v, frzX_n, frzA_n, frzA_c, i_tup, i_lst, i_int, i_boo, i_str, i_cls, k1, k2, k3, k4, k5, k6, k7, k8, k9, l1, l2, l3, l4, l5, l6, l7, isN1, isN2, isN3, isN4, isN5, isN6, isN7, mr1, mr2, mr3, intD_i, unp_p, unp_t, unp_l, bd_one, bd_p, bd_t, bds_n, bds_c, sa_n, sa_c, wi_n, wi_c,
  rI, rB, CU_ck, CU_gv, CU_sub, List.getElem?_cons_zero, List.getElem?_cons_succ, List.set_cons_zero, List.set_cons_succ, Option.bind_some, Option.bind_none, cond_true, cond_false, Bool.not_true, Bool.not_false, Bool.not_not, Bool.true_and, Bool.and_true, Bool.false_and, Bool.and_false, Bool.true_or, Bool.or_true, Bool.false_or, Bool.or_false, beq_self_eq_true, List.isEmpty_nil, $(⟨ts.elemsAndSeps⟩),*])
open PySem
abbrev eD : Nat × Nat → D := pD iD iD
abbrev gD (n : Nat) (es : List (Nat × Nat)) : D := pD iD (tD eD) (n, es)
abbrev lD : List (Fin 6) → D := tD pm
abbrev wD : List Nat → D := tD iD
def inR : D → Int → Int → Bool
  | .int v, lo, hi => decide (lo ≤ v) && decide (v ≤ hi)
  | _, _, _ => false
theorem in_range_ok (n : Nat) (d : D) (lo hi : Int) : callN U (n + 1) 1 [d, .int lo, .int hi] = .ok (.dat (.bool (inR d lo hi))) := by
  rw [call_in_range]
  cases d with
  | int v => 
    simp_all? [f_in_range, cmpD, ordV, ordI, inR, isInt, isBoo]
    cases decide (lo ≤ v) <;> rfl
  | _ => simp_all? [f_in_range, cmpD, ordV, ordI, inR, isInt, isBoo]
/-! permutations by number -/
def pcomp (a b : Fin 6) : Fin 6 := ([[0, 1, 2, 3, 4, 5], [1, 0, 3, 2, 5, 4], [2, 4, 0, 5, 1, 3], [3, 5, 1, 4, 0, 2], [4, 2, 5, 0, 3, 1], [5, 3, 4, 1, 2, 0]].getD a []).getD b 0
def pinv (a : Fin 6) : Fin 6 := [0, 1, 2, 4, 3, 5].getD a 0
theorem after_ok (n : Nat) : ∀ a b : Fin 6, callN U (n + 1) 4 [pm a, pm b] = .ok (.dat (pm (pcomp a b))) := by
  intro a b
  rcases a with ⟨_ | _ | _ | _ | _ | _ | a, ha⟩
  all_goals first | omega | skip
  all_goals (rcases b with ⟨_ | _ | _ | _ | _ | _ | b, hb⟩)
  all_goals first | omega | kernel_rfl
theorem opposite_ok (n : Nat) : ∀ a : Fin 6, callN U (n + 1) 5 [pm a] = .ok (.dat (pm (pinv a))) := by
  intro a
  rcases a with ⟨_ | _ | _ | _ | _ | _ | a, ha⟩
  all_goals first | omega | kernel_rfl
theorem back_ok (k : Nat) : ∀ a : Fin 6, callN U (k + 1) 71 [pm a] = .ok (.dat (pm (pinv a))) := by
  intro a
  rcases a with ⟨_ | _ | _ | _ | _ | _ | a, ha⟩
  all_goals first | omega | kernel_rfl
theorem is_perm_ok (k : Nat) : ∀ a : Fin 6, callN U (k + 2) 2 [pm a] = .ok (.dat (.bool true)) := by
  intro a
  rcases a with ⟨_ | _ | _ | _ | _ | _ | a, ha⟩
  all_goals first | omega | kernel_rfl
theorem six_ok (k : Nat) : callN U (k + 1) 70 [] = .ok (.dat (liD pm [0, 1, 2, 3, 4, 5])) := by kernel_rfl
theorem turned_ok (k : Nat) (a b : Fin 6) : callN U (k + 2) 41 [pm a, pm b] = .ok (.dat (pm (pcomp (pcomp (pinv b) a) b))) := by
  rw [call_turned]
  simp_all? [f_turned, opposite_ok, after_ok]
/-! the group -/
theorem pcomp_assoc : ∀ a b c : Fin 6, pcomp (pcomp a b) c = pcomp a (pcomp b c) := by decide +kernel
theorem pinv_comp : ∀ a b : Fin 6, pinv (pcomp a b) = pcomp (pinv b) (pinv a) := by decide +kernel
theorem pinv_inv : ∀ a : Fin 6, pinv (pinv a) = a := by decide +kernel
theorem p1 : ∀ a : Fin 6, pcomp 0 a = a := by decide +kernel
theorem p2 : ∀ a : Fin 6, pcomp a 0 = a := by decide +kernel
theorem p3 : ∀ a : Fin 6, pcomp a (pinv a) = 0 := by decide +kernel
theorem p4 : ∀ a : Fin 6, pcomp (pinv a) a = 0 := by decide +kernel
theorem p5 : ∀ a b : Fin 6, pcomp a (pcomp (pinv a) b) = b := by decide +kernel
theorem p6 : ∀ a b : Fin 6, pcomp (pinv a) (pcomp a b) = b := by decide +kernel
theorem pinv_zero : pinv 0 = 0 := rfl
/-! _law_then -/
def pthen (l : List (Fin 6)) : Fin 6 := l.foldl pcomp 0
theorem then_step (k : Nat) (s : Option Sl) (x : Option Sl) : ∀ a b : Fin 6, stepF (CU k) (.one 2) b_l_then_0 [s, V (pm a), x] (pm b) = .nx [s, V (pm (pcomp a b)), V (pm b)] := by
  intro a b
  rcases a with ⟨_ | _ | _ | _ | _ | _ | a, ha⟩
  all_goals first | omega | skip
  all_goals (rcases b with ⟨_ | _ | _ | _ | _ | _ | b, hb⟩)
  all_goals first | omega | kernel_rfl
theorem then_ok (k : Nat) (l : List (Fin 6)) : callN U (k + 1) 72 [liD pm l] = .ok (.dat (pm (pthen l))) := by
  rw [call_l_then]
  obtain ⟨_, j', h⟩ := forL_st (f := pm) (step := stepF (CU k) (.one 2) b_l_then_0) (xs := l) (fun (s : Fin 6) (j : Option Sl) => [V (liD pm l), V (pm s), j]) pcomp (fun _ _ => True) (s := 0) (j := none) trivial fun _ a _ s j _ _ => ⟨trivial, _, then_step k _ _ s a⟩
  have h1 : exec (CU k) [V (liD pm l), V (pm 0), none] s_l_then_0 = .nx [V (liD pm l), V (pm (pthen l)), j'] := (w_for (va := .dat (liD pm l)) (vb := .dat .none) rfl rfl items_liD).trans h
  have e0 : (PyData.tuple [.int 0, .int 1, .int 2]) = pm 0 := rfl
  simp_all? [l_then, sz3, e0, h1]
end RL
namespace RL
local macro_rules
  | `(tactic| simp_all? [$ts,*]) => `(tactic| simp only [w_nil, w_cons, w_asg, w_newL, w_newD, w_newE, w_newT, w_unp, w_par, w_set, w_aug, w_app, w_ext, w_pop, w_exp, w_ite, w_ret, w_raise, w_raise1, w_frz, w_pass, w_try, w_hcons, w_hnil,
  e_con, e_glo, e_var, e_bin, e_neg, e_cmp, e_chn, e_isn, e_and, e_or, e_not, e_ite, e_tup, e_lst, e_idx, e_slf, e_slt, e_slb, e_rev, e_call, e_fn1, e_fn2, e_mt, e_isi, e_dc0, e_dc1, e_fld, e_fst, ef_nil, ef_cons, es_nil, es_cons, t_and, t_or, t_not, t_con, t_glo, t_var, t_cmp, t_chn, t_isn, t_isi, t_call, t_idx,
  c_t, c_o, c_seq, c_out, c_bind, c_of, c_rt, evF, evD, evR, ret, retB, varR_v, varR_o,
  b_ok, b_exc, o_some, f_ok, f_exc, p_some, s_nx, s_rt, s_ex, u_nx, u_rt, u_ex, dat_ok, datR_ok, frozen_ok, g_t, tr_none, tr_bool, tr_int, tr_nil, tr_cons, tr_tnil, tr_liD, tr_tD, try_ex, try_nx, try_rt, off_nx, off_rt, off_ex, ownAt_x, ownV_o, valI_x, valX_i, ownL_x, ownX_d, lstOf_liD, lstOf_list, frz1_x, frzX_o, frzX_v, frzX_n, frzA_n, frzA_c, i_tup, i_lst, i_int, i_boo, i_str, i_cls, k1, k2, k3, k4, k5, k6, k7, k8, k9, l1, l2, l3, l4, l5, l6, l7, isN1, isN2, isN3, isN4, isN5, isN6, isN7, mr1, mr2, mr3, intD_i, unp_p, unp_t, unp_l, bd_one, bd_p, bd_t, bds_n, bds_c, sa_n, sa_c, wi_n, wi_c,
  rI, rB, CU_ck, CU_gv, CU_sub, List.getElem?_cons_zero, List.getElem?_cons_succ, List.set_cons_zero, List.set_cons_succ, Option.bind_some, Option.bind_none, cond_true, cond_false, Bool.not_true, Bool.not_false, Bool.not_not, Bool.true_and, Bool.and_true, Bool.false_and, Bool.and_false, Bool.true_or, Bool.or_true, Bool.false_or, Bool.or_false, beq_self_eq_true, List.isEmpty_nil, $(⟨ts.elemsAndSeps⟩),*])
open PySem
/-! ### MB: the breadth-first search -/
abbrev Fnd := List (Nat × List Nat)
def fV (f : Fnd) : List (Int × D) := f.map fun p => ((p.1 : Int), wD p.2)
def keys (f : Fnd) : List Nat := f.map (·.1)
def oth (v : Nat) (e : Nat × Nat) : Nat := e.1 + e.2 - v
def stp (v : Nat) (s : Fnd × List Nat) (e : Nat × Nat) : Fnd × List Nat :=
  if (v = e.1 ∨ v = e.2) ∧ oth v e ∉ keys s.1 then (s.1 ++ [(oth v e, ((s.1.lookup v).getD []) ++ [oth v e])], s.2 ++ [oth v e]) else s
def bfs (es : List (Nat × Nat)) : Nat → Fnd × List Nat → Option Fnd
  | 0, _ => none
  | n + 1, (f, []) => some f
  | n + 1, (f, v :: q) => bfs es n (es.foldl (stp v) (f, q))
structure BI (n : Nat) (f : Fnd) (q : List Nat) : Prop where
  nd : (keys f).Nodup
  lt : ∀ p ∈ f, p.1 < n
  wl : ∀ p ∈ f, p.2.length ≤ f.length
  qk : ∀ v ∈ q, v ∈ keys f
  qn : q.Nodup
theorem nodup_len : ∀ (n : Nat) (l : List Nat), l.Nodup → (∀ x ∈ l, x < n) → l.length ≤ n
  | 0, [], _, _ => Nat.le_refl _
  | 0, x :: l, _, h => absurd (h x List.mem_cons_self) (by omega)
  | n + 1, l, hn, h => by
    have h1 := nodup_len n (l.erase n) (hn.erase n) fun x hx => by
      have h2 := h x (List.mem_of_mem_erase hx)
      have h3 : x ≠ n := fun e => by
        subst e
        exact (List.Nodup.not_mem_erase hn) hx
      omega
    by_cases hm : n ∈ l
    · have := List.length_erase_of_mem hm
      omega
    · rw [List.erase_of_not_mem hm] at h1
      omega
theorem BI.len {n : Nat} {f : Fnd} {q : List Nat} (b : BI n f q) : f.length ≤ n := by
  have := nodup_len n (keys f) b.nd fun x hx => by
    obtain ⟨p, hp, rfl⟩ := List.mem_map.mp hx
    exact b.lt p hp
  simpa [keys] using this
theorem BI.qlen {n : Nat} {f : Fnd} {q : List Nat} (b : BI n f q) : q.length ≤ n :=
  nodup_len n q b.qn fun x hx => by
    obtain ⟨p, hp, rfl⟩ := List.mem_map.mp (b.qk x hx)
    exact b.lt p hp
theorem lookup_mem {f : Fnd} {v : Nat} (h : v ∈ keys f) : ∃ w, f.lookup v = some w ∧ (v, w) ∈ f := by
  induction f with
  | nil => cases h
  | cons p f ih =>
    rw [List.lookup_cons]
    by_cases e : v = p.1
    · subst e
      exact ⟨p.2, by simp, List.mem_cons_self⟩
    · have hb : (v == p.1) = false := by simpa using e
      rw [hb]
      have : v ∈ keys f := by
        rcases List.mem_cons.mp h with z | z
        · exact absurd z e
        · exact z
      obtain ⟨w, h1, h2⟩ := ih this
      exact ⟨w, h1, List.mem_cons_of_mem _ h2⟩
theorem BI.stp {n v : Nat} {f : Fnd} {q : List Nat} {e : Nat × Nat} (b : BI n f q) (hv : v ∈ keys f) (he : e.1 < n ∧ e.2 < n) : BI n (stp v (f, q) e).1 (stp v (f, q) e).2 ∧ v ∈ keys (stp v (f, q) e).1 := by
  unfold RL.stp
  by_cases h : (v = e.1 ∨ v = e.2) ∧ oth v e ∉ keys f
  · rw [if_pos h]
    have ho : oth v e < n := by
      unfold oth
      rcases h.1 with z | z <;> subst z <;> omega
    obtain ⟨w, h1, h2⟩ := lookup_mem hv
    have hw := b.wl _ h2
    refine ⟨⟨?_, ?_, ?_, ?_, ?_⟩, ?_⟩
    · show (keys (f ++ [_])).Nodup
      unfold keys
      rw [List.map_append, List.nodup_append]
      refine ⟨b.nd, by simp, ?_⟩
      intro x hx y hy
      have : y = oth v e := by simpa using hy
      subst this
      intro z
      subst z
      exact h.2 hx
    · intro p hp
      rcases List.mem_append.mp hp with z | z
      · exact b.lt p z
      · have : p = (oth v e, (f.lookup v).getD [] ++ [oth v e]) := by simpa using z
        subst this
        exact ho
    · intro p hp
      have hl : (f ++ [(oth v e, (f.lookup v).getD [] ++ [oth v e])]).length = f.length + 1 := by simp
      show p.2.length ≤ (f ++ [(oth v e, (f.lookup v).getD [] ++ [oth v e])]).length
      rw [hl]
      rcases List.mem_append.mp hp with z | z
      · have := b.wl p z; omega
      · have : p = (oth v e, (f.lookup v).getD [] ++ [oth v e]) := by simpa using z
        subst this
        rw [h1]
        have hw' : w.length ≤ f.length := hw
        simp
        exact hw'
    · intro x hx
      show x ∈ keys (f ++ [_])
      unfold keys
      rw [List.map_append]
      rcases List.mem_append.mp hx with z | z
      · exact List.mem_append_left _ (b.qk x z)
      · exact List.mem_append_right _ (by simpa using z)
    · show (q ++ [oth v e]).Nodup
      rw [List.nodup_append]
      refine ⟨b.qn, by simp, ?_⟩
      intro x hx y hy
      have : y = oth v e := by simpa using hy
      subst this
      intro z
      subst z
      exact h.2 (b.qk _ hx)
    · show v ∈ keys (f ++ [_])
      unfold keys
      rw [List.map_append]
      exact List.mem_append_left _ hv
  · rw [if_neg h]
    exact ⟨b, hv⟩
theorem BI.fold {n v : Nat} : ∀ {es : List (Nat × Nat)} {f : Fnd} {q : List Nat}, BI n f q → v ∈ keys f → (∀ e ∈ es, e.1 < n ∧ e.2 < n) → BI n (es.foldl (RL.stp v) (f, q)).1 (es.foldl (RL.stp v) (f, q)).2
  | [], f, q, b, _, _ => b
  | e :: es, f, q, b, hv, he => by
    obtain ⟨h1, h2⟩ := b.stp hv (he e List.mem_cons_self)
    exact BI.fold (es := es) h1 h2 fun e' h' => he e' (List.mem_cons_of_mem _ h')
theorem lookI_nat (k : Nat) : ∀ f : Fnd, lookI (k : Int) (fV f) = (f.lookup k).map wD
  | [] => rfl
  | p :: f => by
    show (if ((p.1 : Int) = (k : Int)) then some (wD p.2) else lookI (k : Int) (fV f)) = _
    rw [List.lookup_cons]
    by_cases e : k = p.1
    · subst e; simp
    · have hb : (k == p.1) = false := by simpa using e
      rw [hb, if_neg (by omega)]
      exact lookI_nat k f
theorem lookup_none {f : Fnd} {k : Nat} (h : k ∉ keys f) : f.lookup k = none := by
  induction f with
  | nil => rfl
  | cons p f ih =>
    rw [List.lookup_cons]
    have h1 : k ≠ p.1 := fun e => h (by subst e; exact List.mem_cons_self)
    have hb : (k == p.1) = false := by simpa using h1
    rw [hb]
    exact ih fun z => h (List.mem_cons_of_mem _ z)
theorem putI_new {f : Fnd} {k : Nat} {d : D} (h : k ∉ keys f) : putI (k : Int) d (fV f) = fV f ++ [((k : Int), d)] := by
  unfold putI
  rw [if_neg]
  intro z
  obtain ⟨p, hp, e⟩ := List.any_eq_true.mp z
  obtain ⟨q, hq, rfl⟩ := List.mem_map.mp hp
  have : (q.1 : Int) = (k : Int) := of_decide_eq_true e
  exact h (List.mem_map.mpr ⟨q, hq, by omega⟩)
theorem fV_len (f : Fnd) : (fV f).length = f.length := by simp [fV]
theorem stp_len (v : Nat) (s : Fnd × List Nat) (e : Nat × Nat) : (stp v s e).2.length + s.1.length = s.2.length + (stp v s e).1.length ∧ s.1.length ≤ (stp v s e).1.length := by
  unfold stp
  split
  · simp; omega
  · exact ⟨rfl, Nat.le_refl _⟩
theorem fold_len (v : Nat) : ∀ (es : List (Nat × Nat)) (s : Fnd × List Nat), (es.foldl (stp v) s).2.length + s.1.length = s.2.length + (es.foldl (stp v) s).1.length ∧ s.1.length ≤ (es.foldl (stp v) s).1.length
  | [], s => ⟨rfl, Nat.le_refl _⟩
  | e :: es, s => by
    have h1 := stp_len v s e
    have h2 := fold_len v es (stp v s e)
    rw [List.foldl_cons]
    omega
theorem BI.pop {n v : Nat} {f : Fnd} {q : List Nat} (b : BI n f (v :: q)) : BI n f q ∧ v ∈ keys f :=
  ⟨⟨b.nd, b.lt, b.wl, fun x hx => b.qk x (List.mem_cons_of_mem _ hx), (List.nodup_cons.mp b.qn).2⟩, b.qk v List.mem_cons_self⟩
theorem bfs_ends {n : Nat} {es : List (Nat × Nat)} (he : ∀ e ∈ es, e.1 < n ∧ e.2 < n) : ∀ (m : Nat) (f : Fnd) (q : List Nat), BI n f q → q.length + (n - f.length) < m → ∃ f', bfs es m (f, q) = some f'
  | 0, _, _, _, h => absurd h (by omega)
  | m + 1, f, [], _, _ => ⟨f, rfl⟩
  | m + 1, f, v :: q, b, h => by
    obtain ⟨b1, hv⟩ := b.pop
    have b2 := BI.fold (es := es) b1 hv he
    have l := fold_len v es (f, q)
    have l2 := b2.len
    exact bfs_ends he m _ _ b2 (by simp only [List.length_cons] at h; simp only at l; omega)

def bEnv (G : D) (f : Fnd) (q : List Nat) (x y z : Option Sl) : Env := [V G, some (.own (.dI (fV f))), O (liD iD q), x, y, z]
theorem in_pair (v a b : Int) : inD (.int v) (.tuple [.int a, .int b]) = some (a == v || b == v) := by
  have h1 : SeqAt.shaped (.int v) = true := rfl
  have h2 : SeqAt.shaped (.tuple [.int a, .int b]) = true := rfl
  show grdO (SeqAt.shaped (.int v) && SeqAt.shaped (.tuple [.int a, .int b])) _ = _
  rw [h1, h2]
  simp [grdO, PyData.eqv]
theorem inE (v : Nat) (e : Nat × Nat) : inD (.int (v : Int)) (eD e) = some (decide (v = e.1 ∨ v = e.2)) := by
  show inD (.int (v : Int)) (.tuple [.int (e.1 : Int), .int (e.2 : Int)]) = _
  rw [in_pair]
  congr 1
  rw [Bool.eq_iff_iff]
  simp
  omega
theorem own_liD {f : Nat → D} {q : List Nat} {r : Env} {i : Nat} (h : r[i]? = some (O (liD f q))) : ownL r i = some (q.map f) := by
  unfold ownL; rw [h]; rfl
theorem sum_eD (e : Nat × Nat) : fn1D .sum (.dat (eD e)) = some (.int ((e.1 : Int) + (e.2 : Int))) := by
  show some (PyData.int ((e.1 : Int) + ((e.2 : Int) + 0))) = _
  simp
theorem b_step {C : Cfg} {G : D} {n v : Nat} {f : Fnd} {q : List Nat} {y z : Option Sl} (e : Nat × Nat) (b : BI n f q) (hn : n ≤ 100) (hv : v ∈ keys f) :
    ∃ y' z', stepF C (.one 4) b_tree_of_1 (bEnv G f q (V (iD v)) y z) (eD e) = .nx (bEnv G (stp v (f, q) e).1 (stp v (f, q) e).2 (V (iD v)) y' z') := by
  have hl := b.len
  have hq := b.qlen
  obtain ⟨w, h1, h2⟩ := lookup_mem hv
  have hw : w.length ≤ f.length := b.wl _ h2
  by_cases hc : v = e.1 ∨ v = e.2
  · have ho : (e.1 : Int) + (e.2 : Int) - (v : Int) = ((oth v e : Nat) : Int) := by
      unfold oth
      rcases hc with z | z <;> subst z <;> omega
    have i1 : inD (.int (v : Int)) (eD e) = some true := by rw [inE, decide_eq_true hc]
    by_cases hk : oth v e ∈ keys f
    · have e1 : stp v (f, q) e = (f, q) := by
        unfold stp; rw [if_neg]; intro z; exact z.2 hk
      obtain ⟨w', h3, _⟩ := lookup_mem hk
      have lk : lookI ((oth v e : Nat) : Int) (fV f) = some (wD w') := by rw [lookI_nat, h3]; rfl
      refine ⟨V (eD e), V (iD (oth v e)), ?_⟩
      rw [e1]
      unfold stepF
      simp_all? [bEnv, b_tree_of_1, sum_eD, binD, ho, cmpD, inV, i1, lk, Option.isSome_some]
    · have e1 : stp v (f, q) e = (f ++ [(oth v e, w ++ [oth v e])], q ++ [oth v e]) := by
        unfold stp; rw [if_pos ⟨hc, hk⟩, h1]; rfl
      have lk : lookI ((oth v e : Nat) : Int) (fV f) = none := by rw [lookI_nat, lookup_none hk]; rfl
      have lv : lookI ((v : Nat) : Int) (fV f) = some (wD w) := by rw [lookI_nat, h1]; rfl
      have hwd : binD .add (wD w) (.tuple [.int ((oth v e : Nat) : Int)]) = some (wD (w ++ [oth v e])) := add1_tD (by omega)
      have sv : setV (.dI (fV f)) (.int ((oth v e : Nat) : Int)) (wD (w ++ [oth v e])) = some (.dI (fV (f ++ [(oth v e, w ++ [oth v e])]))) := by
        show grdO (szOk ((fV f).length + 1)) (some (Vl.dI (putI _ _ _))) = _
        rw [putI_new hk, sz_le (by rw [fV_len]; omega)]
        simp [grdO, fV]
      have av : appV (.dat (.list (q.map iD))) (.int ((oth v e : Nat) : Int)) = some (.dat (liD iD (q ++ [oth v e]))) := app_liD (f := iD) (by omega)
      refine ⟨V (eD e), V (iD (oth v e)), ?_⟩
      rw [e1]
      unfold stepF
      have bi : ∀ a b : Int, binD .sub (.int a) (.int b) = some (.int (a - b)) := fun _ _ => rfl
      simp_all? [bEnv, b_tree_of_1, sum_eD, cmpD, inV, i1, bi, ho, lk, Option.isSome_none, idxD, lv, sz1, hwd, sv, av]
  · have e1 : stp v (f, q) e = (f, q) := by
      unfold stp; rw [if_neg]; intro z; exact hc z.1
    have i1 : inD (.int (v : Int)) (eD e) = some false := by rw [inE, decide_eq_false hc]
    rw [e1]
    exact ⟨V (eD e), V (.int ((e.1 : Int) + (e.2 : Int) - (v : Int))), by unfold stepF; simp_all? [bEnv, b_tree_of_1, sum_eD, binD, cmpD, inV, i1]⟩
end RL
namespace RL
local macro_rules
  | `(tactic| simp_all? [$ts,*]) => `(tactic| simp only [w_nil, w_cons, w_asg, w_newL, w_newD, w_newE, w_newT, w_unp, w_par, w_set, w_aug, w_app, w_ext, w_pop, w_exp, w_ite, w_ret, w_raise, w_raise1, w_frz, w_pass, w_try, w_hcons, w_hnil,
  e_con, e_glo, e_var, e_bin, e_neg, e_cmp, e_chn, e_isn, e_and, e_or, e_not, e_ite, e_tup, e_lst, e_idx, e_slf, e_slt, e_slb, e_rev, e_call, e_fn1, e_fn2, e_mt, e_isi, e_dc0, e_dc1, e_fld, e_fst, ef_nil, ef_cons, es_nil, es_cons, t_and, t_or, t_not, t_con, t_glo, t_var, t_cmp, t_chn, t_isn, t_isi, t_call, t_idx,
  c_t, c_o, c_seq, c_out, c_bind, c_of, c_rt, evF, evD, evR, ret, retB, varR_v, varR_o,
  b_ok, b_exc, o_some, f_ok, f_exc, p_some, s_nx, s_rt, s_ex, u_nx, u_rt, u_ex, dat_ok, datR_ok, frozen_ok, g_t, tr_none, tr_bool, tr_int, tr_nil, tr_cons, tr_tnil, tr_liD, tr_tD, try_ex, try_nx, try_rt, off_nx, off_rt, off_ex, ownAt_x, ownV_o, valI_x, valX_i, ownL_x, ownX_d, lstOf_liD, lstOf_list, frz1_x, frzX_o, frzX_v, frzX_n, frzA_n, frzA_c, i_tup, i_lst, i_int, i_boo, i_str, i_cls, k1, k2, k3, k4, k5, k6, k7, k8, k9, l1, l2, l3, l4, l5, l6, l7, isN1, isN2, isN3, isN4, isN5, isN6, isN7, mr1, mr2, mr3, intD_i, unp_p, unp_t, unp_l, bd_one, bd_p, bd_t, bds_n, bds_c, sa_n, sa_c, wi_n, wi_c,
  rI, rB, CU_ck, CU_gv, CU_sub, List.getElem?_cons_zero, List.getElem?_cons_succ, List.set_cons_zero, List.set_cons_succ, Option.bind_some, Option.bind_none, cond_true, cond_false, Bool.not_true, Bool.not_false, Bool.not_not, Bool.true_and, Bool.and_true, Bool.false_and, Bool.and_false, Bool.true_or, Bool.or_true, Bool.false_or, Bool.or_false, beq_self_eq_true, List.isEmpty_nil, $(⟨ts.elemsAndSeps⟩),*])
open PySem

theorem b_fold {C : Cfg} {G : D} {n v : Nat} (hn : n ≤ 100) : ∀ (es : List (Nat × Nat)) (f : Fnd) (q : List Nat) (y z : Option Sl), BI n f q → v ∈ keys f → (∀ e ∈ es, e.1 < n ∧ e.2 < n) →
    ∃ y' z', forL (stepF C (.one 4) b_tree_of_1) (es.map eD) (bEnv G f q (V (iD v)) y z) = .nx (bEnv G (es.foldl (stp v) (f, q)).1 (es.foldl (stp v) (f, q)).2 (V (iD v)) y' z')
  | [], f, q, y, z, _, _, _ => ⟨y, z, rfl⟩
  | e :: es, f, q, y, z, b, hv, he => by
    obtain ⟨y1, z1, h1⟩ := b_step (C := C) (G := G) (y := y) (z := z) e b hn hv
    obtain ⟨b1, v1⟩ := b.stp hv (he e List.mem_cons_self)
    obtain ⟨y2, z2, h2⟩ := b_fold hn es _ _ y1 z1 b1 v1 fun e' h' => he e' (List.mem_cons_of_mem _ h')
    refine ⟨y2, z2, ?_⟩
    show (stepF C (.one 4) b_tree_of_1 _ _).seq _ = _
    rw [h1]
    exact h2
theorem pop0 {v : Nat} {q : List Nat} : popV (.dat (liD iD (v :: q))) (some 0) = some (iD v, .dat (liD iD q)) := by
  show (L2.ixN ((v :: q).map iD).length 0).bind _ = _
  have : L2.ixN ((v :: q).map iD).length 0 = some 0 := by
    unfold L2.ixN
    simp
  rw [this]
  rfl
theorem b_while {C : Cfg} {v0 n : Nat} {es : List (Nat × Nat)} (hn : n ≤ 100) (he : ∀ e ∈ es, e.1 < n ∧ e.2 < n) : ∀ (m : Nat) (f f' : Fnd) (q : List Nat) (x y z : Option Sl), BI n f q → bfs es m (f, q) = some f' →
    ∃ x' y' z', whlL (fun r => evT C r (.var 2)) (fun r => execs C r b_tree_of_0) m (bEnv (gD v0 es) f q x y z) = .nx (bEnv (gD v0 es) f' [] x' y' z')
  | 0, _, _, _, _, _, _, _, h => by cases h
  | m + 1, f, f', [], x, y, z, _, h => by
    cases h
    exact ⟨x, y, z, rfl⟩
  | m + 1, f, f', v :: q, x, y, z, b, h => by
    obtain ⟨b1, hv⟩ := b.pop
    have b2 := BI.fold (es := es) b1 hv he
    obtain ⟨y1, z1, h1⟩ := b_fold (C := C) (G := gD v0 es) hn es f q y z b1 hv he
    obtain ⟨x2, y2, z2, h2⟩ := b_while (C := C) (v0 := v0) hn he m _ f' _ (V (iD v)) y1 z1 b2 h
    refine ⟨x2, y2, z2, ?_⟩
    show (SR.of _ (evT C (bEnv (gD v0 es) f (v :: q) x y z) (.var 2)) _) = _
    have ec : evT C (bEnv (gD v0 es) f (v :: q) x y z) (.var 2) = .ok true := rfl
    rw [ec]
    show (execs C (bEnv (gD v0 es) f (v :: q) x y z) _).seq _ = _
    have e2 : exec C (bEnv (gD v0 es) f q (V (iD v)) y z) s_tree_of_1 = .nx (bEnv (gD v0 es) (es.foldl (stp v) (f, q)).1 (es.foldl (stp v) (f, q)).2 (V (iD v)) y1 z1) := (w_for (va := .dat (tD eD es)) (vb := .dat .none) rfl rfl items_tD).trans h1
    have e1 : execs C (bEnv (gD v0 es) f (v :: q) x y z) b_tree_of_0 = .nx (bEnv (gD v0 es) (es.foldl (stp v) (f, q)).1 (es.foldl (stp v) (f, q)).2 (V (iD v)) y1 z1) := by
      have e2' := e2
      unfold bEnv at e2'
      rw [← e2]
      simp_all? [bEnv, b_tree_of_0, pop0, e2']
    rw [e1]
    exact h2
def start : Fnd × List Nat := ([(0, [0])], [0])
theorem b_start {n : Nat} (h0 : 0 < n) : BI n [(0, [0])] [0] := by
  have hone : ∀ p ∈ [((0 : Nat), [(0 : Nat)])], p = (0, [0]) := fun p hp => by simpa using hp
  refine ⟨by simp [keys], fun p hp => ?_, fun p hp => ?_, fun v hv => by simpa [keys] using hv, by simp⟩
  · rw [hone p hp]; exact h0
  · rw [hone p hp]; simp
theorem tree_ok (k v0 n : Nat) {es : List (Nat × Nat)} (hn : n ≤ 100) (h0 : 0 < n) (he : ∀ e ∈ es, e.1 < n ∧ e.2 < n) : ∃ f, bfs es 1000 ([(0, [0])], [0]) = some f ∧ callN U (k + 1) 9 [gD v0 es] = .ok (.dI (fV f)) := by
  have b0 := b_start h0
  obtain ⟨f, hf⟩ := bfs_ends he 1000 _ _ b0 (by simp; omega)
  refine ⟨f, hf, ?_⟩
  obtain ⟨x, y, z, hw⟩ := b_while (C := CU k) (v0 := v0) hn he 1000 _ f _ none none none b0 hf
  rw [call_tree_of]
  have e1 : execs (CU k) [V (gD v0 es), none, none, none, none, none] f_tree_of.body = (exec (CU k) (bEnv (gD v0 es) [(0, [0])] [0] none none none) s_tree_of_0).seq fun r => execs (CU k) r [.frz [1], .ret (.var 1)] := rfl
  have e2 : exec (CU k) (bEnv (gD v0 es) [(0, [0])] [0] none none none) s_tree_of_0 = .nx (bEnv (gD v0 es) f [] x y z) := hw
  rw [e1, e2]
  rfl
/-! ### MD: the search reaches all vertices -/
theorem sub_len : ∀ (l m : List Nat), l.Nodup → (∀ x ∈ l, x ∈ m) → l.length ≤ m.length
  | [], _, _, _ => Nat.zero_le _
  | x :: l, m, hn, h => by
    obtain ⟨h1, h2⟩ := List.nodup_cons.mp hn
    have hx := h x List.mem_cons_self
    have := sub_len l (m.erase x) h2 fun y hy => by
      have hy' := h y (List.mem_cons_of_mem _ hy)
      have hne : y ≠ x := fun e => by subst e; exact h1 hy
      exact (List.mem_erase_of_ne hne).mpr hy'
    rw [List.length_erase_of_mem hx] at this
    have hp : 0 < m.length := List.length_pos_of_mem hx
    simp only [List.length_cons]
    omega
def inc (v : Nat) (e : Nat × Nat) : Prop := v = e.1 ∨ v = e.2
theorem stp_keys (v : Nat) (s : Fnd × List Nat) (e : Nat × Nat) : (∀ k ∈ keys s.1, k ∈ keys (stp v s e).1) ∧ (∀ k ∈ s.2, k ∈ (stp v s e).2) ∧ (inc v e → oth v e ∈ keys (stp v s e).1) ∧ (∀ k ∈ keys (stp v s e).1, k ∈ keys s.1 ∨ k ∈ (stp v s e).2) := by
  unfold stp
  by_cases h : (v = e.1 ∨ v = e.2) ∧ oth v e ∉ keys s.1
  · rw [if_pos h]
    have hk : keys (s.1 ++ [(oth v e, (s.1.lookup v).getD [] ++ [oth v e])]) = keys s.1 ++ [oth v e] := by simp [keys]
    refine ⟨fun k hkk => ?_, fun k hkk => List.mem_append_left _ hkk, fun _ => ?_, fun k hkk => ?_⟩
    · show k ∈ keys (s.1 ++ [_]); rw [hk]; exact List.mem_append_left _ hkk
    · show oth v e ∈ keys (s.1 ++ [_]); rw [hk]; simp
    · have hkk : k ∈ keys (s.1 ++ [(oth v e, (s.1.lookup v).getD [] ++ [oth v e])]) := hkk
      rw [hk] at hkk
      rcases List.mem_append.mp hkk with z | z
      · exact .inl z
      · exact .inr (List.mem_append_right _ z)
  · rw [if_neg h]
    refine ⟨fun k hk => hk, fun k hk => hk, fun hi => ?_, fun k hk => .inl hk⟩
    by_cases q : oth v e ∈ keys s.1
    · exact q
    · exact absurd ⟨hi, q⟩ h
theorem fold_keys (v : Nat) : ∀ (es : List (Nat × Nat)) (s : Fnd × List Nat), (∀ k ∈ keys s.1, k ∈ keys (es.foldl (stp v) s).1) ∧ (∀ k ∈ s.2, k ∈ (es.foldl (stp v) s).2) ∧ (∀ e ∈ es, inc v e → oth v e ∈ keys (es.foldl (stp v) s).1) ∧ (∀ k ∈ keys (es.foldl (stp v) s).1, k ∈ keys s.1 ∨ k ∈ (es.foldl (stp v) s).2)
  | [], s => ⟨fun k h => h, fun k h => h, fun e he => (by cases he), fun k h => .inl h⟩
  | e :: es, s => by
    obtain ⟨a1, a2, a3, a4⟩ := stp_keys v s e
    obtain ⟨b1, b2, b3, b4⟩ := fold_keys v es (stp v s e)
    rw [List.foldl_cons]
    refine ⟨fun k h => b1 k (a1 k h), fun k h => b2 k (a2 k h), fun e' he hi => ?_, fun k h => ?_⟩
    · rcases List.mem_cons.mp he with z | z
      · subst z; exact b1 _ (a3 hi)
      · exact b3 e' z hi
    · rcases b4 k h with z | z
      · rcases a4 k z with y | y
        · exact .inl y
        · exact .inr (b2 k y)
      · exact .inr z
/-- all that is done has its neighbors found -/
def Done (es : List (Nat × Nat)) (f : Fnd) (q : List Nat) : Prop := ∀ k ∈ keys f, k ∉ q → ∀ e ∈ es, inc k e → oth k e ∈ keys f
theorem bfs_closed {n : Nat} {es : List (Nat × Nat)} (he : ∀ e ∈ es, e.1 < n ∧ e.2 < n) : ∀ (m : Nat) (f f' : Fnd) (q : List Nat), BI n f q → Done es f q → bfs es m (f, q) = some f' → BI n f' [] ∧ Done es f' [] ∧ ∀ k ∈ keys f, k ∈ keys f'
  | 0, _, _, _, _, _, h => by cases h
  | m + 1, f, f', [], b, d, h => by
    cases h
    exact ⟨b, d, fun k hk => hk⟩
  | m + 1, f, f', v :: q, b, d, h => by
    obtain ⟨b1, hv⟩ := b.pop
    have b2 := BI.fold (es := es) b1 hv he
    obtain ⟨a1, a2, a3, a4⟩ := fold_keys v es (f, q)
    obtain ⟨c1, c2, c3⟩ := bfs_closed he m _ f' _ b2 (fun k hk hq e hee hi => by
      rcases a4 k hk with z | z
      · by_cases hkv : k = v
        · subst hkv; exact a3 e hee hi
        · refine a1 _ (d k z (fun y => ?_) e hee hi)
          rcases List.mem_cons.mp y with y | y
          · exact hkv y
          · exact hq (a2 k y)
      · exact absurd z hq) h
    exact ⟨c1, c2, fun k hk => c3 k (a1 k hk)⟩
/-- every vertex but 0 has a smaller neighbor -/
def Down (n : Nat) (es : List (Nat × Nat)) : Prop := ∀ v, 0 < v → v < n → ∃ u, u < v ∧ (u, v) ∈ es
theorem tree_full {n : Nat} {es : List (Nat × Nat)} {f : Fnd} (h0 : 0 < n) (he : ∀ e ∈ es, e.1 < n ∧ e.2 < n) (hd : Down n es) (h : bfs es 1000 ([(0, [0])], [0]) = some f) : BI n f [] ∧ Done es f [] ∧ (∀ v, v < n → v ∈ keys f) ∧ f.length = n := by
  have hone : ∀ p ∈ [((0 : Nat), [(0 : Nat)])], p = (0, [0]) := fun p hp => by simpa using hp
  have b0 : BI n [(0, [0])] [0] := by
    refine ⟨by simp [keys], fun p hp => ?_, fun p hp => ?_, fun v hv => by simpa [keys] using hv, by simp⟩
    · rw [hone p hp]; exact h0
    · rw [hone p hp]; simp
  obtain ⟨c1, c2, c3⟩ := bfs_closed he 1000 _ f _ b0 (fun k hk hq => absurd (show k ∈ [0] by simpa [keys] using hk) hq) h
  have all : ∀ v, v < n → v ∈ keys f := by
    intro v
    induction v using Nat.strongRecOn with
    | _ v ih =>
      intro hv
      by_cases hz : v = 0
      · subst hz; exact c3 0 (by simp [keys])
      · obtain ⟨u, hu, hm⟩ := hd v (by omega) hv
        have := c2 u (ih u hu (by omega)) (by simp) (u, v) hm (.inl rfl)
        have e : oth u (u, v) = v := by unfold oth; simp
        rw [e] at this
        exact this
  refine ⟨c1, c2, all, ?_⟩
  have l1 := c1.len
  have l2 := sub_len (List.range n) (keys f) List.nodup_range fun x hx => all x (List.mem_range.mp hx)
  simp [keys] at l2
  omega
end RL
/-! RLG: valid graphs. -/
namespace RL
local macro_rules
  | `(tactic| simp_all? [$ts,*]) => `(tactic| simp only [w_nil, w_cons, w_asg, w_newL, w_newD, w_newE, w_newT, w_unp, w_par, w_set, w_aug, w_app, w_ext, w_pop, w_exp, w_ite, w_ret, w_raise, w_raise1, w_frz, w_pass, w_try, w_hcons, w_hnil,
  e_con, e_glo, e_var, e_bin, e_neg, e_cmp, e_chn, e_isn, e_and, e_or, e_not, e_ite, e_tup, e_lst, e_idx, e_slf, e_slt, e_slb, e_rev, e_call, e_fn1, e_fn2, e_mt, e_isi, e_dc0, e_dc1, e_fld, e_fst, ef_nil, ef_cons, es_nil, es_cons, t_and, t_or, t_not, t_con, t_glo, t_var, t_cmp, t_chn, t_isn, t_isi, t_call, t_idx,
  c_t, c_o, c_seq, c_out, c_bind, c_of, c_rt, evF, evD, evR, ret, retB, varR_v, varR_o,
  b_ok, b_exc, o_some, f_ok, f_exc, p_some, s_nx, s_rt, s_ex, u_nx, u_rt, u_ex, dat_ok, datR_ok, frozen_ok, g_t, tr_none, tr_bool, tr_int, tr_nil, tr_cons, tr_tnil, tr_liD, tr_tD, try_ex, try_nx, try_rt, off_nx, off_rt, off_ex, ownAt_x, ownV_o, valI_x, valX_i, ownL_x, ownX_d, lstOf_liD, lstOf_list, frz1_x, frzX_o, frzX_v, frzX_n, frzA_n, frzA_c, i_tup, i_lst, i_int, i_boo, i_str, i_cls, k1, k2, k3, k4, k5, k6, k7, k8, k9, l1, l2, l3, l4, l5, l6, l7, isN1, isN2, isN3, isN4, isN5, isN6, isN7, mr1, mr2, mr3, intD_i, unp_p, unp_t, unp_l, bd_one, bd_p, bd_t, bds_n, bds_c, sa_n, sa_c, wi_n, wi_c,
  rI, rB, CU_ck, CU_gv, CU_sub, List.getElem?_cons_zero, List.getElem?_cons_succ, List.set_cons_zero, List.set_cons_succ, Option.bind_some, Option.bind_none, cond_true, cond_false, Bool.not_true, Bool.not_false, Bool.not_not, Bool.true_and, Bool.and_true, Bool.false_and, Bool.and_false, Bool.true_or, Bool.or_true, Bool.false_or, Bool.or_false, beq_self_eq_true, List.isEmpty_nil, $(⟨ts.elemsAndSeps⟩),*])
open PySem
def ltE (a b : Nat × Nat) : Prop := a.1 < b.1 ∨ a.1 = b.1 ∧ a.2 < b.2
structure Gr (n : Nat) (es : List (Nat × Nat)) : Prop where
  pos : 1 ≤ n
  le : n ≤ 6
  el : es.length ≤ 9
  ed : ∀ e ∈ es, e.1 < e.2 ∧ e.2 < n
  so : es.Pairwise ltE
  dn : Down n es
theorem Gr.lt {n : Nat} {es : List (Nat × Nat)} (G : Gr n es) : ∀ e ∈ es, e.1 < n ∧ e.2 < n := fun e he => by have := G.ed e he; omega
theorem g0 {n : Nat} {es : List (Nat × Nat)} : idxD (.dat (gD n es)) (.int 0) = some (.int (n : Int)) := rfl
theorem g1 {n : Nat} {es : List (Nat × Nat)} : idxD (.dat (gD n es)) (.int 1) = some (tD eD es) := rfl
theorem bsub {a b : Int} : binD .sub (.int a) (.int b) = some (.int (a - b)) := rfl
theorem badd {a b : Int} : binD .add (.int a) (.int b) = some (.int (a + b)) := rfl
theorem ceq {x : D} {y : D} : cmpD .eq x (.dat y) = eqD x y := rfl
theorem cne {x : D} {y : D} : cmpD .ne x (.dat y) = (eqD x y).bind fun b => some (!b) := rfl
theorem clt {i j : Int} : cmpD .lt (.int i) (.dat (.int j)) = some (decide (i < j)) := rfl
theorem cle {i j : Int} : cmpD .le (.int i) (.dat (.int j)) = some (decide (i ≤ j)) := rfl
theorem cgt {i j : Int} : cmpD .gt (.int i) (.dat (.int j)) = some (decide (j < i)) := rfl
theorem cge {i j : Int} : cmpD .ge (.int i) (.dat (.int j)) = some (decide (j ≤ i)) := rfl
theorem cin {x y : D} : cmpD .isin x (.dat y) = inD x y := rfl
theorem cni {x y : D} : cmpD .notin x (.dat y) = (inD x y).bind fun b => some (!b) := rfl
theorem len_pD {α β : Type} {f : α → D} {g : β → D} {p : α × β} : fn1D .len (.dat (pD f g p)) = some (.int 2) := rfl
theorem is_edge_ok (k n : Nat) (e : Nat × Nat) (h : e.1 < e.2 ∧ e.2 < n) : callN U (k + 2) 8 [.int n, eD e] = .ok (.dat (.bool true)) := by
  rw [call_is_edge]
  have h1 : inR (.int e.1) 0 ((n : Int) - 1) = true := by simp [inR]; omega
  have h2 : inR (.int e.2) ((e.1 : Int) + 1) ((n : Int) - 1) = true := by simp [inR]; omega
  have e2 : ((2 : Int) == 2) = true := rfl
  simp_all? [f_is_edge, len_pD, cne, eqD_int, fst_pD, snd_pD, bsub, badd, in_range_ok, h1, h2]
theorem lt_pair (a b c d : Int) : HT.lexLt [a, b] [c, d] = (decide (a < c) || (decide (a = c) && decide (b < d))) := by
  show (if a = c then (if b = d then false else decide (b < d)) else decide (a < c)) = _
  by_cases h1 : a = c
  · subst h1
    by_cases h2 : b = d
    · subst h2; simp
    · simp [h2]
  · simp [h1]
theorem ge_eD {e1 e2 : Nat × Nat} (h : ltE e1 e2) : cmpD .ge (eD e1) (.dat (eD e2)) = some false := by
  show some (!HT.lexLt [(e1.1 : Int), (e1.2 : Int)] [(e2.1 : Int), (e2.2 : Int)]) = _
  rw [lt_pair]
  rcases h with z | ⟨z1, z2⟩
  · simp; omega
  · simp; omega
theorem is_graph_ok (k : Nat) {n : Nat} {es : List (Nat × Nat)} (G : Gr n es) : callN U (k + 3) 10 [gD n es] = .ok (.dat (.bool true)) := by
  obtain ⟨f, hf, ht⟩ := tree_ok (k + 1) n n (by have := G.le; omega) G.pos G.lt
  obtain ⟨_, _, _, hl⟩ := tree_full G.pos G.lt G.dn hf
  have hel := G.el
  have hp := G.pos
  have hle := G.le
  rw [call_is_graph]
  have h1 : inR (.int n) 1 6 = true := by simp [inR]; omega
  have h2 : decide ((9 : Int) < (es.length : Int)) = false := decide_eq_false (by omega)
  have s3 : ev (CU (k + 2)) [V (gD n es), none, none] c_is_graph_0 = ret (liD eD []) := by
    have := ev_cpiE (C := CU (k + 2)) (ρ := [V (gD n es), none, none]) (own := [1]) (tg := .one 1) (kk := .items) (xs := es) (f := eD) (ra := (false, .dat (tD eD es))) (rb := (false, .dat .none)) (a := (.idx (.var 0) (.con (.int 1)))) (b := .con .none) (c := (.not (.call 8 [(.idx (.var 0) (.con (.int 0))), (.var 1)]))) (elt := .var 1) (fun _ => false) id eD rfl rfl items_tD (by omega)
      (fun e he => by simp_all? [g0, is_edge_ok k n e (G.ed e he)]) (fun e he z => by cases z)
    rw [List.filter_eq_nil_iff.mpr (fun _ _ => by simp)] at this
    exact this
  have s4 : ev (CU (k + 2)) [V (gD n es), none, none] c_is_graph_1 = ret (liD iD []) := by
    have := ev_cpiE (C := CU (k + 2)) (ρ := [V (gD n es), none, none]) (own := [1, 2]) (tg := .many [.one 1, .one 2]) (kk := .zip) (xs := es.zip (es.drop 1)) (f := pD eD eD) (ra := (false, .dat (tD eD es))) (rb := (false, .dat (tD eD (es.drop 1)))) (a := (.idx (.var 0) (.con (.int 1)))) (b := (.slf (.idx (.var 0) (.con (.int 1))) (.con (.int 1)))) (c := (.cmp .ge (.var 1) (.var 2))) (elt := .con (.int 1)) (fun _ => false) (fun _ => 1) iD rfl (by simp_all? [g1, drop1_tD]) items_zip (by simp; omega)
      (fun p hp => by
        obtain ⟨i, hi⟩ := List.getElem?_of_mem hp
        rw [List.getElem?_zip_eq_some] at hi
        obtain ⟨q1, q2⟩ := hi
        rw [List.getElem?_drop] at q2
        have hle : ltE p.1 p.2 := by
          obtain ⟨l1, m1⟩ := List.getElem?_eq_some_iff.mp q1
          obtain ⟨l2, m2⟩ := List.getElem?_eq_some_iff.mp q2
          rw [← m1, ← m2]
          exact List.pairwise_iff_getElem.mp G.so _ _ _ _ (by omega)
        have := ge_eD hle
        simp_all? [this]) (fun e he z => by cases z)
    rw [List.filter_eq_nil_iff.mpr (fun _ _ => by simp)] at this
    exact this
  have g2 : gvT 2 = some (.int 6) := rfl
  have g3 : gvT 3 = some (.int 9) := rfl
  simp_all? [f_is_graph, len_pD, cne, eqD_int, g0, g1, g2, g3, in_range_ok, h1, len_tD, cgt, h2, s3, s4, t_def (e := c_is_graph_0), t_def (e := c_is_graph_1), ht, ceq]
  show Res.ok (Vl.dat (.bool (((fV f).length : Int) == (n : Int)))) = _
  rw [fV_len, hl]
  simp
theorem check_graph_ok (k : Nat) {n : Nat} {es : List (Nat × Nat)} (G : Gr n es) : callN U (k + 4) 11 [gD n es] = .ok (.dat .none) := by
  rw [call_check_graph]
  simp_all? [f_check_graph, is_graph_ok k G]
end RL
/-! RLP: labels, walks, products. -/
namespace RL
local macro_rules
  | `(tactic| simp_all? [$ts,*]) => `(tactic| simp only [w_nil, w_cons, w_asg, w_newL, w_newD, w_newE, w_newT, w_unp, w_par, w_set, w_aug, w_app, w_ext, w_pop, w_exp, w_ite, w_ret, w_raise, w_raise1, w_frz, w_pass, w_try, w_hcons, w_hnil,
  e_con, e_glo, e_var, e_bin, e_neg, e_cmp, e_chn, e_isn, e_and, e_or, e_not, e_ite, e_tup, e_lst, e_idx, e_slf, e_slt, e_slb, e_rev, e_call, e_fn1, e_fn2, e_mt, e_isi, e_dc0, e_dc1, e_fld, e_fst, ef_nil, ef_cons, es_nil, es_cons, t_and, t_or, t_not, t_con, t_glo, t_var, t_cmp, t_chn, t_isn, t_isi, t_call, t_idx,
  c_t, c_o, c_seq, c_out, c_bind, c_of, c_rt, evF, evD, evR, ret, retB, varR_v, varR_o,
  b_ok, b_exc, o_some, f_ok, f_exc, p_some, s_nx, s_rt, s_ex, u_nx, u_rt, u_ex, dat_ok, datR_ok, frozen_ok, g_t, tr_none, tr_bool, tr_int, tr_nil, tr_cons, tr_tnil, tr_liD, tr_tD, try_ex, try_nx, try_rt, off_nx, off_rt, off_ex, ownAt_x, ownV_o, valI_x, valX_i, ownL_x, ownX_d, lstOf_liD, lstOf_list, frz1_x, frzX_o, frzX_v, frzX_n, frzA_n, frzA_c, i_tup, i_lst, i_int, i_boo, i_str, i_cls, k1, k2, k3, k4, k5, k6, k7, k8, k9, l1, l2, l3, l4, l5, l6, l7, isN1, isN2, isN3, isN4, isN5, isN6, isN7, mr1, mr2, mr3, intD_i, unp_p, unp_t, unp_l, bd_one, bd_p, bd_t, bds_n, bds_c, sa_n, sa_c, wi_n, wi_c,
  rI, rB, CU_ck, CU_gv, CU_sub, List.getElem?_cons_zero, List.getElem?_cons_succ, List.set_cons_zero, List.set_cons_succ, Option.bind_some, Option.bind_none, cond_true, cond_false, Bool.not_true, Bool.not_false, Bool.not_not, Bool.true_and, Bool.and_true, Bool.false_and, Bool.and_false, Bool.true_or, Bool.or_true, Bool.false_or, Bool.or_false, beq_self_eq_true, List.isEmpty_nil, $(⟨ts.elemsAndSeps⟩),*])
open PySem
/-! labels -/
theorem nil_all {α : Type} (xs : List α) (p : α → Bool) : (!((xs.filter fun d => !p d).map id).isEmpty) = !(xs.all p) := by
  rw [List.map_id, Bool.eq_iff_iff]
  simp [List.isEmpty_iff, List.filter_eq_nil_iff]
theorem int_beq {a b : Nat} : ((a : Int) == (b : Int)) = decide (a = b) := by
  rw [Bool.eq_iff_iff]; simp; omega
theorem len_tup {xs : List D} : fn1D .len (.dat (.tuple xs)) = some (.int (xs.length : Int)) := rfl
theorem are_labels_tup (k n : Nat) (es : List (Nat × Nat)) (ds : List D) (p : D → Bool) (hl : ds.length ≤ 16000000) (h : ∀ d ∈ ds, callN U (k + 2) 2 [d] = .ok (.dat (.bool (p d)))) :
    callN U (k + 3) 12 [gD n es, .tuple ds] = .ok (.dat (.bool (decide (ds.length = es.length) && ds.all p))) := by
  rw [call_are_labels]
  have e1 : ev (CU (k + 2)) [V (gD n es), V (.tuple ds), none] c_are_labels_0 = ret (liD id ((ds.filter fun d => !p d).map id)) :=
    ev_cpiE (xs := ds) (f := id) (fun d => !p d) id id (ra := (false, .dat (.tuple ds))) (rb := (false, .dat .none)) rfl rfl (by rw [List.map_id]; rfl) hl (fun d hd => by simp_all? [id, h d hd]) (fun d hd _ => by simp_all? [id])
  simp_all? [f_are_labels, len_tup, g1, len_tD, cne, eqD_int, int_beq, t_def (e := c_are_labels_0), e1, nil_all]
  cases decide (ds.length = es.length) <;> rfl
theorem are_labels_non (k n : Nat) (es : List (Nat × Nat)) (d : D) (h : isTup d = false) : callN U (k + 1) 12 [gD n es, d] = .ok (.dat (.bool false)) := by
  rw [call_are_labels]
  simp_all? [f_are_labels, h]
theorem are_labels_ok (k n : Nat) (es : List (Nat × Nat)) (ls : List (Fin 6)) (hl : ls.length ≤ 16000000) : callN U (k + 3) 12 [gD n es, lD ls] = .ok (.dat (.bool (decide (ls.length = es.length)))) := by
  have h := are_labels_tup k n es (ls.map pm) (fun _ => true) (by simpa using hl) (fun d hd => by
    obtain ⟨a, _, rfl⟩ := List.mem_map.mp hd
    exact is_perm_ok k a)
  rw [List.length_map, show (ls.map pm).all (fun _ => true) = true by simp, Bool.and_true] at h
  exact h
/-- labels of a graph -/
def Lb (es : List (Nat × Nat)) (ls : List (Fin 6)) : Prop := ls.length = es.length
theorem check_labels_any (k : Nat) {n : Nat} {es : List (Nat × Nat)} (G : Gr n es) (d : D) (b : Bool) (h : callN U (k + 4) 12 [gD n es, d] = .ok (.dat (.bool b))) : callN U (k + 5) 13 [gD n es, d] = cond b (.ok (.dat .none)) (.exc 3 none) := by
  rw [call_check_labels]
  simp_all? [f_check_labels, check_graph_ok k G, h]
  cases b <;> rfl
theorem check_labels_ok (k : Nat) {n : Nat} {es : List (Nat × Nat)} (G : Gr n es) {ls : List (Fin 6)} (hl : ls.length = es.length) : callN U (k + 5) 13 [gD n es, lD ls] = .ok (.dat .none) := by
  have := are_labels_ok (k + 1) n es ls (by have := G.el; omega)
  rw [decide_eq_true hl] at this
  rw [check_labels_any k G _ _ this]
  rfl
/-! steps -/
def lab (es : List (Nat × Nat)) (ls : List (Fin 6)) (e : Nat × Nat) : Fin 6 := ls.getD (es.idxOf e) 0
def stepL (es : List (Nat × Nat)) (ls : List (Fin 6)) (a b : Nat) : Fin 6 := if a < b then lab es ls (a, b) else pinv (lab es ls (b, a))
def adj (es : List (Nat × Nat)) (a b : Nat) : Prop := (min a b, max a b) ∈ es
theorem adj_cases {es : List (Nat × Nat)} (hed : ∀ e ∈ es, e.1 < e.2) {a b : Nat} (h : adj es a b) : (a < b ∧ (a, b) ∈ es) ∨ (b < a ∧ (b, a) ∈ es) := by
  unfold adj at h
  have := hed _ h
  by_cases q : a < b
  · rw [Nat.min_eq_left (by omega), Nat.max_eq_right (by omega)] at h
    exact .inl ⟨q, h⟩
  · rw [Nat.min_eq_right (by omega), Nat.max_eq_left (by omega)] at h
    have := hed _ h
    exact .inr ⟨this, h⟩
theorem adj_symm {es : List (Nat × Nat)} {a b : Nat} (h : adj es a b) : adj es b a := by
  unfold adj at *
  rw [Nat.min_comm, Nat.max_comm]; exact h
theorem eD_tup (a b : Nat) : (PyData.tuple [.int (a : Int), .int (b : Int)]) = eD (a, b) := rfl
theorem lab_at {es : List (Nat × Nat)} {ls : List (Fin 6)} {e : Nat × Nat} (h : e ∈ es) (hl : ls.length = es.length) : idxD (.dat (lD ls)) (.int ((es.idxOf e : Nat) : Int)) = some (pm (lab es ls e)) :=
  idx_tD 0 (by have := List.idxOf_lt_length_of_mem h; omega)
section
variable {n : Nat} {es : List (Nat × Nat)} {ls : List (Fin 6)}
theorem step_label_ok (k : Nat) (hed : ∀ e ∈ es, e.1 < e.2) (hl : ls.length = es.length) {a b : Nat} (h : adj es a b) : callN U (k + 2) 15 [gD n es, lD ls, .int (a : Int), .int (b : Int)] = .ok (.dat (pm (stepL es ls a b))) := by
  rw [call_step_label]
  rcases adj_cases hed h with ⟨q, hm⟩ | ⟨q, hm⟩
  · have q' : decide ((a : Int) < (b : Int)) = true := decide_eq_true (by omega)
    simp_all? [f_step_label, clt, q', g1, sz2, eD_tup, index_tD (f := eD) hm (by decide), lab_at hm hl]
    unfold stepL; rw [if_pos q]
  · have q' : decide ((a : Int) < (b : Int)) = false := decide_eq_false (by omega)
    simp_all? [f_step_label, clt, q', g1, sz2, eD_tup, index_tD (f := eD) hm (by decide), lab_at hm hl, opposite_ok]
    unfold stepL; rw [if_neg (by omega)]
theorem lstep_ok (k : Nat) (hed : ∀ e ∈ es, e.1 < e.2) (hl : ls.length = es.length) {a b : Nat} (h : adj es a b) : callN U (k + 2) 80 [gD n es, lD ls, .int (a : Int), .int (b : Int)] = .ok (.dat (pm (stepL es ls a b))) := by
  rw [call_l_step]
  rcases adj_cases hed h with ⟨q, hm⟩ | ⟨q, hm⟩
  · have q' : decide ((a : Int) < (b : Int)) = true := decide_eq_true (by omega)
    simp_all? [l_step, clt, q', g1, sz2, eD_tup, index_tD (f := eD) hm (by decide), lab_at hm hl]
    unfold stepL; rw [if_pos q]
  · have q' : decide ((a : Int) < (b : Int)) = false := decide_eq_false (by omega)
    simp_all? [l_step, clt, q', g1, sz2, eD_tup, index_tD (f := eD) hm (by decide), lab_at hm hl, back_ok]
    unfold stepL; rw [if_neg (by omega)]
/-! walks -/
def pairs (w : List Nat) : List (Nat × Nat) := w.zip (w.drop 1)
def wok (n : Nat) (es : List (Nat × Nat)) (w : List Nat) : Bool := !w.isEmpty && w.all (fun v => decide (v < n)) && (pairs w).all fun p => decide ((min p.1 p.2, max p.1 p.2) ∈ es)
structure Wk (n : Nat) (es : List (Nat × Nat)) (w : List Nat) : Prop where
  ne : w ≠ []
  lt : ∀ v ∈ w, v < n
  ad : ∀ p ∈ pairs w, adj es p.1 p.2
theorem wok_iff {w : List Nat} : wok n es w = true ↔ Wk n es w := by
  unfold wok
  simp only [Bool.and_eq_true, Bool.not_eq_true', List.isEmpty_eq_false_iff, List.all_eq_true, decide_eq_true_eq]
  exact ⟨fun h => ⟨h.1.1, h.1.2, h.2⟩, fun h => ⟨⟨h.ne, h.lt⟩, h.ad⟩⟩
theorem min_ok (a b : Nat) : fn2D .min (.int (a : Int)) (.int (b : Int)) = some (.int ((min a b : Nat) : Int)) := by
  show rI (if (b : Int) < (a : Int) then (b : Int) else a) = _
  split
  · rw [Nat.min_eq_right (by omega)]; rfl
  · rw [Nat.min_eq_left (by omega)]; rfl
theorem max_ok (a b : Nat) : fn2D .max (.int (a : Int)) (.int (b : Int)) = some (.int ((max a b : Nat) : Int)) := by
  show rI (if (b : Int) > (a : Int) then (b : Int) else a) = _
  split
  · rw [Nat.max_eq_right (by omega)]; rfl
  · rw [Nat.max_eq_left (by omega)]; rfl
theorem pairs_len (w : List Nat) : (pairs w).length = w.length - 1 := by simp [pairs]
theorem inR_nat {a n : Nat} (h : 1 ≤ n) : inR (.int (a : Int)) 0 ((n : Int) - 1) = decide (a < n) := by
  unfold inR
  rw [Bool.eq_iff_iff]; simp; omega
/-- the first look of is_walk, at any tuple -/
theorem walk0 (k : Nat) (ds : List D) (hl : ds.length ≤ 16000000) : ev (CU (k + 1)) [V (gD n es), V (.tuple ds), none, none, none] c_is_walk_0 = ret (liD id ((ds.filter fun d => !inR d 0 ((n : Int) - 1)).map id)) :=
  ev_cpiE (xs := ds) (f := id) (fun d => !inR d 0 ((n : Int) - 1)) id id (ra := (false, .dat (.tuple ds))) (rb := (false, .dat .none)) rfl rfl (by rw [List.map_id]; rfl) hl (fun d hd => by simp_all? [id, g0, bsub, in_range_ok]) (fun d hd _ => by simp_all? [id])
theorem is_walk_bad (k : Nat) (ds : List D) (hl : ds.length ≤ 16000000) (h : (ds.all fun d => inR d 0 ((n : Int) - 1)) = false) : callN U (k + 2) 14 [gD n es, .tuple ds] = .ok (.dat (.bool false)) := by
  rw [call_is_walk]
  have e0 := walk0 (n := n) (es := es) k ds hl
  have tr : truthy (.dat (.tuple ds)) = some (!ds.isEmpty) := by cases ds <;> rfl
  simp_all? [f_is_walk, tr, t_def (e := c_is_walk_0), e0, nil_all, h]
  cases ds.isEmpty <;> rfl
theorem is_walk_non (k : Nat) (d : D) (h : isTup d = false) : callN U (k + 1) 14 [gD n es, d] = .ok (.dat (.bool false)) := by
  rw [call_is_walk]
  simp_all? [f_is_walk, h]
theorem is_walk_ok (k : Nat) (hn : 1 ≤ n) (w : List Nat) (hl : w.length ≤ 16000000) : callN U (k + 2) 14 [gD n es, wD w] = .ok (.dat (.bool (wok n es w))) := by
  rw [call_is_walk]
  have e0 : ev (CU (k + 1)) [V (gD n es), V (wD w), none, none, none] c_is_walk_0 = ret (liD iD ((w.filter fun v => !decide (v < n)).map id)) :=
    ev_cpiE (xs := w) (f := iD) (fun v => !decide (v < n)) id iD (ra := (false, .dat (wD w))) (rb := (false, .dat .none)) rfl rfl items_tD hl (fun d hd => by simp_all? [g0, bsub, in_range_ok, inR_nat hn]) (fun d hd _ => by simp_all? [id])
  have e1 : ev (CU (k + 1)) [V (gD n es), V (wD w), none, none, none] c_is_walk_1 = ret (liD iD (((pairs w).filter fun p => !decide ((min p.1 p.2, max p.1 p.2) ∈ es)).map fun _ => 1)) :=
    ev_cpiE (xs := pairs w) (f := pD iD iD) (fun p => !decide ((min p.1 p.2, max p.1 p.2) ∈ es)) (fun _ => 1) iD (ra := (false, .dat (wD w))) (rb := (false, .dat (wD (w.drop 1)))) rfl (by simp_all? [drop1_tD]) items_zip (by rw [pairs_len]; omega) (fun p hp => by simp_all? [min_ok, max_ok, sz2, eD_tup, g1, cni, in_tD (f := eD) (by decide)]) (fun d hd _ => by simp_all? [id]; rfl)
  have a1 : (((pairs w).filter fun p => !decide ((min p.1 p.2, max p.1 p.2) ∈ es)).map fun _ => 1).isEmpty = (pairs w).all fun p => decide ((min p.1 p.2, max p.1 p.2) ∈ es) := by
    rw [Bool.eq_iff_iff]
    simp [List.isEmpty_iff, List.filter_eq_nil_iff]
  simp_all? [f_is_walk, t_def (e := c_is_walk_0), t_def (e := c_is_walk_1), e0, e1, nil_all, a1]
  unfold wok
  cases w.isEmpty <;> cases w.all (fun v => decide (v < n)) <;> rfl
/-! products -/
def prodL (es : List (Nat × Nat)) (ls : List (Fin 6)) (w : List Nat) : Fin 6 := (pairs w).foldl (fun r p => pcomp r (stepL es ls p.1 p.2)) 0
theorem product_of_ok (k : Nat) (hed : ∀ e ∈ es, e.1 < e.2) (hl : ls.length = es.length) {w : List Nat} (hw : ∀ p ∈ pairs w, adj es p.1 p.2) : callN U (k + 3) 16 [gD n es, lD ls, wD w] = .ok (.dat (pm (prodL es ls w))) := by
  rw [call_product_of]
  obtain ⟨_, j', h⟩ := forL_st (f := pD iD iD) (step := stepF (CU (k + 2)) (.many [(.one 4), (.one 5)]) b_product_of_0) (xs := pairs w) (fun (s : Fin 6) (j : Option Sl × Option Sl) => [V (gD n es), V (lD ls), V (wD w), V (pm s), j.1, j.2]) (fun r p => pcomp r (stepL es ls p.1 p.2)) (fun _ _ => True) (s := 0) (j := (none, none)) trivial fun pre p post s j e _ => ⟨trivial, (V (iD p.1), V (iD p.2)), by
    unfold stepF
    simp_all? [b_product_of_0, step_label_ok (n := n) k hed hl (hw p (by rw [e]; simp)), after_ok]⟩
  have h1 : exec (CU (k + 2)) [V (gD n es), V (lD ls), V (wD w), V (.tuple [.int 0, .int 1, .int 2]), none, none] s_product_of_0 = .nx [V (gD n es), V (lD ls), V (wD w), V (pm (prodL es ls w)), j'.1, j'.2] := (w_for (va := .dat (wD w)) (vb := .dat (wD (w.drop 1))) rfl (by simp_all? [drop1_tD]) items_zip).trans h
  simp_all? [f_product_of, gvT, h1]
theorem product_ok (k : Nat) (G : Gr n es) (hl : ls.length = es.length) {w : List Nat} (hw : Wk n es w) (hwl : w.length ≤ 16000000) : callN U (k + 6) 17 [gD n es, lD ls, wD w] = .ok (.dat (pm (prodL es ls w))) := by
  rw [call_product]
  simp_all? [f_product, check_labels_ok k G hl, is_walk_ok (k + 3) G.pos w hwl, wok_iff.mpr hw, product_of_ok (k + 2) (fun e he => (G.ed e he).1) hl hw.ad]
theorem product_badw (k : Nat) (G : Gr n es) (hl : ls.length = es.length) {d : D} (hd : callN U (k + 5) 14 [gD n es, d] = .ok (.dat (.bool false))) : callN U (k + 6) 17 [gD n es, lD ls, d] = .exc 7 none := by
  rw [call_product]
  simp_all? [f_product, check_labels_ok k G hl, hd]
theorem product_badl (k : Nat) {d e : D} (hd : callN U (k + 5) 13 [gD n es, d] = .exc 3 none) : callN U (k + 6) 17 [gD n es, d, e] = .exc 3 none := by
  rw [call_product]
  simp_all? [f_product, hd]
end
end RL
namespace RL
local macro_rules
  | `(tactic| simp_all? [$ts,*]) => `(tactic| simp only [w_nil, w_cons, w_asg, w_newL, w_newD, w_newE, w_newT, w_unp, w_par, w_set, w_aug, w_app, w_ext, w_pop, w_exp, w_ite, w_ret, w_raise, w_raise1, w_frz, w_pass, w_try, w_hcons, w_hnil,
  e_con, e_glo, e_var, e_bin, e_neg, e_cmp, e_chn, e_isn, e_and, e_or, e_not, e_ite, e_tup, e_lst, e_idx, e_slf, e_slt, e_slb, e_rev, e_call, e_fn1, e_fn2, e_mt, e_isi, e_dc0, e_dc1, e_fld, e_fst, ef_nil, ef_cons, es_nil, es_cons, t_and, t_or, t_not, t_con, t_glo, t_var, t_cmp, t_chn, t_isn, t_isi, t_call, t_idx,
  c_t, c_o, c_seq, c_out, c_bind, c_of, c_rt, evF, evD, evR, ret, retB, varR_v, varR_o,
  b_ok, b_exc, o_some, f_ok, f_exc, p_some, s_nx, s_rt, s_ex, u_nx, u_rt, u_ex, dat_ok, datR_ok, frozen_ok, g_t, tr_none, tr_bool, tr_int, tr_nil, tr_cons, tr_tnil, tr_liD, tr_tD, try_ex, try_nx, try_rt, off_nx, off_rt, off_ex, ownAt_x, ownV_o, valI_x, valX_i, ownL_x, ownX_d, lstOf_liD, lstOf_list, frz1_x, frzX_o, frzX_v, frzX_n, frzA_n, frzA_c, i_tup, i_lst, i_int, i_boo, i_str, i_cls, k1, k2, k3, k4, k5, k6, k7, k8, k9, l1, l2, l3, l4, l5, l6, l7, isN1, isN2, isN3, isN4, isN5, isN6, isN7, mr1, mr2, mr3, intD_i, unp_p, unp_t, unp_l, bd_one, bd_p, bd_t, bds_n, bds_c, sa_n, sa_c, wi_n, wi_c,
  rI, rB, CU_ck, CU_gv, CU_sub, List.getElem?_cons_zero, List.getElem?_cons_succ, List.set_cons_zero, List.set_cons_succ, Option.bind_some, Option.bind_none, cond_true, cond_false, Bool.not_true, Bool.not_false, Bool.not_not, Bool.true_and, Bool.and_true, Bool.false_and, Bool.and_false, Bool.true_or, Bool.or_true, Bool.false_or, Bool.or_false, beq_self_eq_true, List.isEmpty_nil, $(⟨ts.elemsAndSeps⟩),*])
open PySem
def leE (a b : Nat × Nat) : Bool := leD (eD a) (eD b)
theorem leE_iff (a b : Nat × Nat) : leE a b = true ↔ ¬ ltE b a := by
  have h : leE a b = !PySem.W.dataLt (eD b) (eD a) := rfl
  have h2 : PySem.W.dataLt (eD b) (eD a) = decide ((b.1 : Int) < (a.1 : Int) ∨ ((b.1 : Int) = (a.1 : Int) ∧ (b.2 : Int) < (a.2 : Int))) := PySem.W.dataLt_ii _ _ _ _
  rw [h, h2]
  unfold ltE
  simp
  omega
theorem sorted_es {es : List (Nat × Nat)} (hl : es.length ≤ 16000000) : sortD (es.map eD) = some ((es.mergeSort leE).map eD) := by
  unfold sortD
  have g1 : allAlike (es.map eD) = true := by
    unfold allAlike
    rw [List.all_eq_true]
    intro x hx
    rw [List.all_eq_true]
    intro y hy
    obtain ⟨a, _, rfl⟩ := List.mem_map.mp hx
    obtain ⟨b, _, rfl⟩ := List.mem_map.mp hy
    rfl
  have g2 : (es.map eD).all SeqAt.shaped = true := by
    rw [List.all_eq_true]
    intro x hx
    obtain ⟨a, _, rfl⟩ := List.mem_map.mp hx
    exact (Enc.shp (f := eD) a).ok (by decide)
  have g3 : sortable (es.map eD) = true := by
    unfold sortable
    have : (es.map eD).all tupNe = true := by
      rw [List.all_eq_true]
      intro x hx
      obtain ⟨a, _, rfl⟩ := List.mem_map.mp hx
      rfl
    rw [this]; rfl
  rw [g1, g2, g3, sz_le (by rw [List.length_map]; exact hl)]
  show some ((es.map eD).mergeSort leD) = _
  rw [← List.map_mergeSort (r := leE) (s := leD) (f := eD) (fun a _ b _ => rfl)]
theorem sorted_lt {es : List (Nat × Nat)} (hn : es.Nodup) : (es.mergeSort leE).Pairwise ltE := by
  have hs : (es.mergeSort leE).Pairwise (fun a b => leE a b = true) := by
    refine List.pairwise_mergeSort (le := leE) (fun a b c h1 h2 => ?_) (fun a b => ?_) es
    · rw [leE_iff] at h1 h2 ⊢
      unfold ltE at h1 h2 ⊢
      omega
    · rw [Bool.or_eq_true, leE_iff, leE_iff]
      unfold ltE
      omega
  have hd : (es.mergeSort leE).Nodup := (List.mergeSort_perm es leE).nodup_iff.mpr hn
  refine (hs.and hd).imp fun {a b} h => ?_
  obtain ⟨h1, h2⟩ := h
  rw [leE_iff] at h1
  unfold ltE at h1 ⊢
  obtain ⟨a1, a2⟩ := a
  obtain ⟨b1, b2⟩ := b
  simp only [ne_eq, Prod.mk.injEq] at h2
  simp only at h1 ⊢
  omega

/-! RLD: the draws: rows, graphs, labels, renamings. -/
abbrev SD (ns : List Int) : D := .list (ns.map .int)
theorem row_nat (k : Nat) (ns : List Int) (i : Int) (hi : 0 ≤ i) : ∃ l : List Nat, callN U (k + 2) 69 [SD ns, .int i] = .ok (.dat (liD iD l)) ∧ l.length = 60 := by
  obtain ⟨l, h, hl, hv⟩ := row_ok (P := U) (n := k) rfl rfl ns i hi
  refine ⟨l.map Int.toNat, ?_, by simpa using hl⟩
  rw [h]
  unfold liD
  rw [List.map_map]
  congr 3
  apply List.map_congr_left
  intro v hv'
  have := (hv v hv').1
  show PyData.int v = .int ((v.toNat : Nat) : Int)
  rw [Int.toNat_of_nonneg this]
theorem bmod {a m : Nat} (h : 0 < m) : binD .mod (.int (a : Int)) (.int (m : Int)) = some (.int ((a % m : Nat) : Int)) := by
  show grdO (decide ((0 : Int) < (m : Int))) (rI ((a : Int) % (m : Int))) = _
  rw [decide_eq_true (by omega)]
  rfl
theorem baddN {a b : Nat} : binD .add (.int (a : Int)) (.int (b : Int)) = some (.int ((a + b : Nat) : Int)) := by
  show some (PyData.int ((a : Int) + (b : Int))) = _
  simp
theorem mod6 {a : Nat} : binD .mod (.int (a : Int)) (.int 6) = some (.int ((a % 6 : Nat) : Int)) := rfl
theorem six_at {a : Nat} : idxD (.dat (liD pm [0, 1, 2, 3, 4, 5])) (.int ((a % 6 : Nat) : Int)) = some (pm (Fin.ofNat 6 a)) := by
  have h : a % 6 < 6 := Nat.mod_lt _ (by decide)
  rw [idx_liD 0 (by simpa using h)]
  congr 2
  have : ∀ i : Nat, i < 6 → ([0, 1, 2, 3, 4, 5] : List (Fin 6)).getD i 0 = Fin.ofNat 6 i := by decide
  rw [this _ h]
  apply Fin.ext
  simp [Fin.ofNat]
/-! graphs -/
structure E1 (i : Nat) (es : List (Nat × Nat)) : Prop where
  len : es.length = i
  ed : ∀ e ∈ es, e.1 < e.2 ∧ e.2 ≤ i
  nd : es.Nodup
  dn : ∀ v, 0 < v → v ≤ i → ∃ u, u < v ∧ (u, v) ∈ es
structure E2 (n m : Nat) (es : List (Nat × Nat)) : Prop where
  el : es.length ≤ 9
  ed : ∀ e ∈ es, e.1 < e.2 ∧ e.2 < n
  nd : es.Nodup
  dn : Down n es
  ml : es.length ≤ m
theorem gr_of {n m : Nat} {es : List (Nat × Nat)} (h1 : 1 ≤ n) (h2 : n ≤ 6) (E : E2 n m es) : Gr n (es.mergeSort leE) where
  pos := h1
  le := h2
  el := by rw [List.length_mergeSort]; exact E.el
  ed := fun e he => E.ed e (List.mem_mergeSort.mp he)
  so := sorted_lt E.nd
  dn := fun v hv1 hv2 => by
    obtain ⟨u, hu, hm⟩ := E.dn v hv1 hv2
    exact ⟨u, hu, List.mem_mergeSort.mpr hm⟩
theorem range'_split {m n v : Nat} {pre post : List Nat} (h : List.range' m n = pre ++ v :: post) : v = m + pre.length ∧ pre.length < n := by
  have hl : pre.length < (List.range' m n).length := by rw [h]; simp
  have h1 : (List.range' m n)[pre.length]? = some v := by rw [h]; simp
  rw [List.length_range'] at hl
  rw [List.getElem?_range' hl] at h1
  simp at h1
  exact ⟨h1.symm, hl⟩
theorem range_split {n v : Nat} {pre post : List Nat} (h : List.range n = pre ++ v :: post) : v = pre.length ∧ pre.length < n := by
  rw [List.range_eq_range'] at h
  have := range'_split h
  omega
section
variable {S A M X : Option Sl} {l : List Nat} {n : Nat} {C : Cfg}
abbrev gEnv (S A M X : Option Sl) (l : List Nat) (n : Nat) (es : List (Nat × Nat)) (j : Option Sl × Option Sl × Option Sl × Option Sl × Option Sl) : Env :=
  [S, A, M, X, V (liD iD l), V (iD n), O (liD eD es), j.1, j.2.1, j.2.2.1, j.2.2.2.1, j.2.2.2.2]
theorem g_loop1 (hl : l.length = 60) (hn : n ≤ 6) (h1 : 1 ≤ n) :
    ∃ es j', forL (stepF C (.one 7) b_l_graph_0) ((List.range' 1 (n - 1)).map iD) (gEnv S A M X l n [] (none, none, none, none, none)) = .nx (gEnv S A M X l n es j') ∧ E1 (n - 1) es := by
  obtain ⟨h, j', e⟩ := forL_st (f := iD) (step := stepF C (.one 7) b_l_graph_0) (xs := List.range' 1 (n - 1)) (gEnv S A M X l n) (fun es v => es ++ [(l.getD v 0 % v, v)]) (fun pre es => E1 pre.length es) (s := []) (j := (none, none, none, none, none)) ⟨rfl, fun e he => (by cases he), by simp, fun v h1 h2 => by simp at h2; omega⟩ (fun pre v post es j he E => by
    obtain ⟨hv, hlt⟩ := range'_split he
    have hrl : l.getD v 0 % v < v := Nat.mod_lt _ (by omega)
    refine ⟨⟨by simp [E.len], ?_, ?_, ?_⟩, (V (iD v), j.2.1, j.2.2.1, j.2.2.2.1, j.2.2.2.2), ?_⟩
    · intro e he
      rw [List.length_append, List.length_singleton]
      rcases List.mem_append.mp he with z | z
      · have := E.ed e z; omega
      · have : e = (l.getD v 0 % v, v) := by simpa using z
        subst this
        simp only
        omega
    · rw [List.nodup_append]
      refine ⟨E.nd, by simp, fun e he e' he' => ?_⟩
      have : e' = (l.getD v 0 % v, v) := by simpa using he'
      subst this
      intro z
      subst z
      have := (E.ed _ he).2
      simp only at this
      omega
    · intro u hu1 hu2
      rw [List.length_append, List.length_singleton] at hu2
      by_cases hv' : u ≤ pre.length
      · obtain ⟨w, hw, hm⟩ := E.dn u hu1 hv'
        exact ⟨w, hw, List.mem_append_left _ hm⟩
      · have : u = v := by omega
        subst this
        exact ⟨_, hrl, by simp⟩
    · unfold stepF
      simp_all? [b_l_graph_0, idx_liD 0 (show v < l.length by omega), bmod (show 0 < v by omega), sz2, eD_tup, app_liD (f := eD) (xs := es) (by rw [E.len]; omega)])
  refine ⟨_, j', e, ?_⟩
  simpa using h
theorem g_loop2 (hl : l.length = 60) (h1 : 1 ≤ n) {m q : Nat} (hm : m ≤ 18) {es : List (Nat × Nat)} (E : E2 n q es) {j : Option Sl × Option Sl × Option Sl × Option Sl × Option Sl} :
    ∃ es' j', forL (stepF C (.one 8) b_l_graph_1) ((List.range m).map iD) (gEnv S A M X l n es j) = .nx (gEnv S A M X l n es' j') ∧ E2 n (q + m) es' := by
  let ed : Nat → Nat × Nat := fun i => (min (l.getD (21 + 2 * i) 0 % n) (l.getD (22 + 2 * i) 0 % n), max (l.getD (21 + 2 * i) 0 % n) (l.getD (22 + 2 * i) 0 % n))
  let g : List (Nat × Nat) → Nat → List (Nat × Nat) := fun es i => cond (!decide (l.getD (21 + 2 * i) 0 % n = l.getD (22 + 2 * i) 0 % n) && (!decide (ed i ∈ es) && decide (es.length < 9))) (es ++ [ed i]) es
  obtain ⟨h, j', e⟩ := forL_st (f := iD) (step := stepF C (.one 8) b_l_graph_1) (xs := List.range m) (gEnv S A M X l n) g (fun pre es => E2 n (q + pre.length) es) (s := es) (j := j) E (fun pre i post es j he E => by
    obtain ⟨hv, hlt⟩ := range_split he
    have hp : l.getD (21 + 2 * i) 0 % n < n := Nat.mod_lt _ (by omega)
    have hq : l.getD (22 + 2 * i) 0 % n < n := Nat.mod_lt _ (by omega)
    have i1 := idx_liD (f := iD) (xs := l) 0 (show 21 + 2 * i < l.length by omega)
    have i2 := idx_liD (f := iD) (xs := l) 0 (show 22 + 2 * i < l.length by omega)
    have b1 : binD .add (.int 21) (.int (2 * (i : Int))) = some (.int ((21 + 2 * i : Nat) : Int)) := by simp [binD, rI]
    have b2 : binD .add (.int 22) (.int (2 * (i : Int))) = some (.int ((22 + 2 * i : Nat) : Int)) := by simp [binD, rI]
    have b3 : binD .mul (.int 2) (.int (i : Int)) = some (.int (2 * (i : Int))) := rfl
    have l9 : decide ((es.length : Int) < 9) = decide (es.length < 9) := decide_eq_decide.mpr (by omega)
    have hst : stepF C (.one 8) b_l_graph_1 (gEnv S A M X l n es j) (iD i) = .nx (gEnv S A M X l n (g es i) (j.1, V (iD i), V (iD (l.getD (21 + 2 * i) 0 % n)), V (iD (l.getD (22 + 2 * i) 0 % n)), V (eD (ed i)))) := by
      unfold stepF
      simp_all? [b_l_graph_1, b1, b2, b3, i1, i2, bmod (show 0 < n by omega), min_ok, max_ok, sz2, eD_tup, cne, eqD_int, int_beq, cni, in_liD (f := eD) (by decide), len_liD, clt, l9]
      cases hb : (!decide (l.getD (21 + 2 * i) 0 % n = l.getD (22 + 2 * i) 0 % n) && (!decide (ed i ∈ es) && decide (es.length < 9))) with
      | false =>
        have : g es i = es := by simp only [g, hb, cond_false]
        rw [this]
        rfl
      | true =>
        have : g es i = es ++ [ed i] := by simp only [g, hb, cond_true]
        rw [this]
        simp only [Bool.and_eq_true, decide_eq_true_eq] at hb
        have ap := app_liD (f := eD) (xs := es) (a := ed i) (by omega)
        dsimp only [ed] at ap
        simp_all? [ap]
        rfl
    refine ⟨?_, _, hst⟩
    cases hb : (!decide (l.getD (21 + 2 * i) 0 % n = l.getD (22 + 2 * i) 0 % n) && (!decide (ed i ∈ es) && decide (es.length < 9))) with
    | false =>
      have : g es i = es := by simp only [g, hb, cond_false]
      rw [this]
      exact ⟨E.el, E.ed, E.nd, E.dn, by have := E.ml; simp; omega⟩
    | true =>
      have : g es i = es ++ [ed i] := by simp only [g, hb, cond_true]
      rw [this]
      simp only [Bool.and_eq_true, Bool.not_eq_true', decide_eq_true_eq, decide_eq_false_iff_not] at hb
      obtain ⟨b1, b2, b3⟩ := hb
      have ml := E.ml
      refine ⟨by simp; omega, ?_, ?_, ?_, by simp; omega⟩
      · intro e he
        rcases List.mem_append.mp he with z | z
        · exact E.ed e z
        · have : e = ed i := by simpa using z
          subst this
          simp only [ed]
          omega
      · rw [List.nodup_append]
        refine ⟨E.nd, by simp, fun e he e' he' => ?_⟩
        have : e' = ed i := by simpa using he'
        subst this
        intro z
        subst z
        exact b2 he
      · intro v hv1 hv2
        obtain ⟨u, hu, hm⟩ := E.dn v hv1 hv2
        exact ⟨u, hu, List.mem_append_left _ hm⟩)
  refine ⟨_, j', e, ?_⟩
  simpa using h
end
theorem graph_ok (k : Nat) (ns : List Int) (at_ : Int) (most extra : Nat) (hat : 0 ≤ at_) (hm : 1 ≤ most) (hm6 : most ≤ 6) (hx : extra ≤ 17) :
    ∃ n es, callN U (k + 3) 76 [SD ns, .int at_, .int most, .int extra] = .ok (.dat (gD n es)) ∧ Gr n es ∧ n ≤ most ∧ es.length + 1 ≤ n + extra := by
  obtain ⟨l, hr, hl⟩ := row_nat k ns at_ hat
  have hrl : l.getD 0 0 % most < most := Nat.mod_lt _ (by omega)
  have htl : l.getD 20 0 % (extra + 1) < extra + 1 := Nat.mod_lt _ (by omega)
  rw [call_l_graph]
  obtain ⟨es1, j1, lp1, E⟩ := g_loop1 (C := CU (k + 2)) (S := V (SD ns)) (A := V (.int at_)) (M := V (iD most)) (X := V (iD extra)) (l := l) (n := 1 + l.getD 0 0 % most) hl (by omega) (by omega)
  obtain ⟨es2, j2, lp2, E3⟩ := g_loop2 (C := CU (k + 2)) (S := V (SD ns)) (A := V (.int at_)) (M := V (iD most)) (X := V (iD extra)) (m := l.getD 20 0 % (extra + 1)) (q := l.getD 0 0 % most) hl (show 1 ≤ 1 + l.getD 0 0 % most by omega) (by omega) (j := j1) (⟨by rw [E.len]; omega, fun e he => by have := E.ed e he; omega, E.nd, fun v h1 h2 => E.dn v h1 (by omega), by rw [E.len]; omega⟩ : E2 _ _ es1)
  refine ⟨_, es2.mergeSort leE, ?_, gr_of (by omega) (by omega) E3, by omega, by rw [List.length_mergeSort]; have := E3.ml; omega⟩
  have i0 : idxD (.dat (liD iD l)) (.int 0) = some (.int (l.getD 0 0 : Nat)) := idx_liD 0 (i := 0) (by omega)
  have i20 : idxD (.dat (liD iD l)) (.int 20) = some (.int (l.getD 20 0 : Nat)) := idx_liD 0 (i := 20) (by omega)
  have ad : binD .add (.int 1) (.int ((l.getD 0 0 % most : Nat) : Int)) = some (.int ((1 + l.getD 0 0 % most : Nat) : Int)) := by simp [binD, rI]
  have ad2 : binD .add (.int (extra : Int)) (.int 1) = some (.int ((extra + 1 : Nat) : Int)) := rfl
  have x1 : exec (CU (k + 2)) [V (SD ns), V (.int at_), V (iD most), V (iD extra), V (liD iD l), V (iD (1 + l.getD 0 0 % most)), O (.list []), none, none, none, none, none] s_l_graph_0 = .nx (gEnv (V (SD ns)) (V (.int at_)) (V (iD most)) (V (iD extra)) l (1 + l.getD 0 0 % most) es1 j1) :=
    (w_for (va := .dat (.int 1)) (vb := .dat (iD (1 + l.getD 0 0 % most))) rfl rfl (items_rg2 (m := 1) (n := 1 + l.getD 0 0 % most) (by omega) (by omega))).trans lp1
  have x2 : exec (CU (k + 2)) (gEnv (V (SD ns)) (V (.int at_)) (V (iD most)) (V (iD extra)) l (1 + l.getD 0 0 % most) es1 j1) s_l_graph_1 = .nx (gEnv (V (SD ns)) (V (.int at_)) (V (iD most)) (V (iD extra)) l (1 + l.getD 0 0 % most) es2 j2) :=
    (w_for (va := .dat (iD (l.getD 20 0 % (extra + 1)))) (vb := .dat .none) (by simp_all? [gEnv, i20, ad2, bmod (show 0 < extra + 1 by omega)]) rfl (items_rg (n := l.getD 20 0 % (extra + 1)) (by omega))).trans lp2
  have so : fn1D .sorted (.dat (liD eD es2)) = some (liD eD (es2.mergeSort leE)) := by
    show (sortD (es2.map eD)).bind _ = _
    rw [sorted_es (by have := E3.el; omega)]
    rfl
  simp_all? [l_graph, hr, i0, bmod (show 0 < most by omega), ad, sz0, x1, x2, so, tup_liD, sz2]
  rfl
/-! labels, renamings -/
theorem labels_ok (k : Nat) (ns : List Int) (at_ : Int) (hat : 0 ≤ at_) {n : Nat} {es : List (Nat × Nat)} (he : es.length ≤ 9) : ∃ ls : List (Fin 6), callN U (k + 3) 79 [SD ns, .int at_, gD n es] = .ok (.dat (lD ls)) ∧ ls.length = es.length := by
  obtain ⟨l, hr, hl⟩ := row_nat k ns at_ hat
  refine ⟨(List.range es.length).map fun p => Fin.ofNat 6 (l.getD (30 + p) 0), ?_, by simp⟩
  rw [call_l_labels]
  have a30 : ∀ p : Nat, binD .add (.int 30) (.int (p : Int)) = some (.int ((30 + p : Nat) : Int)) := fun p => by simp [binD, rI]
  have e1 : ev (CU (k + 2)) [V (SD ns), V (.int at_), V (gD n es), V (liD iD l), none] c_l_labels_0 = ret (liD pm ((List.range es.length).map fun p => Fin.ofNat 6 (l.getD (30 + p) 0))) :=
    ev_cprE (xs := List.range es.length) (f := iD) (fun p => Fin.ofNat 6 (l.getD (30 + p) 0)) pm (ra := (false, .dat (iD es.length))) (rb := (false, .dat .none)) (by simp_all? [g1, len_tD]) rfl (items_rg (by omega)) (by simp; omega) (fun p hp => by
      have hp := List.mem_range.mp hp
      simp_all? [six_ok, a30, idx_liD (f := iD) 0 (show 30 + p < l.length by omega), mod6, six_at])
  simp_all? [l_labels, hr, e1, tup_liD]
theorem renaming_ok (k : Nat) (ns : List Int) (at_ : Int) (hat : 0 ≤ at_) {n : Nat} {es : List (Nat × Nat)} (hn : n ≤ 6) : ∃ rs : List (Fin 6), callN U (k + 3) 87 [SD ns, .int at_, gD n es] = .ok (.dat (lD rs)) ∧ rs.length = n := by
  obtain ⟨l, hr, hl⟩ := row_nat k ns at_ hat
  refine ⟨(List.range n).map fun p => Fin.ofNat 6 (l.getD (45 + p) 0), ?_, by simp⟩
  rw [call_l_renaming]
  have a45 : ∀ p : Nat, binD .add (.int 45) (.int (p : Int)) = some (.int ((45 + p : Nat) : Int)) := fun p => by simp [binD, rI]
  have e1 : ev (CU (k + 2)) [V (SD ns), V (.int at_), V (gD n es), V (liD iD l), none] c_l_renaming_0 = ret (liD pm ((List.range n).map fun p => Fin.ofNat 6 (l.getD (45 + p) 0))) :=
    ev_cprE (xs := List.range n) (f := iD) (fun p => Fin.ofNat 6 (l.getD (45 + p) 0)) pm (ra := (false, .dat (iD n))) (rb := (false, .dat .none)) (by simp_all? [g0]) rfl (items_rg (by omega)) (by simp; omega) (fun p hp => by
      have hp := List.mem_range.mp hp
      simp_all? [six_ok, a45, idx_liD (f := iD) 0 (show 45 + p < l.length by omega), mod6, six_at])
  simp_all? [l_renaming, hr, e1, tup_liD]
end RL
/-! RLK18: the law of exceptions. -/
namespace RL
local macro_rules
  | `(tactic| simp_all? [$ts,*]) => `(tactic| simp only [w_nil, w_cons, w_asg, w_newL, w_newD, w_newE, w_newT, w_unp, w_par, w_set, w_aug, w_app, w_ext, w_pop, w_exp, w_ite, w_ret, w_raise, w_raise1, w_frz, w_pass, w_try, w_hcons, w_hnil,
  e_con, e_glo, e_var, e_bin, e_neg, e_cmp, e_chn, e_isn, e_and, e_or, e_not, e_ite, e_tup, e_lst, e_idx, e_slf, e_slt, e_slb, e_rev, e_call, e_fn1, e_fn2, e_mt, e_isi, e_dc0, e_dc1, e_fld, e_fst, ef_nil, ef_cons, es_nil, es_cons, t_and, t_or, t_not, t_con, t_glo, t_var, t_cmp, t_chn, t_isn, t_isi, t_call, t_idx,
  c_t, c_o, c_seq, c_out, c_bind, c_of, c_rt, evF, evD, evR, ret, retB, varR_v, varR_o,
  b_ok, b_exc, o_some, f_ok, f_exc, p_some, s_nx, s_rt, s_ex, u_nx, u_rt, u_ex, dat_ok, datR_ok, frozen_ok, g_t, tr_none, tr_bool, tr_int, tr_nil, tr_cons, tr_tnil, tr_liD, tr_tD, try_ex, try_nx, try_rt, off_nx, off_rt, off_ex, ownAt_x, ownV_o, valI_x, valX_i, ownL_x, ownX_d, lstOf_liD, lstOf_list, frz1_x, frzX_o, frzX_v, frzX_n, frzA_n, frzA_c, i_tup, i_lst, i_int, i_boo, i_str, i_cls, k1, k2, k3, k4, k5, k6, k7, k8, k9, l1, l2, l3, l4, l5, l6, l7, isN1, isN2, isN3, isN4, isN5, isN6, isN7, mr1, mr2, mr3, intD_i, unp_p, unp_t, unp_l, bd_one, bd_p, bd_t, bds_n, bds_c, sa_n, sa_c, wi_n, wi_c,
  rI, rB, CU_ck, CU_gv, CU_sub, List.getElem?_cons_zero, List.getElem?_cons_succ, List.set_cons_zero, List.set_cons_succ, Option.bind_some, Option.bind_none, cond_true, cond_false, Bool.not_true, Bool.not_false, Bool.not_not, Bool.true_and, Bool.and_true, Bool.false_and, Bool.and_false, Bool.true_or, Bool.or_true, Bool.false_or, Bool.or_false, beq_self_eq_true, List.isEmpty_nil, $(⟨ts.elemsAndSeps⟩),*])
open PySem
theorem k18_m (S : D) (x5 x6 : Option Sl) : ∀ m : Nat, m < 15 → execs (CU 19) [V S, V (.int (m : Int)), none, none, none, none, none] (law_k18.body.drop 1) = .rt (.dat (.bool true)) := by
  intro m hm
  match m, hm with
  | 0, _ => kernel_rfl
  | 1, _ => kernel_rfl
  | 2, _ => kernel_rfl
  | 3, _ => kernel_rfl
  | 4, _ => kernel_rfl
  | 5, _ => kernel_rfl
  | 6, _ => kernel_rfl
  | 7, _ => kernel_rfl
  | 8, _ => kernel_rfl
  | 9, _ => kernel_rfl
  | 10, _ => kernel_rfl
  | 11, _ => kernel_rfl
  | 12, _ => kernel_rfl
  | 13, _ => kernel_rfl
  | 14, _ => kernel_rfl
  | m + 15, h => omega
theorem k18_ok (ns : List Int) : callN U 20 318 [SD ns] = .ok (.dat (.bool true)) := by
  obtain ⟨z, hz⟩ := cell_ok (P := U) (n := 18) rfl ns 0 (by decide)
  obtain ⟨m, hm⟩ : ∃ m : Nat, z % 15 = (m : Int) := ⟨(z % 15).toNat, by have := Int.emod_nonneg z (show (15 : Int) ≠ 0 by decide); omega⟩
  have hlt : m < 15 := by have := Int.emod_lt_of_pos z (show (0 : Int) < 15 by decide); omega
  have md : binD .mod (.int z) (.int 15) = some (.int (m : Int)) := by
    rw [← hm]; rfl
  have e : law_k18.body = law_k18.body.take 1 ++ law_k18.body.drop 1 := rfl
  have h1 : exec (CU 19) [V (SD ns), none, none, none, none, none, none] (.asg 1 (.bin .mod (.call 68 [(.var 0), (.con (.int 0))]) (.con (.int 15)))) = .nx [V (SD ns), V (.int (m : Int)), none, none, none, none, none] := by
    simp_all? [hz, md]
  rw [call_k18]
  show outcome ((exec (CU 19) [V (SD ns), none, none, none, none, none, none] (.asg 1 (.bin .mod (.call 68 [(.var 0), (.con (.int 0))]) (.con (.int 15))))).seq fun r => execs (CU 19) r (law_k18.body.drop 1)) = _
  rw [h1, s_nx, k18_m _ none none m hlt]
  rfl
end RL
namespace RL
open PySem PySem.Spec PyProof.Rows L2
def top (i : Nat) : Stmt := PySem.Challenge.pw_renamedlabels_k18_exceptions.main.body.getD i (.Pass ⟨0, 0, 0, 0⟩)
def i_law : DefI := ⟨0, "law", top 84, ["script", "mode", "found", "is_under", "line_here", "e", "at"], ["script"], law_k18, none, "law"⟩
def i_in_range : DefI := ⟨1, "in_range", top 21, ["value", "low", "high"], ["value", "low", "high"], f_in_range, none, "in_range"⟩
def i_is_permutation : DefI := ⟨2, "is_permutation", top 22, ["value", "one"], ["value"], f_is_permutation, none, "is_permutation"⟩
def i_check_permutation : DefI := ⟨3, "check_permutation", top 23, ["value"], ["value"], f_check_permutation, none, "check_permutation"⟩
def i_after : DefI := ⟨4, "after", top 24, ["one", "other", "name"], ["one", "other"], f_after, none, "after"⟩
def i_opposite : DefI := ⟨5, "opposite", top 25, ["one", "name"], ["one"], f_opposite, none, "opposite"⟩
def i_inverse : DefI := ⟨7, "inverse", top 26, ["one"], ["one"], f_inverse, none, "inverse"⟩
def i_is_edge : DefI := ⟨8, "is_edge", top 31, ["vertices", "value"], ["vertices", "value"], f_is_edge, none, "is_edge"⟩
def i_tree_of : DefI := ⟨9, "tree_of", top 32, ["graph", "found", "queue", "vertex", "edge", "other"], ["graph"], f_tree_of, none, "tree_of"⟩
def i_is_graph : DefI := ⟨10, "is_graph", top 33, ["value", "edge", "following"], ["value"], f_is_graph, none, "is_graph"⟩
def i_check_graph : DefI := ⟨11, "check_graph", top 34, ["graph"], ["graph"], f_check_graph, none, "check_graph"⟩
def i_are_labels : DefI := ⟨12, "are_labels", top 35, ["graph", "value", "one"], ["graph", "value"], f_are_labels, none, "are_labels"⟩
def i_check_labels : DefI := ⟨13, "check_labels", top 36, ["graph", "labels"], ["graph", "labels"], f_check_labels, none, "check_labels"⟩
def i_is_walk : DefI := ⟨14, "is_walk", top 38, ["graph", "value", "vertex", "one", "other"], ["graph", "value"], f_is_walk, none, "is_walk"⟩
def i_step_label : DefI := ⟨15, "step_label", top 39, ["graph", "labels", "one", "other"], ["graph", "labels", "one", "other"], f_step_label, none, "step_label"⟩
def i_product_of : DefI := ⟨16, "product_of", top 40, ["graph", "labels", "walk", "result", "one", "other"], ["graph", "labels", "walk"], f_product_of, none, "product_of"⟩
def i_product : DefI := ⟨17, "product", top 41, ["graph", "labels", "walk"], ["graph", "labels", "walk"], f_product, none, "product"⟩
def i_loops_of : DefI := ⟨18, "loops_of", top 42, ["graph", "tree", "result", "one", "other"], ["graph"], f_loops_of, none, "loops_of"⟩
def i_loops : DefI := ⟨19, "loops", top 43, ["graph"], ["graph"], f_loops, none, "loops"⟩
def i_format_labels : DefI := ⟨20, "format_labels", top 46, ["graph", "labels", "lines", "one", "other", "names", "word", "name"], ["graph", "labels"], f_format_labels, none, "format_labels"⟩
def i_is_renaming : DefI := ⟨21, "is_renaming", top 50, ["graph", "value", "one"], ["graph", "value"], f_is_renaming, none, "is_renaming"⟩
def i_renamed_labels : DefI := ⟨22, "renamed_labels", top 51, ["graph", "labels", "renaming", "result", "one", "other", "label"], ["graph", "labels", "renaming"], f_renamed_labels, none, "renamed_labels"⟩
def i_rename : DefI := ⟨23, "rename", top 52, ["graph", "labels", "renaming"], ["graph", "labels", "renaming"], f_rename, none, "rename"⟩
def i_tree_renaming : DefI := ⟨24, "tree_renaming", top 54, ["graph", "labels", "names", "tree", "vertex"], ["graph", "labels", "names"], f_tree_renaming, none, "tree_renaming"⟩
def i_check_pair : DefI := ⟨25, "check_pair", top 55, ["graph", "one", "other"], ["graph", "one", "other"], f_check_pair, none, "check_pair"⟩
def i_matching : DefI := ⟨26, "matching", top 56, ["graph", "one", "other", "back", "names", "forth", "renaming", "first", "second"], ["graph", "one", "other"], f_matching, none, "matching"⟩
def i_least_alike : DefI := ⟨29, "least_alike", top 70, ["graph", "labels", "names"], ["graph", "labels"], f_least_alike, none, "least_alike"⟩
def i_all_kinds : DefI := ⟨30, "all_kinds", top 71, ["graph", "tree", "rows", "one", "other", "in_tree", "longer", "labels", "names"], ["graph"], f_all_kinds, none, "all_kinds"⟩
def i_changes : DefI := ⟨31, "changes", top 73, ["graph", "labels", "walk", "row", "name"], ["graph", "labels", "walk"], f_changes, none, "changes"⟩
def i_are_answers : DefI := ⟨32, "are_answers", top 74, ["graph", "value", "answer"], ["graph", "value"], f_are_answers, none, "are_answers"⟩
def i_candidates : DefI := ⟨33, "candidates", top 75, ["graph", "answers", "every", "result", "labels", "walk", "told"], ["graph", "answers"], f_candidates, none, "candidates"⟩
def i_check_vertex : DefI := ⟨39, "check_vertex", top 37, ["graph", "vertex"], ["graph", "vertex"], f_check_vertex, none, "check_vertex"⟩
def i_rename_at : DefI := ⟨40, "rename_at", top 53, ["graph", "labels", "vertex", "names", "one"], ["graph", "labels", "vertex", "names"], f_rename_at, none, "rename_at"⟩
def i_turned : DefI := ⟨41, "turned", top 27, ["one", "names"], ["one", "names"], f_turned, none, "turned"⟩
def i_renaming_between : DefI := ⟨42, "renaming_between", top 57, ["graph", "one", "other", "found"], ["graph", "one", "other"], f_renaming_between, none, "renaming_between"⟩
def i_fits : DefI := ⟨43, "fits", top 58, ["graph", "one", "other", "walks", "names", "walk"], ["graph", "one", "other", "walks", "names"], f_fits, none, "fits"⟩
def i_is_unmatched : DefI := ⟨44, "is_unmatched", top 59, ["graph", "one", "other", "walks", "names"], ["graph", "one", "other", "walks"], f_is_unmatched, none, "is_unmatched"⟩
def i_paper : DefI := ⟨45, "paper", top 60, ["graph", "one", "other", "walks", "place", "fewer"], ["graph", "one", "other"], f_paper, none, "paper"⟩
def i_kinds : DefI := ⟨48, "kinds", top 72, ["graph"], ["graph"], f_kinds, none, "kinds"⟩
def i_crooked : DefI := ⟨51, "crooked", top 77, ["graph", "labels", "walk"], ["graph", "labels"], f_crooked, none, "crooked"⟩
def i_is_straight : DefI := ⟨52, "is_straight", top 78, ["graph", "labels"], ["graph", "labels"], f_is_straight, none, "is_straight"⟩
def i_straightening : DefI := ⟨54, "straightening", top 79, ["graph", "labels"], ["graph", "labels"], f_straightening, none, "straightening"⟩
def i_parse_line : DefI := ⟨57, "parse_line", top 47, ["line", "is_first", "tokens", "known", "signs", "numbers", "sign"], ["line", "is_first"], f_parse_line, none, "parse_line"⟩
def i_parse_labels : DefI := ⟨58, "parse_labels", top 48, ["text", "rows", "number", "line", "row", "graph", "labels"], ["text"], f_parse_labels, none, "parse_labels"⟩
def i_is_odd : DefI := ⟨59, "is_odd", top 64, ["one", "name"], ["one"], f_is_odd, none, "is_odd"⟩
def i_odd_loop : DefI := ⟨60, "odd_loop", top 65, ["graph", "labels", "walk"], ["graph", "labels"], f_odd_loop, none, "odd_loop"⟩
def i_halves : DefI := ⟨61, "halves", top 66, ["graph", "labels", "tree", "vertex"], ["graph", "labels"], f_halves, none, "halves"⟩
def i_odd_walk : DefI := ⟨62, "odd_walk", top 67, ["graph", "labels", "found"], ["graph", "labels"], f_odd_walk, none, "odd_walk"⟩
def i_law_cell : DefI := ⟨68, "_law_cell", top 81, ["script", "k"], ["script", "k"], l_cell, none, "_law_cell"⟩
def i_law_raise : DefI := ⟨104, "_law_raise", top 82, ["mode", "graph", "labels"], ["mode"], l_raise, none, "_law_raise"⟩
def i_law_raise_more : DefI := ⟨105, "_law_raise_more", top 83, ["mode", "ring", "same"], ["mode"], l_raise_more, none, "_law_raise_more"⟩
def meth (s : Stmt) (j : Nat) : Stmt := match s with
  | .ClassDef _ _ _ b _ _ _ _ _ _ _ => b.getD j (.Pass ⟨0, 0, 0, 0⟩)
  | _ => .Pass ⟨0, 0, 0, 0⟩
def i_pe_init : DefI := ⟨152, "__init__", meth (top 3) 0, ["self", "line"], ["self", "line"], f_pe_init, some "ParseError", "ParseError.__init__"⟩
def f_dk_init : Fn := ⟨3, 3, [.pass, .pass, .pass, .pass]⟩
def i_dk_init : DefI := ⟨153, "__init__", meth (top 62) 0, ["self", "graph", "labels"], ["self", "graph", "labels"], f_dk_init, some "Desk", "Desk.__init__"⟩
def f_dk_undo : Fn := ⟨1, 1, [.pass, .pass, .pass]⟩
def i_dk_undo : DefI := ⟨154, "undo", meth (top 62) 7, ["self"], ["self"], f_dk_undo, some "Desk", "Desk.undo"⟩
def defs : List DefI := [i_law, i_in_range, i_is_permutation, i_check_permutation, i_after, i_opposite, i_inverse, i_is_edge, i_tree_of, i_is_graph, i_check_graph, i_are_labels, i_check_labels, i_is_walk, i_step_label, i_product_of, i_product, i_loops_of, i_loops, i_format_labels, i_is_renaming, i_renamed_labels, i_rename, i_tree_renaming, i_check_pair, i_matching, i_least_alike, i_all_kinds, i_changes, i_are_answers, i_candidates, i_check_vertex, i_rename_at, i_turned, i_renaming_between, i_fits, i_is_unmatched, i_paper, i_kinds, i_crooked, i_is_straight, i_straightening, i_parse_line, i_parse_labels, i_is_odd, i_odd_loop, i_halves, i_odd_walk, i_law_cell, i_law_raise, i_law_raise_more, i_pe_init, i_dk_init, i_dk_undo]
def tabF0 : List (Option Str) := [some "law", some "in_range", some "is_permutation", some "check_permutation", some "after", some "opposite", none, some "inverse", some "is_edge", some "tree_of", some "is_graph", some "check_graph", some "are_labels", some "check_labels", some "is_walk", some "step_label", some "product_of", some "product", some "loops_of", some "loops", some "format_labels", some "is_renaming", some "renamed_labels", some "rename", some "tree_renaming"]
def tabF1 : List (Option Str) := [some "check_pair", some "matching", none, none, some "least_alike", some "all_kinds", some "changes", some "are_answers", some "candidates", none, none, none, none, none, some "check_vertex", some "rename_at", some "turned", some "renaming_between", some "fits", some "is_unmatched", some "paper", none, none, some "kinds", none]
def tabF2 : List (Option Str) := [none, some "crooked", some "is_straight", none, some "straightening", none, none, some "parse_line", some "parse_labels", some "is_odd", some "odd_loop", some "halves", some "odd_walk", none, none, none, none, none, some "_law_cell", none, none, none, none, none, none]
def tabF3 : List (Option Str) := [none, none, none, none, none, none, none, none, none, none, none, none, none, none, none, none, none, none, none, none, none, none, none, none, none]
def tabF4 : List (Option Str) := [none, none, none, none, some "_law_raise", some "_law_raise_more"]
def tabF : List (Option Str) := tabF0 ++ tabF1 ++ tabF2 ++ tabF3 ++ tabF4
def tabG : List (Option Str) := [some "SAME", some "ALL", some "MAX_VERTICES", some "MAX_EDGES", some "MAX_LOOPS", some "DIGITS"]
def tabC : List (Option Str) := [some "LabelError", some "ParseError", some "InvalidGraph", some "InvalidLabels", some "InvalidNames", some "InvalidRenaming", some "InvalidVertex", some "InvalidWalk", some "InvalidAnswers", some "NotAlike", some "Alike", some "NotStraight", some "NoHalves", some "HalvesExist", some "TooMany", some "NothingToUndo"]
def tab : Tab := ⟨tabF, tabG, tabC, [], (List.replicate 170 (none : Option Str)) ++ ([some "Desk"] : List (Option Str))⟩
def Pg : Prg := prg defs gvT subT
def setS : List Nat := [1, 2, 3, 4, 5, 7, 8, 9, 10, 11, 12, 13, 14, 15, 16, 17, 18, 19, 20, 21, 22, 23, 24, 25, 26, 29, 30, 31, 32, 33, 39, 40, 41, 42, 43, 44, 45, 48, 51, 52, 54, 57, 58, 59, 60, 61, 62, 68, 104, 105, 170, 171]
def inS (f : Nat) : Bool := setS.contains f
theorem same : Same2 Pg U inS := by
  refine ⟨fun f hf => ?_, rfl, rfl⟩
  have h : f ∈ setS := by simpa [inS] using hf
  clear hf
  simp only [setS, List.mem_cons, List.not_mem_nil, or_false] at h
  rcases h with rfl | rfl | rfl | rfl | rfl | rfl | rfl | rfl | rfl | rfl | rfl | rfl | rfl | rfl | rfl | rfl | rfl | rfl | rfl | rfl | rfl | rfl | rfl | rfl | rfl | rfl | rfl | rfl | rfl | rfl | rfl | rfl | rfl | rfl | rfl | rfl | rfl | rfl | rfl | rfl | rfl | rfl | rfl | rfl | rfl | rfl | rfl | rfl | rfl | rfl | rfl | rfl
  · exact ⟨f_in_range, rfl, rfl, by decide +kernel⟩
  · exact ⟨f_is_permutation, rfl, rfl, by decide +kernel⟩
  · exact ⟨f_check_permutation, rfl, rfl, by decide +kernel⟩
  · exact ⟨f_after, rfl, rfl, by decide +kernel⟩
  · exact ⟨f_opposite, rfl, rfl, by decide +kernel⟩
  · exact ⟨f_inverse, rfl, rfl, by decide +kernel⟩
  · exact ⟨f_is_edge, rfl, rfl, by decide +kernel⟩
  · exact ⟨f_tree_of, rfl, rfl, by decide +kernel⟩
  · exact ⟨f_is_graph, rfl, rfl, by decide +kernel⟩
  · exact ⟨f_check_graph, rfl, rfl, by decide +kernel⟩
  · exact ⟨f_are_labels, rfl, rfl, by decide +kernel⟩
  · exact ⟨f_check_labels, rfl, rfl, by decide +kernel⟩
  · exact ⟨f_is_walk, rfl, rfl, by decide +kernel⟩
  · exact ⟨f_step_label, rfl, rfl, by decide +kernel⟩
  · exact ⟨f_product_of, rfl, rfl, by decide +kernel⟩
  · exact ⟨f_product, rfl, rfl, by decide +kernel⟩
  · exact ⟨f_loops_of, rfl, rfl, by decide +kernel⟩
  · exact ⟨f_loops, rfl, rfl, by decide +kernel⟩
  · exact ⟨f_format_labels, rfl, rfl, by decide +kernel⟩
  · exact ⟨f_is_renaming, rfl, rfl, by decide +kernel⟩
  · exact ⟨f_renamed_labels, rfl, rfl, by decide +kernel⟩
  · exact ⟨f_rename, rfl, rfl, by decide +kernel⟩
  · exact ⟨f_tree_renaming, rfl, rfl, by decide +kernel⟩
  · exact ⟨f_check_pair, rfl, rfl, by decide +kernel⟩
  · exact ⟨f_matching, rfl, rfl, by decide +kernel⟩
  · exact ⟨f_least_alike, rfl, rfl, by decide +kernel⟩
  · exact ⟨f_all_kinds, rfl, rfl, by decide +kernel⟩
  · exact ⟨f_changes, rfl, rfl, by decide +kernel⟩
  · exact ⟨f_are_answers, rfl, rfl, by decide +kernel⟩
  · exact ⟨f_candidates, rfl, rfl, by decide +kernel⟩
  · exact ⟨f_check_vertex, rfl, rfl, by decide +kernel⟩
  · exact ⟨f_rename_at, rfl, rfl, by decide +kernel⟩
  · exact ⟨f_turned, rfl, rfl, by decide +kernel⟩
  · exact ⟨f_renaming_between, rfl, rfl, by decide +kernel⟩
  · exact ⟨f_fits, rfl, rfl, by decide +kernel⟩
  · exact ⟨f_is_unmatched, rfl, rfl, by decide +kernel⟩
  · exact ⟨f_paper, rfl, rfl, by decide +kernel⟩
  · exact ⟨f_kinds, rfl, rfl, by decide +kernel⟩
  · exact ⟨f_crooked, rfl, rfl, by decide +kernel⟩
  · exact ⟨f_is_straight, rfl, rfl, by decide +kernel⟩
  · exact ⟨f_straightening, rfl, rfl, by decide +kernel⟩
  · exact ⟨f_parse_line, rfl, rfl, by decide +kernel⟩
  · exact ⟨f_parse_labels, rfl, rfl, by decide +kernel⟩
  · exact ⟨f_is_odd, rfl, rfl, by decide +kernel⟩
  · exact ⟨f_odd_loop, rfl, rfl, by decide +kernel⟩
  · exact ⟨f_halves, rfl, rfl, by decide +kernel⟩
  · exact ⟨f_odd_walk, rfl, rfl, by decide +kernel⟩
  · exact ⟨l_cell, rfl, rfl, by decide +kernel⟩
  · exact ⟨l_raise, rfl, rfl, by decide +kernel⟩
  · exact ⟨l_raise_more, rfl, rfl, by decide +kernel⟩
  · exact ⟨_, rfl, rfl, by decide +kernel⟩
  · exact ⟨_, rfl, rfl, by decide +kernel⟩
theorem law_ev (ns : List Int) : callN Pg 20 0 [.list (ns.map .int)] = .ok (.dat (.bool true)) := by
  rw [law_loc same (n := 19) (f := 0) (g := 318) (d := law_k18) rfl rfl (by decide +kernel)]
  exact k18_ok ns
end RL
namespace RL
open PySem PySem.Spec PyProof.Rows L2
theorem st_ok : stB tab defs = true := by decide +kernel
theorem bi_ok : AllB defs := ⟨fun _ _ _ _ _ _ us hl => match us, hl with | [_], _ => rfl, fun _ _ _ _ _ _ us hl => match us, hl with | [_, _, _], _ => rfl, fun _ _ _ _ _ _ us hl => match us, hl with | [_], _ => rfl, fun _ _ _ _ _ _ us hl => match us, hl with | [_], _ => rfl, fun _ _ _ _ _ _ us hl => match us, hl with | [_, _], _ => rfl, fun _ _ _ _ _ _ us hl => match us, hl with | [_], _ => rfl, fun _ _ _ _ _ _ us hl => match us, hl with | [_], _ => rfl, fun _ _ _ _ _ _ us hl => match us, hl with | [_, _], _ => rfl, fun _ _ _ _ _ _ us hl => match us, hl with | [_], _ => rfl, fun _ _ _ _ _ _ us hl => match us, hl with | [_], _ => rfl, fun _ _ _ _ _ _ us hl => match us, hl with | [_], _ => rfl, fun _ _ _ _ _ _ us hl => match us, hl with | [_, _], _ => rfl, fun _ _ _ _ _ _ us hl => match us, hl with | [_, _], _ => rfl, fun _ _ _ _ _ _ us hl => match us, hl with | [_, _], _ => rfl, fun _ _ _ _ _ _ us hl => match us, hl with | [_, _, _, _], _ => rfl, fun _ _ _ _ _ _ us hl => match us, hl with | [_, _, _], _ => rfl, fun _ _ _ _ _ _ us hl => match us, hl with | [_, _, _], _ => rfl, fun _ _ _ _ _ _ us hl => match us, hl with | [_], _ => rfl, fun _ _ _ _ _ _ us hl => match us, hl with | [_], _ => rfl, fun _ _ _ _ _ _ us hl => match us, hl with | [_, _], _ => rfl, fun _ _ _ _ _ _ us hl => match us, hl with | [_, _], _ => rfl, fun _ _ _ _ _ _ us hl => match us, hl with | [_, _, _], _ => rfl, fun _ _ _ _ _ _ us hl => match us, hl with | [_, _, _], _ => rfl, fun _ _ _ _ _ _ us hl => match us, hl with | [_, _, _], _ => rfl, fun _ _ _ _ _ _ us hl => match us, hl with | [_, _, _], _ => rfl, fun _ _ _ _ _ _ us hl => match us, hl with | [_, _, _], _ => rfl, fun _ _ _ _ _ _ us hl => match us, hl with | [_, _], _ => rfl, fun _ _ _ _ _ _ us hl => match us, hl with | [_], _ => rfl, fun _ _ _ _ _ _ us hl => match us, hl with | [_, _, _], _ => rfl, fun _ _ _ _ _ _ us hl => match us, hl with | [_, _], _ => rfl, fun _ _ _ _ _ _ us hl => match us, hl with | [_, _], _ => rfl, fun _ _ _ _ _ _ us hl => match us, hl with | [_, _], _ => rfl, fun _ _ _ _ _ _ us hl => match us, hl with | [_, _, _, _], _ => rfl, fun _ _ _ _ _ _ us hl => match us, hl with | [_, _], _ => rfl, fun _ _ _ _ _ _ us hl => match us, hl with | [_, _, _], _ => rfl, fun _ _ _ _ _ _ us hl => match us, hl with | [_, _, _, _, _], _ => rfl, fun _ _ _ _ _ _ us hl => match us, hl with | [_, _, _, _], _ => rfl, fun _ _ _ _ _ _ us hl => match us, hl with | [_, _, _], _ => rfl, fun _ _ _ _ _ _ us hl => match us, hl with | [_], _ => rfl, fun _ _ _ _ _ _ us hl => match us, hl with | [_, _], _ => rfl, fun _ _ _ _ _ _ us hl => match us, hl with | [_, _], _ => rfl, fun _ _ _ _ _ _ us hl => match us, hl with | [_, _], _ => rfl, fun _ _ _ _ _ _ us hl => match us, hl with | [_, _], _ => rfl, fun _ _ _ _ _ _ us hl => match us, hl with | [_], _ => rfl, fun _ _ _ _ _ _ us hl => match us, hl with | [_], _ => rfl, fun _ _ _ _ _ _ us hl => match us, hl with | [_, _], _ => rfl, fun _ _ _ _ _ _ us hl => match us, hl with | [_, _], _ => rfl, fun _ _ _ _ _ _ us hl => match us, hl with | [_, _], _ => rfl, fun _ _ _ _ _ _ us hl => match us, hl with | [_, _], _ => rfl, fun _ _ _ _ _ _ us hl => match us, hl with | [_], _ => rfl, fun _ _ _ _ _ _ us hl => match us, hl with | [_], _ => rfl, fun _ _ _ _ _ _ us hl => match us, hl with | [_, _], _ => rfl, fun _ _ _ _ _ _ us hl => match us, hl with | [_, _, _], _ => rfl, fun _ _ _ _ _ _ us hl => match us, hl with | [_], _ => rfl, trivial⟩
abbrev hk : W.Hook := hookR 5 (exB tab gvT subT) (defs.map DefI.d)
def ob (s : W.SharedT) : He.AlD := obsR 5 (exB tab gvT subT) (defs.map DefI.d) (HandSHeadRun.getT s)
theorem ob_eq (s : W.SharedT) : ob s = hk.obs s.abs := obsR_eq (HandSHeadRun.getT_eq s)
abbrev R : W.OpenRow := W.OpenLaw.row PySem.Challenge.rw_renamedlabels_k18_exceptions
def loo0 : List Str := ["_wall", "__name__", "LabelError", "ParseError", "InvalidGraph", "InvalidLabels", "InvalidNames", "InvalidRenaming", "InvalidVertex", "InvalidWalk", "InvalidAnswers", "NotAlike", "Alike", "NotStraight", "NoHalves", "HalvesExist", "TooMany", "NothingToUndo", "SAME", "ALL"]
def loo1 : List Str := ["in_range", "is_permutation", "check_permutation", "after", "opposite", "inverse", "turned", "MAX_VERTICES", "MAX_EDGES", "is_edge", "tree_of", "is_graph", "check_graph", "are_labels", "check_labels", "check_vertex", "is_walk", "step_label", "product_of", "product"]
def loo2 : List Str := ["loops_of", "loops", "DIGITS", "format_labels", "parse_line", "parse_labels", "is_renaming", "renamed_labels", "rename", "rename_at", "tree_renaming", "check_pair", "matching", "renaming_between", "fits", "is_unmatched", "paper", "Desk", "is_odd", "odd_loop"]
def loo3 : List Str := ["halves", "odd_walk", "MAX_LOOPS", "least_alike", "all_kinds", "kinds", "changes", "are_answers", "candidates", "crooked", "is_straight", "straightening", "_law_cell", "_law_raise", "_law_raise_more"]
def loose : List Str := loo0 ++ loo1 ++ loo2 ++ loo3
theorem run_join {S : Type} {b c : Type} {e : Option S} {f1 g1 g2 : S → Bool} {f2 : S → b} {g3 : S → c} {y : b} {z : c} (h1 : e.map f1 = some true) (h2 : e.map f2 = some y) (h3 : e.map g1 = some true) (h4 : e.map g2 = some true) (h5 : e.map g3 = some z) : e.map (fun s => (f1 s, f2 s, ((g1 s && g2 s), g3 s))) = some (true, y, (true, z)) := by
  cases e with
  | none => cases h1
  | some s =>
    have h1 : f1 s = true := Option.some.inj h1
    have h2 : f2 s = y := Option.some.inj h2
    have h3 : g1 s = true := Option.some.inj h3
    have h4 : g2 s = true := Option.some.inj h4
    have h5 : g3 s = z := Option.some.inj h5
    show some (f1 s, f2 s, ((g1 s && g2 s), g3 s)) = _
    rw [h1, h2, h3, h4, h5]; rfl
open HandSHeadRun PySem.W PySem.Calls He in
theorem run_A (w : World) (os : OsState) : (endF (stepQ (denQ tabQ) R.prog w) 9000 R.prog w os).map (fun s => looksF R.prog (boot_heap w.params) s.abs) = some true := by
  kernel_rfl
open HandSHeadRun PySem.W PySem.Calls He in
theorem run_B (w : World) (os : OsState) : (endF (stepQ (denQ tabQ) R.prog w) 9000 R.prog w os).map (fun s => seenQ (W.view R.prog [84]) loose (importedModules R.prog.main.body) (fun s => xlAt (W.view R.prog [84]) [] s && recOk R.toRowW.records s) s.abs) = some (openGood (W.view R.prog [84]) loose) := by
  kernel_rfl
open HandSHeadRun PySem.W PySem.Calls He in
theorem run_C1 (w : World) (os : OsState) : (endF (stepQ (denQ tabQ) R.prog w) 9000 R.prog w os).map (fun s => exB tab gvT subT (frG (getT s) (asD (getT s) 5 ++ [cStatics]))) = some true := by
  kernel_rfl
open HandSHeadRun PySem.W PySem.Calls He in
theorem run_C2 (w : World) (os : OsState) : (endF (stepQ (denQ tabQ) R.prog w) 9000 R.prog w os).map (fun s => (defs.map DefI.d).all fun d => d.ok (frG (getT s) (asD (getT s) 5 ++ [cStatics]))) = some true := by
  kernel_rfl
open HandSHeadRun PySem.W PySem.Calls He in
theorem run_C3 (w : World) (os : OsState) : (endF (stepQ (denQ tabQ) R.prog w) 9000 R.prog w os).map (fun s => (defs.map DefI.d).map fun d => fnW (frG (getT s) (asD (getT s) 5 ++ [cStatics])) d.at_) = some (valD (defs.map DefI.d)).2 := by
  kernel_rfl
theorem run_join2 {S : Type} {b c : Type} {e : Option S} {f1 g1 g2 : S → Bool} {f2 : S → b} {g3 : S → c} {y : b} {z : c} {f3 : S → Bool × c} {v : Bool × c} (hf : ∀ s, f3 s = (g1 s && g2 s, g3 s)) (hv : v = (true, z)) (h1 : e.map f1 = some true) (h2 : e.map f2 = some y) (h3 : e.map g1 = some true) (h4 : e.map g2 = some true) (h5 : e.map g3 = some z) : e.map (fun s => (f1 s, f2 s, f3 s)) = some (true, y, v) := by
  have : f3 = fun s => (g1 s && g2 s, g3 s) := funext hf
  subst this
  subst hv
  exact run_join h1 h2 h3 h4 h5
open HandSHeadRun PySem.W PySem.Calls He in
theorem run (w : World) : HandSHeadRun.RunEq R (W.view R.prog [84]) hk ob 9000 loose w := by
  intro os
  exact run_join2 (f3 := ob) (v := valD (defs.map DefI.d)) (fun _ => rfl) rfl (run_A w os) (run_B w os) (run_C1 w os) (run_C2 w os) (run_C3 w os)
theorem fin {n : Nat} (hr : Room (n + 1 + 8) callerA) (hev : ∀ ns : List Int, ns.length ≤ 63 → callN Pg (n + 1) 0 [.list (ns.map .int)] = .ok (.dat (.bool true))) : PySem.Challenge.rw_renamedlabels_k18_exceptions.Holds := by
  w_on; o_law
  refine HandSHeadRun.head_any (r := W.OpenLaw.row PySem.Challenge.rw_renamedlabels_k18_exceptions) (q := W.view (W.OpenLaw.row PySem.Challenge.rw_renamedlabels_k18_exceptions).prog [84]) (H := hk) (ob := ob) (M := 9000) (loose := loose) (d := HandSHeadRun.topDef (W.OpenLaw.row PySem.Challenge.rw_renamedlabels_k18_exceptions).prog 84) (kwd := []) ob_eq
    (by kernel_rfl) (fun s => by kernel_rfl) run (by kernel_rfl) (by kernel_rfl) (by kernel_rfl) (by rfl) (by first | assumption | decide +kernel) (by decide +kernel) ⟨rfl, rfl, rfl, rfl, rfl, by decide +kernel⟩ ?hw ?hc
  case hw => w_witness2
  case hc =>
    exact law_walk (l := PySem.Challenge.rw_renamedlabels_k18_exceptions) (n := n) (i := i_law) rfl (by kernel_rfl) (by kernel_rfl) st_ok bi_ok rfl rfl rfl rfl rfl rfl rfl hr hev
end RL
theorem PySem.Challenge.cw_renamedlabels_k18_exceptions_holds : PySem.Challenge.rw_renamedlabels_k18_exceptions.Holds :=
  RL.fin ⟨rfl, by decide, by decide⟩ fun ns _ => RL.law_ev ns
