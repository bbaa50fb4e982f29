import PyProof.Rows.All
import HandS.List
import KE.SortData
import HandS.ForMost
import HandS.ForExc
import HandS.TupAny
import HandS.Deep
import HandS.CallSlots
import HandS.IsInst
import HandS.Flow
import HandS.Style
import HandS.TupMul
import HandS.TupLe
import HandS.Conv
import HandS.FStr
import HandS.NoneIn
import HandS.Zip
import HandS.TryMany
import HandS.ExcIs
import HandS.Codes
import HandS.DictTup
import HandS.StrMore
import HandS.Strs
import HandS.ExcOwn
import HandS.Words
import HandS.WordsExc
import HandS.Defaults
import HandS.Head0
import HandS.Head1
import HandS.Head2
import HandS.HeadEnd
import HandS.HeadHook1
import HandS.HeadHook2
import PySem.Challenge.RW_renamedlabels_k01_permutations
set_option linter.all false
set_option Elab.async false
set_option maxRecDepth 100000
set_option maxHeartbeats 0
/-! RLCore: a small language of its own (slots for names, numbers for defs) and its plain evaluator over the library's PyData. -/
namespace RL
open PySem

abbrev D := PyData

/-- the end of an expression: a value, an exception (class number, its field), or nothing that this evaluator tells -/
inductive Res (a : Type) where
  | ok (x : a)
  | exc (c : Nat) (p : Option D)
  | bad

namespace Res
def bind {a b : Type} : Res a → (a → Res b) → Res b
  | .ok x, f => f x
  | .exc c p, _ => .exc c p
  | .bad, _ => .bad
def ofO {a : Type} : Option a → Res a
  | some x => .ok x
  | none => .bad
def grd (b : Bool) {a : Type} (x : Res a) : Res a := match b with
  | true => x
  | false => .bad
end Res
/-- what the evaluator does not tell -/
def opt {a b : Type} : Option a → (a → Res b) → Res b
  | some x, f => f x
  | none, _ => .bad
def grdO (b : Bool) {a : Type} (x : Option a) : Option a := match b with
  | true => x
  | false => none

/-- a value: data, a dict by ints, a dict by tuples of ints, a caught exception -/
inductive Vl where
  | dat (d : D)
  | dI (kvs : List (Int × D))
  | dT (kvs : List (List Int × D))
  | exn (c : Nat) (p : Option D)

/-- a slot: a value that nobody changes any more, or one that this slot alone holds -/
inductive Sl where
  | val (v : Vl)
  | own (v : Vl)

abbrev Env := List (Option Sl)

inductive BOp where
  | add | sub | mul | fdiv | mod | pow
inductive COp where
  | eq | ne | lt | le | gt | ge | isin | notin
inductive Tg where
  | one (i : Nat)
  | many (l : List Tg)
/-- what is walked: a value's items, range(a), range(a, b), zip(a, b), enumerate(a) -/
inductive Sk where
  | items | rg1 | rg2 | zip | enm
inductive F1 where
  | len | tuple | list | chars | listRange | sorted | sortedSet | sum | min | max | int | str
inductive F2 where
  | min | max
inductive Mt where
  | index | sindex | count | join | split
inductive Ty where
  | int | bool | tuple | list | str | cls (c : Nat)

inductive Ex where
  | var (i : Nat)
  | con (d : D)
  | glo (g : Nat)
  | bin (o : BOp) (a b : Ex)
  | neg (a : Ex)
  | cmp (o : COp) (a b : Ex)
  | chn (o p : COp) (a b c : Ex)
  | isn (pos : Bool) (a : Ex)
  | and (a b : Ex)
  | or (a b : Ex)
  | not (a : Ex)
  | ite (c a b : Ex)
  | tup (es : List Ex)
  | lst (es : List Ex)
  | idx (a i : Ex)
  | slf (a lo : Ex)
  | slt (a hi : Ex)
  | slb (a lo hi : Ex)
  | rev (a : Ex)
  | cpr (own : List Nat) (tg : Tg) (k : Sk) (a b : Ex) (elt : Ex)
  | cpi (own : List Nat) (tg : Tg) (k : Sk) (a b : Ex) (c elt : Ex)
  | call (f : Nat) (es : List Ex)
  | fn1 (f : F1) (a : Ex)
  | fn2 (f : F2) (a b : Ex)
  | mt (m : Mt) (a b : Ex)
  | isi (a : Ex) (t : Ty)
  | dc0
  | dc1 (k v : Ex)
  | fst (es : List Ex)
  | fld (a : Ex)

/-! ### operations on data -/
def szOk (n : Nat) : Bool := decide (n ≤ sizeLine)
def rI (i : Int) : Option D := some (.int i)
def rB (b : Bool) : Option D := some (.bool b)

def smallI (i : Int) : Bool := decide (-(2 ^ 64) < i) && decide (i < 2 ^ 64)

def binD : BOp → D → D → Option D
  | .add, .int i, .int j => rI (i + j)
  | .add, .str x, .str y => grdO (szOk (x.length + y.length)) (some (.str (x ++ y)))
  | .add, .tuple xs, .tuple ys => grdO (szOk (xs.length + ys.length)) (some (.tuple (xs ++ ys)))
  | .add, .list xs, .list ys => grdO (szOk (xs.length + ys.length)) (some (.list (xs ++ ys)))
  | .sub, .int i, .int j => rI (i - j)
  | .mul, .int i, .int j => grdO (smallI i || smallI j) (rI (i * j))
  | .mul, .list xs, .int k => grdO (decide (-(2 ^ 20) < k) && decide (k < 2 ^ 20) && szOk (xs.length * k.toNat)) (some (.list (List.replicate k.toNat xs).flatten))
  | .mul, .tuple xs, .int k => grdO (decide (-(2 ^ 20) < k) && decide (k ≤ 1000) && decide (xs.length ≤ 1000)) (some (.tuple (List.replicate k.toNat xs).flatten))
  | .fdiv, .int i, .int j => grdO (decide (0 < j) && decide (j < 1073741824)) (rI (i / j))
  | .mod, .int i, .int j => grdO (decide (0 < j)) (rI (i % j))
  | .pow, .int i, .int j => grdO (decide (0 ≤ j) && decide (j ≤ 1000) && decide (i.natAbs < 2 ^ 64)) (rI (i ^ j.toNat))
  | _, _, _ => none

/-- a tuple of ints -/
def intsOf : List D → Option (List Int)
  | [] => some []
  | .int i :: r => (intsOf r).map (i :: ·)
  | _ :: _ => none

def ordI (o : COp) (i j : Int) : Option Bool := match o with
  | .lt => some (decide (i < j))
  | .le => some (decide (i ≤ j))
  | .gt => some (decide (j < i))
  | .ge => some (decide (j ≤ i))
  | _ => none
def ordT (o : COp) (xs ys : List Int) : Option Bool := match o with
  | .lt => some (HT.lexLt xs ys)
  | .le => some (!HT.lexLt ys xs)
  | .gt => some (HT.lexLt ys xs)
  | .ge => some (!HT.lexLt xs ys)
  | _ => none

def inD (x : D) : D → Option Bool
  | .list ys => grdO (SeqAt.shaped x && SeqAt.shaped (.list ys)) (some (ys.any fun z => PyData.eqv z x))
  | .tuple ys => grdO (SeqAt.shaped x && SeqAt.shaped (.tuple ys)) (some (ys.any fun z => PyData.eqv z x))
  | .str y => match x with
    | .str x => some (!(Builtin.Str.occurrences y x 0 y.length 1).isEmpty)
    | _ => none
  | _ => none

def keyT : D → Option (List Int)
  | .tuple xs => intsOf xs
  | _ => none

def lookI (k : Int) : List (Int × D) → Option D
  | [] => none
  | (j, d) :: r => if j = k then some d else lookI k r
def lookT (k : List Int) : List (List Int × D) → Option D
  | [] => none
  | (j, d) :: r => if j = k then some d else lookT k r
def putI (k : Int) (v : D) (kvs : List (Int × D)) : List (Int × D) :=
  if (kvs.any fun p => decide (p.1 = k)) = true then kvs.map (fun p => if p.1 = k then (p.1, v) else p) else kvs ++ [(k, v)]
def putT (k : List Int) (v : D) (kvs : List (List Int × D)) : List (List Int × D) :=
  if (kvs.any fun p => decide (p.1 = k)) = true then kvs.map (fun p => if p.1 = k then (p.1, v) else p) else kvs ++ [(k, v)]

def inV (x : D) : Vl → Option Bool
  | .dat y => inD x y
  | .dI kvs => match x with
    | .int i => some (lookI i kvs).isSome
    | _ => none
  | .dT kvs => match keyT x with
    | some k => some (lookT k kvs).isSome
    | none => none
  | .exn _ _ => none

def eqD (x y : D) : Option Bool := grdO (SeqAt.shaped x && SeqAt.shaped y) (some (PyData.eqv x y))

def ordV (o : COp) (x : D) (v : Vl) : Option Bool := match x, v with
  | .int i, .dat (.int j) => ordI o i j
  | .tuple xs, .dat (.tuple ys) => (match intsOf xs, intsOf ys with
    | some is, some js => ordT o is js
    | _, _ => none)
  | _, _ => none
def cmpD (o : COp) (x : D) (v : Vl) : Option Bool := match o with
  | .isin => inV x v
  | .notin => (inV x v).bind fun b => some (!b)
  | .eq => (match v with | .dat y => eqD x y | _ => none)
  | .ne => (match v with | .dat y => (eqD x y).bind fun b => some (!b) | _ => none)
  | o => ordV o x v

def truthy : Vl → Option Bool
  | .dat .none => some false
  | .dat (.bool b) => some b
  | .dat (.int i) => some (i != 0)
  | .dat (.str x) => grdO (szOk x.length) (some (x.length != 0))
  | .dat (.list xs) => some (!xs.isEmpty)
  | .dat (.tuple xs) => some (!xs.isEmpty)
  | .dat (.dict _) => none
  | .dI kvs => some (!kvs.isEmpty)
  | .dT kvs => some (!kvs.isEmpty)
  | .exn _ _ => none

def idxD (v : Vl) (i : D) : Option D := match v with
  | .dat (.list xs) => (match i with
    | .int i => L2.atI xs i
    | _ => none)
  | .dat (.tuple xs) => (match i with
    | .int i => L2.atI xs i
    | _ => none)
  | .dat (.str z) => (match i with
    | .int i => grdO (szOk z.length) ((L2.atI z.cps.toList i).bind fun c => some (.str ⟨#[c]⟩))
    | _ => none)
  | .dI kvs => (match i with
    | .int i => lookI i kvs
    | _ => none)
  | .dT kvs => (match keyT i with
    | some k => lookT k kvs
    | none => none)
  | _ => none

def cut {a : Type} (xs : List a) (lo hi : Option Int) : List a := (xs.drop (HT.sIx xs.length 0 lo)).take (HT.sIx xs.length xs.length hi - HT.sIx xs.length 0 lo)
def cutD (d : D) (lo hi : Option Int) : Option D := match d with
  | .list xs => some (.list (cut xs lo hi))
  | .tuple xs => some (.tuple (cut xs lo hi))
  | .str z => grdO (szOk z.length) (some (.str ⟨(cut z.cps.toList lo hi).toArray⟩))
  | _ => none
def revD : D → Option D
  | .list xs => some (.list xs.reverse)
  | .tuple xs => some (.tuple xs.reverse)
  | _ => none

/-- the items that a walk yields -/
def itemsOf (k : Sk) (a b : Vl) : Option (List D) := match k with
  | .items => (match a with
    | .dat (.list xs) => some xs
    | .dat (.tuple xs) => some xs
    | .dT kvs => some (kvs.map fun p => .tuple (p.1.map .int))
    | _ => none)
  | .rg1 => (match a with
    | .dat (.int n) => grdO (decide (-(2 ^ 62) ≤ n) && decide (n < 2 ^ 62)) (some ((List.range n.toNat).map fun i => .int (i : Nat)))
    | _ => none)
  | .rg2 => (match a, b with
    | .dat (.int m), .dat (.int n) => grdO (decide (-(2 ^ 62) ≤ m) && decide (m < 2 ^ 62) && decide (-(2 ^ 62) ≤ n) && decide (n < 2 ^ 62)) (some ((List.range (n - m).toNat).map fun i => .int (m + (i : Nat))))
    | _, _ => none)
  | .zip => (match a, b with
    | .dat (.list xs), .dat (.list ys) => some ((xs.zip ys).map fun p => .tuple [p.1, p.2])
    | .dat (.tuple xs), .dat (.tuple ys) => some ((xs.zip ys).map fun p => .tuple [p.1, p.2])
    | _, _ => none)
  | .enm => (match a with
    | .dat (.list xs) => some ((List.range xs.length).zip xs |>.map fun p => .tuple [.int (p.1 : Nat), p.2])
    | .dat (.tuple xs) => some ((List.range xs.length).zip xs |>.map fun p => .tuple [.int (p.1 : Nat), p.2])
    | _ => none)

/-! sorting: alike data -/
def ins (lt : D → D → Bool) (x : D) : List D → List D
  | [] => [x]
  | y :: r => if lt x y then x :: y :: r else y :: ins lt x r
def isort (lt : D → D → Bool) : List D → List D
  | [] => []
  | x :: r => ins lt x (isort lt r)
/-- all pairs can be compared -/
def allAlike : List D → Bool
  | [] => true
  | x :: r => W.alike x x && (r.all fun y => W.alike x y && W.alike y x) && allAlike r
def sortD (xs : List D) : Option (List D) := grdO (allAlike xs && xs.all SeqAt.shaped) (some (isort W.dataLt xs))
def dedup : List D → List D
  | [] => []
  | x :: r => if r.any (fun y => PyData.eqv y x) then dedup r else x :: dedup r
def minL (lt : D → D → Bool) : D → List D → D
  | m, [] => m
  | m, x :: r => minL lt (if lt x m then x else m) r

def fn1D (f : F1) (v : Vl) : Option D := match f with
  | .len => (match v with
    | .dat (.list xs) => rI xs.length
    | .dat (.tuple xs) => rI xs.length
    | .dat (.str x) => grdO (szOk x.length) (rI x.length)
    | .dI kvs => rI kvs.length
    | .dT kvs => rI kvs.length
    | _ => none)
  | .tuple => (match v with
    | .dat (.list xs) => some (.tuple xs)
    | .dat (.tuple xs) => some (.tuple xs)
    | _ => none)
  | .list => (match v with
    | .dat (.list xs) => some (.list xs)
    | .dat (.tuple xs) => some (.list xs)
    | _ => none)
  | .chars => (match v with
    | .dat (.str x) => grdO (szOk x.length) (some (.list (x.cps.toList.map fun c => .str ⟨#[c]⟩)))
    | _ => none)
  | .listRange => (match v with
    | .dat (.int n) => grdO (decide (0 ≤ n) && decide (n < 2 ^ 20)) (some (.list ((List.range n.toNat).map fun i => .int (i : Nat))))
    | _ => none)
  | .sorted => (match v with
    | .dat (.list xs) => (sortD xs).bind fun ys => some (.list ys)
    | .dT kvs => (sortD (kvs.map fun p => .tuple (p.1.map .int))).bind fun ys => some (.list ys)
    | _ => none)
  | .sortedSet => (match v with
    | .dat (.list xs) => (sortD (dedup xs)).bind fun ys => some (.list ys)
    | _ => none)
  | .sum => (match v with
    | .dat (.list xs) => (match intsOf xs with | some is => rI is.sum | none => none)
    | .dat (.tuple xs) => (match intsOf xs with | some is => rI is.sum | none => none)
    | _ => none)
  | .min => (match v with
    | .dat (.list (x :: xs)) => grdO (allAlike (x :: xs) && (x :: xs).all SeqAt.shaped) (some (minL W.dataLt x xs))
    | .dat (.tuple (x :: xs)) => grdO (allAlike (x :: xs) && (x :: xs).all SeqAt.shaped) (some (minL W.dataLt x xs))
    | _ => none)
  | .max => (match v with
    | .dat (.list (x :: xs)) => grdO (allAlike (x :: xs) && (x :: xs).all SeqAt.shaped) (some (minL (fun a b => W.dataLt b a) x xs))
    | .dat (.tuple (x :: xs)) => grdO (allAlike (x :: xs) && (x :: xs).all SeqAt.shaped) (some (minL (fun a b => W.dataLt b a) x xs))
    | _ => none)
  | .int => (match v with
    | .dat (.int i) => rI i
    | .dat (.bool b) => rI (if b then 1 else 0)
    | _ => none)
  | .str => (match v with
    | .dat (.int i) => grdO (decide (i.natAbs < 1000000)) (some (.str (toString i)))
    | .dat (.str x) => some (.str x)
    | _ => none)

def fn2D (f : F2) (a b : D) : Option D := match f, a, b with
  | .min, .int i, .int j => rI (if j < i then j else i)
  | .max, .int i, .int j => rI (if j > i then j else i)
  | _, _, _ => none

def findIx (p : D → Bool) : List D → Nat → Option Nat
  | [], _ => none
  | x :: r, n => if p x then some n else findIx p r (n + 1)
def strsOf : List D → Option (List Str)
  | [] => some []
  | .str x :: r => (strsOf r).map (x :: ·)
  | _ :: _ => none
def lenAll : List Str → Nat
  | [] => 0
  | x :: r => x.length + lenAll r
def joinS (sep : Str) : List Str → Str
  | [] => ⟨#[]⟩
  | [x] => x
  | x :: y :: r => x ++ (sep ++ joinS sep (y :: r))
/-- a text cut at each sign c -/
def splitC (c : Nat) : List Nat → List Nat → List (List Nat)
  | acc, [] => [acc.reverse]
  | acc, x :: r => if x = c then acc.reverse :: splitC c [] r else splitC c (x :: acc) r
def mtD (m : Mt) (v : Vl) (b : D) : Option D := match m with
  | .index => (match v with
    | .dat (.list xs) => grdO (SeqAt.shaped (.list xs) && SeqAt.shaped b) ((findIx (fun z => PyData.eqv z b) xs 0).bind fun n => rI (n : Nat))
    | .dat (.tuple xs) => grdO (SeqAt.shaped (.tuple xs) && SeqAt.shaped b) ((findIx (fun z => PyData.eqv z b) xs 0).bind fun n => rI (n : Nat))
    | _ => none)
  | .sindex => (match v with
    | .dat (.str x) => (match b with
      | .str y => grdO (decide (y.length = 1)) ((findIx (fun z => PyData.eqv z b) (x.cps.toList.map fun c => .str ⟨#[c]⟩) 0).bind fun n => rI (n : Nat))
      | _ => none)
    | _ => none)
  | .count => (match v with
    | .dat (.list xs) => (match intsOf xs, b with
      | some is, .int k => rI (is.count k : Nat)
      | _, _ => none)
    | _ => none)
  | .join => (match v, b with
    | .dat (.str s), .list xs => (match strsOf xs with
      | some ys => grdO (decide (lenAll ys + s.length * ys.length ≤ 1000000)) (some (.str (joinS s ys)))
      | none => none)
    | _, _ => none)
  | .split => (match v, b with
    | .dat (.str s), .str ⟨⟨[c]⟩⟩ => grdO (decide (s.length ≤ 1000000)) (some (.list ((splitC c [] s.cps.toList).map fun l => .str ⟨l.toArray⟩)))
    | _, _ => none)

/-- the receivers of a method -/
def mtRecv (m : Mt) (v : Vl) : Bool := match m, v with
  | .index, .dat (.list _) => true
  | .index, .dat (.tuple _) => true
  | .sindex, .dat (.str _) => true
  | .count, .dat (.list _) => true
  | .join, .dat (.str _) => true
  | .split, .dat (.str _) => true
  | _, _ => false
/-- the classes of exceptions: sub c d: is c the class d or below it -/
def isiD (sub : Nat → Nat → Bool) (v : Vl) (t : Ty) : Option Bool := match t, v with
  | .cls d, .exn c none => some (sub c d)
  | .int, .dat d => some (match d with | .int _ => true | .bool _ => true | _ => false)
  | .bool, .dat d => some (match d with | .bool _ => true | _ => false)
  | .tuple, .dat d => some (match d with | .tuple _ => true | _ => false)
  | .list, .dat d => some (match d with | .list _ => true | _ => false)
  | .str, .dat d => some (match d with | .str _ => true | _ => false)
  | _, _ => none

def fstD : List D → Option Str
  | [] => some ⟨#[]⟩
  | .str x :: r => (fstD r).bind fun y => some (x ++ y)
  | .int i :: r => grdO (decide (i.natAbs < 1000000)) ((fstD r).bind fun y => some (toString i ++ y))
  | _ :: _ => none

def negD : D → Option D
  | .int i => some (.int (-i))
  | _ => none
def isNoneD : D → Bool
  | .none => true
  | _ => false
def intD : D → Option Int
  | .int i => some i
  | _ => none
def dicD (k v : D) : Option Vl := match k with
  | .int i => some (.dI [(i, v)])
  | k => (keyT k).bind fun is => some (.dT [(is, v)])
def fldD : Vl → Option D
  | .exn _ (some d) => some d
  | _ => none

/-! ### the evaluator -/
structure Cfg where
  ck : Nat → List D → Res Vl
  gv : Nat → Option D
  sub : Nat → Nat → Bool

/-- data; not a thing that a slot alone holds -/
def dat : Bool × Vl → Option D
  | (false, .dat d) => some d
  | _ => none
/-- data to be read -/
def datR : Bool × Vl → Option D
  | (_, .dat d) => some d
  | _ => none
def ret (d : D) : Res (Bool × Vl) := .ok (false, .dat d)
def retB (b : Bool) : Res (Bool × Vl) := .ok (false, .dat (.bool b))

def wipe (r : Env) : List Nat → Env
  | [] => r
  | v :: vs => (wipe r vs).set v none

def setAll : Env → List Nat → List D → Option Env
  | r, [], [] => some r
  | r, i :: is, d :: ds => setAll (r.set i (some (.val (.dat d)))) is ds
  | _, _, _ => none
mutual
def bindTg (r : Env) (d : D) : Tg → Option Env
  | .one i => some (r.set i (some (.val (.dat d))))
  | .many l => match d with
    | .tuple xs => bindTgs r xs l
    | _ => none
def bindTgs (r : Env) (ds : List D) : List Tg → Option Env
  | [] => match ds with
    | [] => some r
    | _ :: _ => none
  | t :: l => match ds with
    | [] => none
    | d :: ds => (bindTg r d t).bind fun r => bindTgs r ds l
end

/-- a comprehension's turns: c tells whether the item is kept, e the element -/
def mapC (b : D → Option Env) (c : Env → Res Bool) (e : Env → Res D) : List D → Res (List D)
  | [] => .ok []
  | x :: r => opt (b x) fun m => (c m).bind fun k => match k with
    | true => (e m).bind fun y => (mapC b c e r).bind fun ys => .ok (y :: ys)
    | false => mapC b c e r
/-- nothing is raised out of a comprehension -/
def noX {a : Type} : Res a → Res a
  | .exc _ _ => .bad
  | r => r

mutual
def ev (C : Cfg) (r : Env) : Ex → Res (Bool × Vl)
  | .var i => match r[i]? with
    | some (some (.val v)) => .ok (false, v)
    | some (some (.own v)) => .ok (true, v)
    | _ => .bad
  | .con d => ret d
  | .glo g => opt (C.gv g) ret
  | .bin o a b => (ev C r a).bind fun x => (ev C r b).bind fun y => opt (datR x) fun x => opt (datR y) fun y => opt (binD o x y) ret
  | .neg a => (ev C r a).bind fun x => opt (datR x) fun x => opt (negD x) ret
  | .cmp o a b => (ev C r a).bind fun x => (ev C r b).bind fun y => opt (datR x) fun x => opt (cmpD o x y.2) retB
  | .chn o p a b c => (ev C r a).bind fun x => (ev C r b).bind fun y => opt (datR x) fun x => opt (datR y) fun y => opt (cmpD o x (.dat y)) fun k => match k with
    | true => (ev C r c).bind fun z => opt (cmpD p y z.2) retB
    | false => retB false
  | .isn pos a => (ev C r a).bind fun x => opt (datR x) fun x => retB (isNoneD x == pos)
  | .and a b => (ev C r a).bind fun x => opt (truthy x.2) fun k => match k with
    | true => ev C r b
    | false => .ok x
  | .or a b => (ev C r a).bind fun x => opt (truthy x.2) fun k => match k with
    | true => .ok x
    | false => ev C r b
  | .not a => (ev C r a).bind fun x => opt (truthy x.2) fun k => retB (!k)
  | .ite c a b => (ev C r c).bind fun x => opt (truthy x.2) fun k => match k with
    | true => ev C r a
    | false => ev C r b
  | .tup es => (evs C r es).bind fun xs => opt (grdO (szOk xs.length) (some (.tuple xs))) ret
  | .lst es => (evs C r es).bind fun xs => opt (grdO (szOk xs.length) (some (.list xs))) ret
  | .idx a i => (ev C r a).bind fun x => (ev C r i).bind fun y => opt (datR y) fun y => opt (idxD x.2 y) ret
  | .slf a lo => (ev C r a).bind fun x => (ev C r lo).bind fun y => opt (datR x) fun x => opt (datR y) fun y => opt (intD y) fun i => opt (cutD x (some i) none) ret
  | .slt a hi => (ev C r a).bind fun x => (ev C r hi).bind fun y => opt (datR x) fun x => opt (datR y) fun y => opt (intD y) fun i => opt (cutD x none (some i)) ret
  | .slb a lo hi => (ev C r a).bind fun x => (ev C r lo).bind fun y => opt (datR y) fun y => opt (intD y) fun i => (ev C r hi).bind fun z => opt (datR z) fun z => opt (intD z) fun j => opt (datR x) fun x => opt (cutD x (some i) (some j)) ret
  | .rev a => (ev C r a).bind fun x => opt (datR x) fun x => opt (revD x) ret
  | .cpr own tg k a b elt => (ev C r a).bind fun x => (ev C r b).bind fun y => opt (itemsOf k x.2 y.2) fun its =>
      (noX (mapC (fun d => bindTg (wipe r own) d tg) (fun _ => .ok true) (fun m => (ev C m elt).bind fun z => opt (dat z) .ok) its)).bind fun ys => opt (grdO (szOk its.length) (some (.list ys))) ret
  | .cpi own tg k a b c elt => (ev C r a).bind fun x => (ev C r b).bind fun y => opt (itemsOf k x.2 y.2) fun its =>
      (noX (mapC (fun d => bindTg (wipe r own) d tg) (fun m => (ev C m c).bind fun x => opt (truthy x.2) .ok) (fun m => (ev C m elt).bind fun z => opt (dat z) .ok) its)).bind fun ys => opt (grdO (szOk its.length) (some (.list ys))) ret
  | .call f es => (evs C r es).bind fun xs => (C.ck f xs).bind fun v => .ok (false, v)
  | .fn1 f a => (ev C r a).bind fun x => opt (fn1D f x.2) ret
  | .fn2 f a b => (ev C r a).bind fun x => (ev C r b).bind fun y => opt (datR x) fun x => opt (datR y) fun y => opt (fn2D f x y) ret
  | .mt m a b => (ev C r a).bind fun x => opt (grdO (mtRecv m x.2) (some ())) fun _ => (ev C r b).bind fun y => opt (datR y) fun y => opt (mtD m x.2 y) ret
  | .isi a t => (ev C r a).bind fun x => opt (isiD C.sub x.2 t) retB
  | .dc0 => .ok (false, .dT [])
  | .dc1 k v => (ev C r k).bind fun k => (ev C r v).bind fun v => opt (dat k) fun k => opt (dat v) fun v => opt (dicD k v) fun z => .ok (false, z)
  | .fst es => (evs C r es).bind fun xs => opt (fstD xs) fun x => opt (grdO (szOk x.length) (some (.str x))) ret
  | .fld a => (ev C r a).bind fun x => opt (fldD x.2) ret
def evs (C : Cfg) (r : Env) : List Ex → Res (List D)
  | [] => .ok []
  | e :: es => (ev C r e).bind fun x => opt (dat x) fun d => (evs C r es).bind fun ds => .ok (d :: ds)
end

/-! ### statements -/
mutual
inductive Stm where
  | asg (i : Nat) (e : Ex)
  | new (i : Nat) (e : Ex)
  | unp (l : List Tg) (e : Ex)
  | par (l : List Nat) (es : List Ex)
  | set (i : Nat) (k e : Ex)
  | aug (i : Nat) (o : BOp) (e : Ex)
  | app (i : Nat) (e : Ex)
  | ext (i : Nat) (e : Ex)
  | pop (t : Tg) (i : Nat) (k : Option Int)
  | exp (e : Ex)
  | ite (c : Ex) (a b : List Stm)
  | for_ (t : Tg) (k : Sk) (a b : Ex) (body : List Stm)
  | whl (c : Ex) (body : List Stm)
  | ret (e : Ex)
  | raise (c : Nat)
  | raise1 (c : Nat) (e : Ex)
  | try_ (body : List Stm) (h : Hs)
  | frz (l : List Nat)
  | pass
inductive Hs where
  | nil
  | cons (c i : Nat) (su : List Stm) (r : Hs)
end

/-- the end of a statement -/
inductive SR where
  | nx (r : Env)
  | rt (v : Vl)
  | ex (c : Nat) (p : Option D) (r : Env)
  | bad

def SR.of {a : Type} (r : Env) : Res a → (a → SR) → SR
  | .ok x, f => f x
  | .exc c p, _ => .ex c p r
  | .bad, _ => .bad
def SR.opt {a : Type} : Option a → (a → SR) → SR
  | some x, f => f x
  | none, _ => .bad
def SR.seq : SR → (Env → SR) → SR
  | .nx r, f => f r
  | .rt v, _ => .rt v
  | .ex c p r, _ => .ex c p r
  | .bad, _ => .bad

def frz1 (r : Env) (i : Nat) : Env := match r[i]? with
  | some (some (.own v)) => r.set i (some (.val v))
  | _ => r
def frzAll : Env → List Nat → Env
  | r, [] => r
  | r, i :: l => frzAll (frz1 r i) l

/-- a value that may be held by any number of slots -/
def frozen : Bool × Vl → Option Vl
  | (false, v) => some v
  | _ => none

def forL (step : Env → D → SR) : List D → Env → SR
  | [], r => .nx r
  | x :: l, r => (step r x).seq fun r => forL step l r
def whlL (c : Env → Res Bool) (step : Env → SR) : Nat → Env → SR
  | 0, _ => .bad
  | n + 1, r => SR.of r (c r) fun k => match k with
    | true => (step r).seq fun r => whlL c step n r
    | false => .nx r

/-- x[k] = v of what the slot alone holds -/
def setV (v : Vl) (k x : D) : Option Vl := match v with
  | .dat (.list xs) => (match k with
    | .int i => (L2.ixN xs.length i).bind fun j => some (.dat (.list (xs.set j x)))
    | _ => none)
  | .dI kvs => (match k with
    | .int i => grdO (szOk (kvs.length + 1)) (some (.dI (putI i x kvs)))
    | _ => none)
  | .dT kvs => (match keyT k with
    | some is => grdO (szOk (kvs.length + 1)) (some (.dT (putT is x kvs)))
    | none => none)
  | _ => none
def ownAt (r : Env) (i : Nat) : Option Vl := match r[i]? with
  | some (some (.own v)) => some v
  | _ => none
def ownL (r : Env) (i : Nat) : Option (List D) := match r[i]? with
  | some (some (.own (.dat (.list xs)))) => some xs
  | _ => none
def popV (v : Vl) (k : Option Int) : Option (D × Vl) := match v with
  | .dat (.list xs) => (match k with
    | none => (match xs[xs.length - 1]? with
      | some y => some (y, .dat (.list xs.dropLast))
      | none => none)
    | some i => (L2.ixN xs.length i).bind fun j => (match xs[j]? with
      | some y => some (y, .dat (.list (xs.eraseIdx j)))
      | none => none))
  | _ => none
def appV (v : Vl) (x : D) : Option Vl := match v with
  | .dat (.list xs) => grdO (szOk (xs.length + 1)) (some (.dat (.list (xs ++ [x]))))
  | _ => none
def extV (v : Vl) (x : D) : Option Vl := match v, x with
  | .dat (.list xs), .list ys => grdO (szOk (xs.length + ys.length)) (some (.dat (.list (xs ++ ys))))
  | _, _ => none
def unpD (r : Env) (d : D) (l : List Tg) : Option Env := match d with
  | .list xs => bindTgs r xs l
  | .tuple xs => bindTgs r xs l
  | _ => none
def augD (o : BOp) (x y : D) : Option D := match x, y with
  | .int a, .int b => binD o (.int a) (.int b)
  | _, _ => none
/-- an expression, then its value as data -/
def evD (C : Cfg) (r : Env) (e : Ex) : Res D := (ev C r e).bind fun x => opt (dat x) .ok
def evR (C : Cfg) (r : Env) (e : Ex) : Res D := (ev C r e).bind fun x => opt (datR x) .ok
def evF (C : Cfg) (r : Env) (e : Ex) : Res Vl := (ev C r e).bind fun x => opt (frozen x) .ok
def evT (C : Cfg) (r : Env) (e : Ex) : Res Bool := (ev C r e).bind fun x => opt (truthy x.2) .ok
/-- what a new list, a new dict, or the slot's own thing gives to slot i -/
def fresh : Ex → Bool
  | .lst _ => true
  | .dc0 => true
  | .dc1 _ _ => true
  | .cpr .. => true
  | .cpi .. => true
  | .fn1 .list _ => true
  | .fn1 .listRange _ => true
  | _ => false

def iterMax : Nat := 1000

mutual
def exec (C : Cfg) (r : Env) : Stm → SR
  | .asg i e => .of r (evF C r e) fun v => .nx (r.set i (some (.val v)))
  | .new i e => .opt (grdO (fresh e) (some ())) fun _ => .of r (evF C r e) fun v => .nx (r.set i (some (.own v)))
  | .unp l e => .of r (evR C r e) fun d => .opt (unpD r d l) fun r => .nx r
  | .par l es => .of r (evs C r es) fun ds => .opt (setAll r l ds) fun r => .nx r
  | .set i k e => .opt (ownAt r i) fun v => .of r (evD C r e) fun x => .of r (evR C r k) fun k => .opt (setV v k x) fun v => .nx (r.set i (some (.own v)))
  | .aug i o e => .of r (evR C r (.var i)) fun x => .of r (evR C r e) fun y => .opt (augD o x y) fun z => .nx (r.set i (some (.val (.dat z))))
  | .app i e => .opt (ownL r i) fun xs => .of r (evD C r e) fun x => .opt (appV (.dat (.list xs)) x) fun v => .nx (r.set i (some (.own v)))
  | .ext i e => .opt (ownL r i) fun xs => .of r (evD C r e) fun x => .opt (extV (.dat (.list xs)) x) fun v => .nx (r.set i (some (.own v)))
  | .pop t i k => .opt (ownAt r i) fun v => .opt (popV v k) fun p => .opt (bindTg (r.set i (some (.own p.2))) p.1 t) fun r => .nx r
  | .exp e => .of r (ev C r e) fun _ => .nx r
  | .ite c a b => .of r (evT C r c) fun k => match k with
    | true => execs C r a
    | false => execs C r b
  | .for_ t k a b body => .of r (ev C r a) fun x => .of r (ev C r b) fun y => .opt (grdO (!x.1 && !y.1) (itemsOf k x.2 y.2)) fun its =>
      forL (fun r d => .opt (bindTg r d t) fun r => execs C r body) its r
  | .whl c body => whlL (fun r => evT C r c) (fun r => execs C r body) iterMax r
  | .ret e => .of r (evF C r e) fun v => .rt v
  | .raise c => .ex c none r
  | .raise1 c e => .of r (evD C r e) fun d => .ex c (some d) r
  | .try_ body h => match execs C r body with
    | .ex c p r => hands C r c p h
    | s => s
  | .frz l => .nx (frzAll r l)
  | .pass => .nx r
def execs (C : Cfg) (r : Env) : List Stm → SR
  | [] => .nx r
  | s :: l => (exec C r s).seq fun r => execs C r l
def hands (C : Cfg) (r : Env) (c : Nat) (p : Option D) : Hs → SR
  | .nil => .ex c p r
  | .cons d i su h => match C.sub c d with
    | true => (match execs C (r.set i (some (.val (.exn c p)))) su with
      | .nx r => .nx (r.set i none)
      | s => s)
    | false => hands C r c p h
end

/-- a def: how many slots, how many parameters, the body -/
structure Fn where
  slots : Nat
  params : Nat
  body : List Stm

def enter (f : Fn) (args : List D) : Env := args.map (fun d => some (.val (.dat d))) ++ List.replicate (f.slots - f.params) none
def outcome : SR → Res Vl
  | .nx _ => .ok (.dat .none)
  | .rt v => .ok v
  | .ex c p _ => .exc c p
  | .bad => .bad

/-- a program: defs by number, constants by number, the classes' order -/
structure Prg where
  fn : Nat → Option Fn
  gv : Nat → Option D
  sub : Nat → Nat → Bool

def callN (P : Prg) : Nat → Nat → List D → Res Vl
  | 0, _, _ => .bad
  | n + 1, f, args => match P.fn f with
    | some fn => .grd (decide (args.length = fn.params)) (outcome (execs ⟨callN P n, P.gv, P.sub⟩ (enter fn args) fn.body))
    | none => .bad
end RL
/-! RLBase: how the evaluator's values lie in the layer's abstract heap. -/
namespace RL
open PySem PySem.Spec PyProof.Rows L2

/-! ### heaps -/
/-- from the frozen part F of H to the frozen part F' of H': nothing that stood has changed, what is newly frozen is new -/
structure Ext (F H F' H' : Hp) : Prop where
  ff : Same F F'
  hh : Same H H'
  sub : Same F' H'
  new : ∀ a o, F' a = some o → F a = some o ∨ H a = none

theorem Ext.refl {F H : Hp} (s : Same F H) : Ext F H F H := ⟨Same.refl F, Same.refl H, s, fun _ _ h => .inl h⟩
theorem Ext.trans {F H F1 H1 F2 H2 : Hp} (a : Ext F H F1 H1) (b : Ext F1 H1 F2 H2) : Ext F H F2 H2 :=
  ⟨a.ff.trans b.ff, a.hh.trans b.hh, b.sub, fun x o h => by
    rcases b.new x o h with h | h
    · exact a.new x o h
    · exact .inr (a.hh.free h)⟩
theorem same_upd {H : Hp} {p : Addr} {o : HO} (n : H p = none) : Same H (upd H p o) := fun b u e => by rw [upd_ne (ne_of_none e n)]; exact e
/-- a new object, frozen at once -/
theorem Ext.laid {F H : Hp} {p : Addr} {o : HO} (s : Same F H) (n : H p = none) : Ext F H (upd F p o) (upd H p o) :=
  ⟨same_upd (s.free n), same_upd n, fun b u e => by
    by_cases hb : b = p
    · subst hb; rw [upd_same] at e ⊢; exact e
    · rw [upd_ne hb] at e ⊢; exact s b u e, fun b u e => by
    by_cases hb : b = p
    · subst hb; exact .inr n
    · rw [upd_ne hb] at e; exact .inl e⟩
/-- a new object, not frozen -/
theorem Ext.free {F H : Hp} {p : Addr} {o : HO} (s : Same F H) (n : H p = none) : Ext F H F (upd H p o) :=
  ⟨Same.refl F, same_upd n, fun b u e => same_upd n b u (s b u e), fun _ _ h => .inl h⟩

theorem Rd.mono {F F' : Hp} {a : Addr} {u : HO} (s : Same F F') (h : Rd F a u) : Rd F' a u := by
  rcases h with h | ⟨o, h⟩
  · exact .inl (s _ _ h)
  · exact .inr ⟨o, s _ _ h⟩
theorem sqT_mono {K : W.Frag} {F F' : Hp} {a : Addr} {xs : List V} (s : Same F F') (h : SqT K F a xs) : SqT K F' a xs := by
  rcases h with (h | ⟨o, h⟩) | h
  · exact .inl (.inl (s _ _ h))
  · exact .inl (.inr ⟨o, s _ _ h⟩)
  · exact .inr h
/-- a tuple that is known to have no dict of its own: laid by us, or written -/
def TupG (K : W.Frag) (F : Hp) (a : Addr) (xs : List V) : Prop :=
  (∃ o : Obj, F a = some (.frz o (.tup xs)) ∧ o.cls = .type "tuple" ∧ o.dict = none) ∨
    ∃ (o : Obj) (its : Array Value) (n : Nat), K.lookup a = some o ∧ o.cls = .type "tuple" ∧ o.dict = none ∧ o.data = .seq its n ∧ its.size ≤ sizeLine ∧ Vals xs its.toList
theorem TupG.sq {K : W.Frag} {F : Hp} {a : Addr} {xs : List V} (h : TupG K F a xs) : SqT K F a xs := by
  rcases h with ⟨o, h, _, _⟩ | ⟨o, its, n, h1, h2, _, h3, h4, h5⟩
  · exact .inl (.inr ⟨o, h⟩)
  · exact .inr ⟨o, its, n, h1, h2, h3, h4, h5⟩
theorem TupG.mono {K : W.Frag} {F F' : Hp} {a : Addr} {xs : List V} (s : Same F F') (h : TupG K F a xs) : TupG K F' a xs := by
  rcases h with ⟨o, h, q⟩ | h
  · exact .inl ⟨o, s _ _ h, q⟩
  · exact .inr h
/-- a tuple's object -/
def isTupO (o : Obj) : Prop := o.cls = .type "tuple" ∧ o.dict = none
mutual
/-- data in the heap: lists are tracked, tuples laid by us or written -/
inductive Dq (K : W.Frag) (F : Hp) : V → PyData → Prop
  | non : Dq K F .non .none
  | bl (b : Bool) : Dq K F (.bl b) (.bool b)
  | int (i : Int) : Dq K F (.int i) (.int i)
  | str (x : Str) : Dq K F (.str x) (.str x)
  | lst {a : Addr} {xs : List V} {ds : List PyData} : Rd F a (.lst xs) → DqAll K F xs ds → Dq K F (.ref a) (.list ds)
  | tup {a : Addr} {xs : List V} {ds : List PyData} : TupG K F a xs → DqAll K F xs ds → Dq K F (.ref a) (.tuple ds)
inductive DqAll (K : W.Frag) (F : Hp) : List V → List PyData → Prop
  | nil : DqAll K F [] []
  | cons {v : V} {vs : List V} {d : PyData} {ds : List PyData} : Dq K F v d → DqAll K F vs ds → DqAll K F (v :: vs) (d :: ds)
end
mutual
theorem Dq.dp {K : W.Frag} {F : Hp} : ∀ (d : PyData) (v : V), Dq K F v d → Dp K F v d
  | .none, _, h => by cases h; exact .non
  | .bool b, _, h => by cases h; exact .bl b
  | .int i, _, h => by cases h; exact .int i
  | .str x, _, h => by cases h; exact .str x
  | .list ds, _, h => by
    cases h with
    | lst hs ha => exact .lst (.inl hs) (DqAll.dp ds _ ha)
  | .tuple ds, _, h => by
    cases h with
    | tup hs ha => exact .tup hs.sq (DqAll.dp ds _ ha)
  | .dict _, _, h => by cases h
theorem DqAll.dp {K : W.Frag} {F : Hp} : ∀ (ds : List PyData) (vs : List V), DqAll K F vs ds → DpAll K F vs ds
  | [], _, h => by cases h; exact .nil
  | d :: ds, _, h => by
    cases h with
    | cons h1 h2 => exact .cons (Dq.dp d _ h1) (DqAll.dp ds _ h2)
end
mutual
theorem Dq.mono {K : W.Frag} {F F' : Hp} (s : Same F F') : ∀ (d : PyData) (v : V), Dq K F v d → Dq K F' v d
  | .none, _, h => by cases h; exact .non
  | .bool b, _, h => by cases h; exact .bl b
  | .int i, _, h => by cases h; exact .int i
  | .str x, _, h => by cases h; exact .str x
  | .list ds, _, h => by
    cases h with
    | lst hs ha => exact .lst (Rd.mono s hs) (DqAll.mono s ds _ ha)
  | .tuple ds, _, h => by
    cases h with
    | tup hs ha => exact .tup (hs.mono s) (DqAll.mono s ds _ ha)
  | .dict _, _, h => by cases h
theorem DqAll.mono {K : W.Frag} {F F' : Hp} (s : Same F F') : ∀ (ds : List PyData) (vs : List V), DqAll K F vs ds → DqAll K F' vs ds
  | [], _, h => by cases h; exact .nil
  | d :: ds, _, h => by
    cases h with
    | cons h1 h2 => exact .cons (Dq.mono s d _ h1) (DqAll.mono s ds _ h2)
end

section
variable {K : W.Frag} {F H : Hp}
theorem DqAll.length : ∀ {ds : List PyData} {vs : List V}, DqAll K F vs ds → vs.length = ds.length
  | _, _, .nil => rfl
  | _, _, .cons _ t => by simp [DqAll.length t]
theorem DqAll.get : ∀ {ds : List PyData} {vs : List V} {i : Nat} {d : PyData}, DqAll K F vs ds → ds[i]? = some d → ∃ v, vs[i]? = some v ∧ Dq K F v d
  | _, _, _, _, .nil, e => by simp at e
  | _, _, 0, _, .cons r _, e => by simp at e; subst e; exact ⟨_, rfl, r⟩
  | _, _, i + 1, d, .cons _ t, e => by
    obtain ⟨u, h1, h2⟩ := DqAll.get (i := i) (d := d) t (by simpa using e)
    exact ⟨u, by simpa using h1, h2⟩
theorem DqAll.get' : ∀ {ds : List PyData} {vs : List V} {i : Nat} {v : V}, DqAll K F vs ds → vs[i]? = some v → ∃ d, ds[i]? = some d ∧ Dq K F v d
  | _, _, _, _, .nil, e => by simp at e
  | _, _, 0, _, .cons r _, e => by simp at e; subst e; exact ⟨_, rfl, r⟩
  | _, _, i + 1, d, .cons _ t, e => by
    obtain ⟨u, h1, h2⟩ := DqAll.get' (i := i) (v := d) t (by simpa using e)
    exact ⟨u, by simpa using h1, h2⟩
theorem DqAll.append : ∀ {ds es : List PyData} {vs us : List V}, DqAll K F vs ds → DqAll K F us es → DqAll K F (vs ++ us) (ds ++ es)
  | _, _, _, _, .nil, s => s
  | _, _, _, _, .cons r t, s => .cons r (DqAll.append t s)
theorem DqAll.take : ∀ {ds : List PyData} {vs : List V} (n : Nat), DqAll K F vs ds → DqAll K F (vs.take n) (ds.take n)
  | _, _, 0, _ => .nil
  | _, _, _ + 1, .nil => .nil
  | _, _, n + 1, .cons r t => .cons r (DqAll.take n t)
theorem DqAll.drop : ∀ {ds : List PyData} {vs : List V} (n : Nat), DqAll K F vs ds → DqAll K F (vs.drop n) (ds.drop n)
  | _, _, 0, r => r
  | _, _, _ + 1, .nil => .nil
  | _, _, n + 1, .cons _ t => DqAll.drop n t
theorem DqAll.snoc {ds : List PyData} {vs : List V} {v : V} {d : PyData} (h : DqAll K F vs ds) (r : Dq K F v d) : DqAll K F (vs ++ [v]) (ds ++ [d]) := h.append (.cons r .nil)
theorem DqAll.reverse : ∀ {ds : List PyData} {vs : List V}, DqAll K F vs ds → DqAll K F vs.reverse ds.reverse
  | _, _, .nil => .nil
  | _, _, .cons r t => by rw [List.reverse_cons, List.reverse_cons]; exact (DqAll.reverse t).snoc r
theorem DqAll.set : ∀ {ds : List PyData} {vs : List V} {v : V} {d : PyData} (j : Nat), DqAll K F vs ds → Dq K F v d → DqAll K F (vs.set j v) (ds.set j d)
  | _, _, _, _, _, .nil, _ => .nil
  | _, _, _, _, 0, .cons _ t, q => .cons q t
  | _, _, _, _, j + 1, .cons r t, q => .cons r (DqAll.set j t q)
theorem DqAll.eraseIdx : ∀ {ds : List PyData} {vs : List V} (j : Nat), DqAll K F vs ds → DqAll K F (vs.eraseIdx j) (ds.eraseIdx j)
  | _, _, _, .nil => .nil
  | _, _, 0, .cons _ t => t
  | _, _, j + 1, .cons r t => .cons r (DqAll.eraseIdx j t)
theorem DqAll.dropLast {ds : List PyData} {vs : List V} (h : DqAll K F vs ds) : DqAll K F vs.dropLast ds.dropLast := by
  rw [List.dropLast_eq_take, List.dropLast_eq_take, h.length]; exact h.take _
theorem DqAll.flat : ∀ {ds : List PyData} {vs : List V} (n : Nat), DqAll K F vs ds → DqAll K F (List.replicate n vs).flatten (List.replicate n ds).flatten
  | _, _, 0, _ => .nil
  | _, _, n + 1, h => by
    rw [List.replicate_succ, List.replicate_succ, List.flatten_cons, List.flatten_cons]
    exact h.append (DqAll.flat n h)
theorem DqAll.ints : ∀ (ns : List Int), DqAll K F (ns.map V.int) (ns.map PyData.int)
  | [] => .nil
  | n :: ns => .cons (.int n) (DqAll.ints ns)
theorem DqAll.ints_inv : ∀ {ns : List Int} {ds : List PyData} {vs : List V}, DqAll K F vs ds → intsOf ds = some ns → vs = ns.map V.int ∧ ds = ns.map PyData.int
  | ns, [], _, h, e => by
    cases h
    have : ns = [] := by simpa [intsOf] using e.symm
    subst this; exact ⟨rfl, rfl⟩
  | ns, d :: ds, _, h, e => by
    cases h with
    | cons r t =>
      cases d with
      | int i =>
        cases r
        simp only [intsOf, Option.map_eq_some_iff] at e
        obtain ⟨m, e1, e2⟩ := e
        subst e2
        obtain ⟨q1, q2⟩ := DqAll.ints_inv t e1
        subst q1 q2
        exact ⟨rfl, rfl⟩
      | _ => simp [intsOf] at e
end

/-! ### values -/
/-- what an object that can change holds -/
def Cnt (K : W.Frag) (F : Hp) : HO → Vl → Prop
  | .lst vs, .dat (.list ds) => DqAll K F vs ds
  | .dK ks, .dI kvs => Paired (fun (p : Key × V) (q : Int × D) => p.1 = Sum.inl q.1 ∧ Dq K F p.2 q.2) ks kvs
  | _, _ => False
theorem Paired.mapP {α β : Type} {P Q : α → β → Prop} : ∀ {l : List α} {m : List β}, Paired P l m → (∀ a b, P a b → Q a b) → Paired Q l m
  | _, _, .nil, _ => .nil
  | _, _, .cons r t, f => .cons (f _ _ r) (Paired.mapP t f)
theorem Cnt.mono {K : W.Frag} {F F' : Hp} (s : Same F F') {o : HO} {v : Vl} (h : Cnt K F o v) : Cnt K F' o v := by
  cases o with
  | lst vs =>
    cases v with
    | dat d =>
      cases d with
      | list ds => exact DqAll.mono s ds vs h
      | _ => exact h.elim
    | _ => exact h.elim
  | dK ks =>
    cases v with
    | dI kvs => exact Paired.mapP h fun a b r => ⟨r.1, Dq.mono s _ _ r.2⟩
    | _ => exact h.elim
  | _ => cases v <;> exact h.elim

/-- a frozen value -/
def Frep (K : W.Frag) (F : Hp) (x : V) : Vl → Prop
  | .dat d => Dq K F x d
  | .exn _ _ => False
  | v => ∃ a o, x = .ref a ∧ F a = some o ∧ Cnt K F o v
theorem Frep.mono {K : W.Frag} {F F' : Hp} (s : Same F F') {x : V} {v : Vl} (h : Frep K F x v) : Frep K F' x v := by
  cases v with
  | dat d => exact Dq.mono s d x h
  | exn _ _ => exact h
  | dI _ => obtain ⟨a, o, e, f, c⟩ := h; exact ⟨a, o, e, s _ _ f, c.mono s⟩
  | dT _ => obtain ⟨a, o, e, f, c⟩ := h; exact ⟨a, o, e, s _ _ f, c.mono s⟩
/-- freezing -/
theorem Cnt.frep {K : W.Frag} {F : Hp} {a : Addr} {o : HO} {v : Vl} (h : Cnt K F o v) (n : F a = none) : Frep K (upd F a o) (.ref a) v := by
  have h' := h.mono (same_upd (o := o) n)
  cases v with
  | dat d =>
    cases o with
    | lst vs =>
      cases d with
      | list ds => exact .lst (Rd.of upd_same) h'
      | _ => exact h.elim
    | _ => exact h.elim
  | exn _ _ => cases o <;> exact h.elim
  | dI kvs => exact ⟨a, o, rfl, upd_same, h'⟩
  | dT kvs => exact ⟨a, o, rfl, upd_same, h'⟩

/-! ### slots -/
structure Rel (K : W.Frag) (F : Hp) (σ : L2.St) (H : Hp) (ρ : Env) : Prop where
  sub : Same F H
  len : σ.length = ρ.length
  val : ∀ (i : Nat) v, ρ[i]? = some (some (.val v)) → ∃ x, σ[i]? = some (some x) ∧ Frep K F x v
  own : ∀ (i : Nat) v, ρ[i]? = some (some (.own v)) → ∃ a o, σ[i]? = some (some (.ref a)) ∧ F a = none ∧ H a = some o ∧ Cnt K F o v
  dis : ∀ (i j : Nat) v u a, i ≠ j → ρ[i]? = some (some (.own v)) → ρ[j]? = some (some (.own u)) → σ[i]? = some (some (.ref a)) → σ[j]? ≠ some (some (.ref a))
section
variable {K : W.Frag} {F H F' H' : Hp} {σ : L2.St} {ρ : Env}
theorem Rel.ext (r : Rel K F σ H ρ) (e : Ext F H F' H') : Rel K F' σ H' ρ where
  sub := e.sub
  len := r.len
  val := fun i v h => let ⟨x, h1, h2⟩ := r.val i v h; ⟨x, h1, h2.mono e.ff⟩
  own := fun i v h => by
    obtain ⟨a, o, h1, h2, h3, h4⟩ := r.own i v h
    refine ⟨a, o, h1, ?_, e.hh _ _ h3, h4.mono e.ff⟩
    cases q : F' a with
    | none => rfl
    | some u =>
      rcases e.new a u q with z | z
      · rw [h2] at z; cases z
      · rw [h3] at z; cases z
  dis := r.dis
end

/-- a value that the evaluator has told: frozen, or a slot's own -/
def VR (K : W.Frag) (F : Hp) (σ : L2.St) (ρ : Env) (x : V) : Bool × Vl → Prop
  | (false, v) => Frep K F x v
  | (true, v) => ∃ i : Nat, ρ[i]? = some (some (.own v)) ∧ σ[i]? = some (some x)
/-- data that may be read: frozen, or a list that stands for itself -/
def RD (K : W.Frag) (F H : Hp) (x : V) (d : D) : Prop :=
  Dq K F x d ∨ ∃ a vs ds, x = .ref a ∧ d = .list ds ∧ H a = some (.lst vs) ∧ DqAll K F vs ds
/-- a value to be read -/
def RV (K : W.Frag) (F H : Hp) (x : V) (v : Vl) : Prop :=
  Frep K F x v ∨ ∃ a o, x = .ref a ∧ F a = none ∧ H a = some o ∧ Cnt K F o v
section
variable {K : W.Frag} {F H F' H' : Hp} {σ : L2.St} {ρ : Env} {x : V}
theorem VR.mono (e : Ext F H F' H') {r : Bool × Vl} (h : VR K F σ ρ x r) : VR K F' σ ρ x r := by
  obtain ⟨b, v⟩ := r
  cases b with
  | false => exact Frep.mono e.ff h
  | true => exact h
theorem VR.rv (q : Rel K F σ H ρ) {r : Bool × Vl} (h : VR K F σ ρ x r) : RV K F H x r.2 := by
  obtain ⟨b, v⟩ := r
  cases b with
  | false => exact .inl h
  | true =>
    obtain ⟨i, h1, h2⟩ := h
    obtain ⟨a, o, e1, e2, e3, e4⟩ := q.own i v h1
    rw [h2] at e1
    cases e1
    exact .inr ⟨a, o, rfl, e2, e3, e4⟩
theorem RV.rd {d : D} (h : RV K F H x (.dat d)) : RD K F H x d := by
  rcases h with h | ⟨a, o, e, _, h, c⟩
  · exact .inl h
  · cases o with
    | lst vs =>
      cases d with
      | list ds => exact .inr ⟨a, vs, ds, e, rfl, h, c⟩
      | _ => exact c.elim
    | _ => exact c.elim
theorem VR.rd (q : Rel K F σ H ρ) {r : Bool × Vl} {d : D} (h : VR K F σ ρ x r) (e : datR r = some d) : RD K F H x d := by
  obtain ⟨b, v⟩ := r
  cases v with
  | dat d' =>
    have : d' = d := by simpa [datR] using e
    subst this
    exact (VR.rv q h).rd
  | _ => cases b <;> simp [datR] at e
theorem VR.dp {r : Bool × Vl} {d : D} (h : VR K F σ ρ x r) (e : dat r = some d) : Dq K F x d := by
  obtain ⟨b, v⟩ := r
  cases b with
  | true => simp [dat] at e
  | false =>
    cases v with
    | dat d' =>
      have : d' = d := by simpa [dat] using e
      subst this
      exact h
    | _ => simp [dat] at e
theorem RD.mono (e : Ext F H F' H') {d : D} (h : RD K F H x d) : RD K F' H' x d := by
  rcases h with h | ⟨a, vs, ds, e1, e2, e3, e4⟩
  · exact .inl (Dq.mono e.ff _ _ h)
  · exact .inr ⟨a, vs, ds, e1, e2, e.hh _ _ e3, DqAll.mono e.ff _ _ e4⟩
theorem RD.data (s : Same F H) {d : D} (h : RD K F H x d) : Dq K H x d := by
  rcases h with h | ⟨a, vs, ds, rfl, rfl, e3, e4⟩
  · exact Dq.mono s _ _ h
  · exact .lst (Rd.of e3) (DqAll.mono s _ _ e4)
theorem RD.list (s : Same F H) {ds : List D} (h : RD K F H x (.list ds)) : ∃ a vs, x = .ref a ∧ Rd H a (.lst vs) ∧ DqAll K F vs ds := by
  rcases h with h | ⟨a, vs, ds', e1, e2, e3, e4⟩
  · cases h with
    | lst hs ha => exact ⟨_, _, rfl, Rd.mono s hs, ha⟩
  · cases e2
    exact ⟨a, vs, e1, Rd.of e3, e4⟩
theorem RD.tup (s : Same F H) {ds : List D} (h : RD K F H x (.tuple ds)) : ∃ a vs, x = .ref a ∧ SqT K H a vs ∧ TupG K F a vs ∧ DqAll K F vs ds := by
  rcases h with h | ⟨a, vs, ds', e1, e2, e3, e4⟩
  · cases h with
    | tup hs ha => exact ⟨_, _, rfl, sqT_mono s hs.sq, hs, ha⟩
  · cases e2
theorem RD.int {i : Int} (h : RD K F H x (.int i)) : x = .int i := by
  rcases h with h | ⟨a, vs, ds', e1, e2, e3, e4⟩
  · cases h; rfl
  · cases e2
theorem RD.bool {i : Bool} (h : RD K F H x (.bool i)) : x = .bl i := by
  rcases h with h | ⟨a, vs, ds', e1, e2, e3, e4⟩
  · cases h; rfl
  · cases e2
theorem RD.none (h : RD K F H x .none) : x = .non := by
  rcases h with h | ⟨a, vs, ds', e1, e2, e3, e4⟩
  · cases h; rfl
  · cases e2
theorem RD.str {z : Str} (h : RD K F H x (.str z)) : x = .str z := by
  rcases h with h | ⟨a, vs, ds', e1, e2, e3, e4⟩
  · cases h; rfl
  · cases e2
end
/-- a new list of data, frozen -/
theorem lay_list {K : W.Frag} {F H : Hp} {p : Addr} {vs : List V} {ds : List D} (s : Same F H) (n : H p = none) (h : DqAll K F vs ds) : Dq K (upd F p (.lst vs)) (.ref p) (.list ds) :=
  .lst (Rd.of upd_same) (DqAll.mono (same_upd (s.free n)) _ _ h)
theorem lay_tup {K : W.Frag} {F H : Hp} {p : Addr} {o : Obj} {vs : List V} {ds : List D} (s : Same F H) (n : H p = none) (ho : isTupO o) (h : DqAll K F vs ds) : Dq K (upd F p (.frz o (.tup vs))) (.ref p) (.tuple ds) :=
  .tup (.inl ⟨o, upd_same, ho.1, ho.2⟩) (DqAll.mono (same_upd (s.free n)) _ _ h)
/-- what is wanted of a new tuple -/
abbrev NewT (H : Hp) (vs : List V) (Q : VK) : Prop := ∀ p o, H p = none → isTupO o → Q (.ref p) (upd H p (.frz o (.tup vs)))
/-- a new tuple is laid -/
theorem newT {X : Cx} {pins : List (Addr × Obj)} {σ : L2.St} {H : Hp} {s : Shared} {vs : List V} {its : List Value} {Q : VK} (I : Inv X pins σ H s) (r : Vals vs its) (z : vs.length ≤ sizeLine) (q : NewT H vs Q) :
    EP X pins σ Q (.ref s.heap.objs.size) { s with heap := s.heap.push { cls := .type "tuple", data := .seq its.toArray } } := by
  refine ⟨.ref s.heap.objs.size, _, I.laid (t' := s.toks) (o := .frz { cls := .type "tuple", data := .seq its.toArray } (.tup vs)) (fun b ob q => Heap.get?_push_of_some _ q) (Nat.le_refl _) ?_, rfl, q _ _ (I.hok.fresh (Nat.le_refl _)) ⟨rfl, rfl⟩⟩
  exact ⟨Heap.get?_push_size _ rfl, z, its, r, IsTup.new _ _⟩
end RL
/-! RLOps: operators and comparisons by data. -/
namespace RL
open PySem PySem.Spec PyProof.Rows L2

theorem grd_ok {b : Bool} {a : Type} {r : Option a} {x : a} (h : grdO b r = some x) : b = true ∧ r = some x := by
  cases b with
  | true => exact ⟨rfl, h⟩
  | false => cases h
theorem szOk_le {n : Nat} (h : szOk n = true) : n ≤ sizeLine := of_decide_eq_true h
theorem ok_inj {a : Type} {x y : a} (h : some x = some y) : x = y := by cases h; rfl

def opOf : BOp → Operator
  | .add => .Add
  | .sub => .Sub
  | .mul => .Mult
  | .fdiv => .FloorDiv
  | .mod => .Mod
  | .pow => .Pow
/-- what is wanted of a new value -/
abbrev Wants (K : W.Frag) (F H : Hp) (z : D) (Q : VK) : Prop := ∀ v F' H', Ext F H F' H' → Dq K F' v z → Q v H'
def rBin (K : W.Frag) (o : BOp) : R2 := fun x y H Q => ∃ F d e z, Same F H ∧ RD K F H x d ∧ RD K F H y e ∧ binD o d e = some z ∧ Wants K F H z Q

section
variable {X : Cx}
theorem smallI_ok {i : Int} (h : smallI i = true) : -(2 ^ 64) < i ∧ i < 2 ^ 64 := by
  unfold smallI at h
  rw [Bool.and_eq_true] at h
  exact ⟨of_decide_eq_true h.1, of_decide_eq_true h.2⟩

theorem op_catL : OpR X (binaryOp .Add) (fun x y H Q => ∃ l b xs zs, x = .ref l ∧ y = .ref b ∧ Rd H l (.lst xs) ∧ Rd H b (.lst zs) ∧ xs.length + zs.length ≤ sizeLine ∧ ∀ p, H p = none → Q (.ref p) (upd H p (.lst (xs ++ zs)))) := by
  intro pins s σ H x y v u Q I rx ry h
  obtain ⟨l, b, xs, zs, rfl, rfl, hH, hB, hz, q⟩ := h
  cases rx
  cases ry
  obtain ⟨_, its, n, r, e⟩ := hH.ok I.hok
  obtain ⟨_, its2, n2, r2, e2⟩ := hB.ok I.hok
  refine PySem.P.add_list e e2 ?_ (by rw [List.size_toArray, List.size_toArray, ← r.length, ← r2.length]; omega)
  have ea : its.toArray ++ its2.toArray = (its ++ its2).toArray := by simp
  rw [ea]
  exact ⟨.ref _, _, I.lnew (t' := s.toks) (r.append r2) (by rw [List.length_append]; omega), rfl, q _ I.fresh⟩

/-- a list times an int -/
theorem op_repL : OpR X (binaryOp .Mult) (fun x y H Q => ∃ l k xs, x = .ref l ∧ y = .int k ∧ Rd H l (.lst xs) ∧ -(2 ^ 63) ≤ k ∧ k < 2 ^ 63 ∧ xs.length * k.toNat ≤ sizeLine ∧
    ∀ p, H p = none → Q (.ref p) (upd H p (.lst (List.replicate k.toNat xs).flatten))) := by
  intro pins s σ H x y v u Q I rx ry h
  obtain ⟨l, k, xs, rfl, rfl, hH, h1, h2, hz, q⟩ := h
  cases rx
  obtain ⟨t, rfl⟩ := ry
  obtain ⟨_, its, n, r, e⟩ := hH.ok I.hok
  have hl := r.length
  have hlen : its.toArray.size * k.toNat ≤ sizeLine := by rw [List.size_toArray, ← hl]; exact hz
  have hcap : ¬ its.toArray.size * k.toNat > (2 ^ 63 - 1) / 8 := by
    have : (sizeLine : Nat) ≤ (2 ^ 63 - 1) / 8 := by decide
    omega
  have hfit : ¬ (!Builtin.List.listFitsIndex k) = true := by
    rw [fitsIndex_both h1 h2]
    exact Bool.false_ne_true
  have hlong : ¬ Builtin.List.listTooLong (its.toArray.size * k.toNat) = true := by
    rw [notLongL hlen]
    exact Bool.false_ne_true
  have hnew : List.foldl (fun x1 x2 => x1 ++ x2) #[] (List.replicate (if its.toArray.isEmpty = true then 0 else k.toNat) its.toArray) = (List.replicate k.toNat its).flatten.toArray := by
    have f0 : ∀ m : Nat, List.foldl (fun x1 x2 => x1 ++ x2) #[] (List.replicate m its.toArray) = (List.replicate m its).flatten.toArray := fun m => by
      have := foldl_rep its m []
      rw [List.nil_append] at this
      exact this
    rw [f0]
    cases its with
    | nil => simp
    | cons a r' => rw [if_neg (by simp)]
  refine wpAny_binaryOp_repeat_ref (T := "list") (U := "int") (by decide) ⟨_, e, rfl⟩ (fun s' => typeIs_int s' k t) noFill_list_mul F.fills_int_mul F.slot_int_rmul repeat_list F.slot_int_index.lookup
    (call_meets F.slot_int_rmul (typeIs_int s k t) F.entry_int_rmul (F.args_int_rmul_2 _ _) (int___rmul___int_list k t l its.toArray n)
      ⟨e, rfl, ⟨_, e, rfl⟩, call_meets F.slot_list_mul ⟨_, e, rfl⟩ F.entry_list_mul (F.args_list_mul_2 _ _) (AutoListH.list___mul___list_int_3 l its.toArray n k t hfit hcap hlong) ⟨e, ?_⟩⟩)
  rw [hnew]
  exact ⟨.ref _, _, I.lnew (t' := s.toks) (r.rep k.toNat) (by rw [PyProof.Rows.lm_len_rep_flat, Nat.mul_comm]; exact hz), rfl, q _ I.fresh⟩

theorem tuple_mulS (l : Addr) (items : Array Value) (n : Nat) (dd : Option Addr) (sl : Array (Option Value)) (x : Int) (u : Tok) (c0 : (decide (x < -(2 ^ 63)) || decide (x ≥ 2 ^ 63)) = false) (c1 : (items.isEmpty || x == 1) = true) :
    Meets (Builtin.«tuple.__mul__» ⟨[.ref l, .int x u], []⟩) (fun _ R s => s.heap.get? l = some { cls := .type "tuple", dict := dd, data := .seq items n, slots := sl } ∧ R (.ok (.ret (Value.ref l))) { s with heap := s.heap, toks := s.toks }) :=
  .of_wp fun prog w A R s h => by
    obtain ⟨hp, g, d, tk, os⟩ := s
    obtain ⟨hl, h⟩ := h
    have f1 := AutoSeq1.idx_int
    wp_walk using wpAny_loadPart' hl
    repeat (first
      | (refine wpAny_ite_false (decide_eq_false (by rw [c0]; exact Bool.false_ne_true)) ?_; wp_walk using wpAny_loadPart' hl)
      | (refine wpAny_ite_true (decide_eq_true c1) ?_; wp_walk using wpAny_loadPart' hl))
    exact ⟨_, rfl, h⟩
theorem tuple_mulZ (l : Addr) (items : Array Value) (n : Nat) (dd : Option Addr) (sl : Array (Option Value)) (x : Int) (u : Tok) (c0 : (decide (x < -(2 ^ 63)) || decide (x ≥ 2 ^ 63)) = false) (c1 : (items.isEmpty || x == 1) = false) (c2 : (decide (x ≤ 0) || items.isEmpty) = true) :
    Meets (Builtin.«tuple.__mul__» ⟨[.ref l, .int x u], []⟩) (fun _ R s => s.heap.get? l = some { cls := .type "tuple", dict := dd, data := .seq items n, slots := sl } ∧
      R (.ok (.ret (Value.ref s.heap.objs.size))) { s with heap := s.heap.push { cls := Value.type "tuple", data := Data.seq #[] }, toks := s.toks }) :=
  .of_wp fun prog w A R s h => by
    obtain ⟨hp, g, d, tk, os⟩ := s
    obtain ⟨hl, h⟩ := h
    have f1 := AutoSeq1.idx_int
    wp_walk using wpAny_loadPart' hl
    repeat (first
      | (refine wpAny_ite_false (decide_eq_false (by rw [c0]; exact Bool.false_ne_true)) ?_; wp_walk using wpAny_loadPart' hl)
      | (refine wpAny_ite_false (decide_eq_false (by rw [c1]; exact Bool.false_ne_true)) ?_; wp_walk using wpAny_loadPart' hl)
      | (refine wpAny_ite_true (decide_eq_true c2) ?_; wp_walk using wpAny_loadPart' hl))
    exact ⟨_, rfl, h⟩
/-- a tuple times an int, any -/
theorem op_repA : OpR X (binaryOp .Mult) (fun x y H Q => ∃ l k xs, x = .ref l ∧ y = .int k ∧ SqT X.K H l xs ∧ -(2 ^ 20) < k ∧ k ≤ 1000 ∧ xs.length ≤ 1000 ∧ (xs = [] ∨ k = 1 → Q (.ref l) H) ∧
    NewT H (List.replicate k.toNat xs).flatten Q) := by
  intro pins s σ H x y v u Q I rx ry h
  obtain ⟨l, k, xs, rfl, rfl, hT, h1, h2, hz, q1, q2⟩ := h
  cases rx
  obtain ⟨t, rfl⟩ := ry
  obtain ⟨its, r, ⟨⟨cls, dd, data, sl⟩, ho, hc, n, hd⟩, hs⟩ := I.tuple hT
  simp only at hc hd
  subst hc hd
  have hle : its.length = xs.length := r.length.symm
  have c0 : (decide (k < -(2 ^ 63)) || decide (k ≥ 2 ^ 63)) = false := by
    rw [decide_eq_false (by omega), decide_eq_false (by omega)] <;> rfl
  by_cases hne : xs = [] ∨ k = 1
  · have c1 : (its.toArray.isEmpty || k == 1) = true := by
      rcases hne with z | z
      · subst z
        have : its = [] := List.eq_nil_of_length_eq_zero hle
        subst this; rfl
      · subst z; simp
    exact wpAny_binaryOp_repeat_ref (T := "tuple") (U := "int") (by decide) ⟨_, ho, rfl⟩ (fun s' => typeIs_int s' k t) noFill_tuple_mul F.fills_int_mul F.slot_int_rmul repeat_tuple F.slot_int_index.lookup
      (call_meets F.slot_int_rmul (typeIs_int s k t) F.entry_int_rmul (F.args_int_rmul_2 _ _) (int_rmul_tuple k t l its.toArray n dd sl)
        ⟨ho, rfl, ⟨_, ho, rfl⟩, call_meets F.slot_tuple_mul ⟨_, ho, rfl⟩ F.entry_tuple_mul (F.args_tuple_mul_2 _ _) (tuple_mulS l its.toArray n dd sl k t c0 c1) ⟨ho, ⟨.ref l, H, I, rfl, q1 hne⟩⟩⟩)
  · have n1 : xs ≠ [] := fun z => hne (.inl z)
    have n2 : k ≠ 1 := fun z => hne (.inr z)
    have hn : its ≠ [] := fun e => n1 (by rw [e] at hle; exact List.eq_nil_of_length_eq_zero hle.symm)
    have hi : its.toArray.isEmpty = false := by
      cases its with
      | nil => exact absurd rfl hn
      | cons a b => rfl
    have c1 : (its.toArray.isEmpty || k == 1) = false := by
      rw [hi, Bool.false_or]
      exact beq_eq_false_iff_ne.mpr n2
    have hsz0 : its.toArray.size = xs.length := by rw [List.size_toArray, hle]
    by_cases hk : 2 ≤ k
    · have hm : ((its.toArray.size : Nat) : Int) * k ≤ 1000000 := by
        rw [hsz0]
        have a1 : ((xs.length : Nat) : Int) * k ≤ 1000 * k := Int.mul_le_mul_of_nonneg_right (by omega) (by omega)
        omega
      have flen : (List.replicate k.toNat its).flatten.length ≤ sizeLine := by
        rw [PyProof.Rows.lm_len_rep_flat, hle, sizeLine_eq]
        have a1 : k.toNat * xs.length ≤ 1000 * 1000 := Nat.mul_le_mul (by omega) hz
        omega
      have c2 : (decide (k ≤ 0) || its.toArray.isEmpty) = false := by
        rw [hi, Bool.or_false]
        exact decide_eq_false (by omega)
      have c4 : Builtin.Tuple.tupleTooMany (((its.toArray.size : Nat) : Int) * k) = false := by
        unfold Builtin.Tuple.tupleTooMany
        rw [sizeLine_eq]
        exact decide_eq_false (by omega)
      refine wpAny_binaryOp_repeat_ref (T := "tuple") (U := "int") (by decide) ⟨_, ho, rfl⟩ (fun s' => typeIs_int s' k t) noFill_tuple_mul F.fills_int_mul F.slot_int_rmul repeat_tuple F.slot_int_index.lookup
        (call_meets F.slot_int_rmul (typeIs_int s k t) F.entry_int_rmul (F.args_int_rmul_2 _ _) (int_rmul_tuple k t l its.toArray n dd sl)
          ⟨ho, rfl, ⟨_, ho, rfl⟩, call_meets F.slot_tuple_mul ⟨_, ho, rfl⟩ F.entry_tuple_mul (F.args_tuple_mul_2 _ _) (tuple_mulW l its.toArray n dd sl k t c0 c1 c2 (by omega) c4 (by rw [size_rep, List.size_toArray]; exact flen)) ⟨ho, ?_⟩⟩)
      rw [size_rep]
      exact newT I (r.rep k.toNat) (by rw [PyProof.Rows.lm_len_rep_flat, sizeLine_eq]; have a1 : k.toNat * xs.length ≤ 1000 * 1000 := Nat.mul_le_mul (by omega) hz; omega) q2
    · have c2 : (decide (k ≤ 0) || its.toArray.isEmpty) = true := by rw [decide_eq_true (by omega)]; rfl
      refine wpAny_binaryOp_repeat_ref (T := "tuple") (U := "int") (by decide) ⟨_, ho, rfl⟩ (fun s' => typeIs_int s' k t) noFill_tuple_mul F.fills_int_mul F.slot_int_rmul repeat_tuple F.slot_int_index.lookup
        (call_meets F.slot_int_rmul (typeIs_int s k t) F.entry_int_rmul (F.args_int_rmul_2 _ _) (int_rmul_tuple k t l its.toArray n dd sl)
          ⟨ho, rfl, ⟨_, ho, rfl⟩, call_meets F.slot_tuple_mul ⟨_, ho, rfl⟩ F.entry_tuple_mul (F.args_tuple_mul_2 _ _) (tuple_mulZ l its.toArray n dd sl k t c0 c1 c2) ⟨ho, ?_⟩⟩)
      have e0 : (List.replicate k.toNat xs).flatten = [] := by
        have : k.toNat = 0 := by omega
        rw [this]; rfl
      rw [e0] at q2
      exact newT I .nil (Nat.zero_le _) q2
/-- t + u of tuples, any -/
theorem op_catG : OpR X (binaryOp .Add) (fun x y H Q => ∃ a b xs ys, x = .ref a ∧ y = .ref b ∧ SqT X.K H a xs ∧ SqT X.K H b ys ∧ xs.length + ys.length ≤ sizeLine ∧
    (xs = [] → Q (.ref b) H) ∧ (xs ≠ [] → ys = [] → Q (.ref a) H) ∧ NewT H (xs ++ ys) Q) := by
  intro pins s σ H x y v u Q I rx ry h
  obtain ⟨a, b, xs, ys, rfl, rfl, ha, hb, hz, q0, q1, q2⟩ := h
  cases rx
  cases ry
  obtain ⟨its, r1, p1, _⟩ := I.tuple ha
  obtain ⟨its2, r2, p2, _⟩ := I.tuple hb
  by_cases hx : xs = []
  · subst hx
    cases r1
    exact cat_tup0 p1 p2 ⟨.ref b, H, I, rfl, q0 rfl⟩
  · refine HT.cat_tup p1 p2 (fun z => hx (r1.nil_iff.mp z)) (fun z => ⟨.ref a, H, I, rfl, q1 hx (r2.nil_iff.mp z)⟩) (fun z => ?_) (by rw [← r1.length, ← r2.length]; exact hz)
    exact newT I (r1.append r2) (by rw [List.length_append]; exact hz) q2
theorem op_bin (o : BOp) : OpR X (binaryOp (opOf o)) (rBin X.K o) := by
  intro pins s σ H x y v u Q I rx ry h
  obtain ⟨F, d, e, z, sF, hx, hy, hb, k⟩ := h
  have fin : ∀ {w : V}, Dq X.K F w z → Q w H := fun hd => k _ F H (Ext.refl sF) hd
  cases o with
  | add =>
    cases d with
    | int i =>
      cases e with
      | int j => cases ok_inj hb; exact op_add pins s σ H x y v u Q I rx ry ⟨i, j, hx.int, hy.int, fin (.int _)⟩
      | _ => cases hb
    | str i =>
      cases e with
      | str j =>
        obtain ⟨g, hb⟩ := grd_ok hb
        cases ok_inj hb
        exact op_add_str pins s σ H x y v u Q I rx ry ⟨i, j, hx.str, hy.str, szOk_le g, fin (.str _)⟩
      | _ => cases hb
    | tuple xs =>
      cases e with
      | tuple ys =>
        obtain ⟨g, hb⟩ := grd_ok hb
        cases ok_inj hb
        obtain ⟨a, vs, rfl, t1, t1', r1⟩ := hx.tup sF
        obtain ⟨b, us, rfl, t2, t2', r2⟩ := hy.tup sF
        have l1 := r1.length
        have l2 := r2.length
        have hs := szOk_le g
        refine op_catG pins s σ H _ _ v u Q I rx ry ⟨a, b, vs, us, rfl, rfl, t1, t2, by omega, fun e1 => ?_, fun _ e2 => ?_, fun p o np ho => ?_⟩
        · subst e1; cases r1; exact fin (.tup t2' r2)
        · subst e2; cases r2; rw [List.append_nil] at fin; exact fin (.tup t1' r1)
        · exact k _ _ _ (Ext.laid sF np) (lay_tup sF np ho (r1.append r2))
      | _ => cases hb
    | list xs =>
      cases e with
      | list ys =>
        obtain ⟨g, hb⟩ := grd_ok hb
        cases ok_inj hb
        obtain ⟨a, vs, rfl, t1, r1⟩ := hx.list sF
        obtain ⟨b, us, rfl, t2, r2⟩ := hy.list sF
        have l1 := r1.length
        have l2 := r2.length
        have hs := szOk_le g
        exact op_catL pins s σ H _ _ v u Q I rx ry ⟨a, b, vs, us, rfl, rfl, t1, t2, by omega, fun p np => k _ _ _ (Ext.laid sF np) (lay_list sF np (r1.append r2))⟩
      | _ => cases hb
    | _ => cases e <;> cases hb
  | sub =>
    cases d with
    | int i =>
      cases e with
      | int j => cases ok_inj hb; exact op_sub pins s σ H x y v u Q I rx ry ⟨i, j, hx.int, hy.int, fin (.int _)⟩
      | _ => cases hb
    | _ => cases e <;> cases hb
  | mul =>
    cases d with
    | int i =>
      cases e with
      | int j =>
        obtain ⟨g, hb⟩ := grd_ok hb
        cases ok_inj hb
        rw [Bool.or_eq_true] at g
        exact op_mul pins s σ H x y v u Q I rx ry ⟨i, j, hx.int, hy.int, g.imp smallI_ok smallI_ok, fin (.int _)⟩
      | _ => cases hb
    | list xs =>
      cases e with
      | int m =>
        obtain ⟨g, hb⟩ := grd_ok hb
        cases ok_inj hb
        simp only [Bool.and_eq_true, decide_eq_true_eq] at g
        obtain ⟨a, vs, rfl, t1, r1⟩ := hx.list sF
        have hs := szOk_le g.2
        have l1 := r1.length
        exact op_repL pins s σ H _ _ v u Q I rx ry ⟨a, m, vs, rfl, hy.int, t1, by omega, by omega, by rw [l1]; exact hs, fun p np => k _ _ _ (Ext.laid sF np) (lay_list sF np (r1.flat _))⟩
      | _ => cases hb
    | tuple xs =>
      cases e with
      | int m =>
        obtain ⟨g, hb⟩ := grd_ok hb
        cases ok_inj hb
        simp only [Bool.and_eq_true, decide_eq_true_eq] at g
        obtain ⟨a, vs, rfl, t1, t1', r1⟩ := hx.tup sF
        have l1 := r1.length
        refine op_repA pins s σ H _ _ v u Q I rx ry ⟨a, m, vs, rfl, hy.int, t1, g.1.1, g.1.2, by rw [l1]; exact g.2, fun e1 => ?_, fun p o np ho => k _ _ _ (Ext.laid sF np) (lay_tup sF np ho (r1.flat _))⟩
        have z : Dq X.K F (.ref a) (.tuple xs) := .tup t1' r1
        rcases e1 with e1 | e1
        · subst e1; cases r1
          have : (List.replicate m.toNat ([] : List PyData)).flatten = [] := by simp
          rw [this] at fin
          exact fin z
        · subst e1
          have : (List.replicate (1 : Int).toNat xs).flatten = xs := by simp
          rw [this] at fin
          exact fin z
      | _ => cases hb
    | _ => cases e <;> cases hb
  | fdiv =>
    cases d with
    | int i =>
      cases e with
      | int j =>
        obtain ⟨g, hb⟩ := grd_ok hb
        cases ok_inj hb
        simp only [Bool.and_eq_true, decide_eq_true_eq] at g
        exact op_fdiv pins s σ H x y v u Q I rx ry ⟨i, j, hx.int, hy.int, g, fin (.int _)⟩
      | _ => cases hb
    | _ => cases e <;> cases hb
  | mod =>
    cases d with
    | int i =>
      cases e with
      | int j =>
        obtain ⟨g, hb⟩ := grd_ok hb
        cases ok_inj hb
        exact op_mod pins s σ H x y v u Q I rx ry ⟨i, j, hx.int, hy.int, of_decide_eq_true g, fin (.int _)⟩
      | _ => cases hb
    | _ => cases e <;> cases hb
  | pow =>
    cases d with
    | int i =>
      cases e with
      | int j =>
        obtain ⟨g, hb⟩ := grd_ok hb
        cases ok_inj hb
        simp only [Bool.and_eq_true, decide_eq_true_eq] at g
        exact op_pow pins s σ H x y v u Q I rx ry ⟨i, j, hx.int, hy.int, ⟨g.1.1, by omega, g.2⟩, fin (.int _)⟩
      | _ => cases hb
    | _ => cases e <;> cases hb
end
end RL
/-! RLCmp: comparisons by data. -/
namespace RL
open PySem PySem.Spec PyProof.Rows L2

def copOf : COp → CmpOp
  | .eq => .Eq
  | .ne => .NotEq
  | .lt => .Lt
  | .le => .LtE
  | .gt => .Gt
  | .ge => .GtE
  | .isin => .In
  | .notin => .NotIn
def rCmp (K : W.Frag) (o : COp) : R2 := fun x y H Q => ∃ F d v b, Same F H ∧ RD K F H x d ∧ RV K F H y v ∧ cmpD o d v = some b ∧ Q (.bl b) H

theorem bind_ok {a b : Type} {r : Option a} {f : a → Option b} {y : b} (h : Option.bind r f = some y) : ∃ x, r = some x ∧ f x = some y := by
  cases r with
  | some x => exact ⟨x, rfl, h⟩
  | none => cases h

section
variable {X : Cx}
theorem op_inT (hu : X.A.units + 65 < cLine) : OpR X (compareOp .In) (fun x y H Q => ∃ d ds, Dp X.K H x d ∧ Dp X.K H y (.tuple ds) ∧ SeqAt.shaped d = true ∧ SeqAt.shaped (.tuple ds) = true ∧ Q (.bl (ds.any fun z => PyData.eqv z d)) H) := by
  intro pins s σ H x y v u Q I rx ry h
  obtain ⟨d, ds, hd, he, sd, se, q⟩ := h
  obtain ⟨as, r1⟩ := Dp.reads I d x v hd rx
  obtain ⟨bs, r2⟩ := Dp.reads I (.tuple ds) y u he ry
  exact SeqAt.in_tuple_reads r2 r1 (SeqAt.canLay_of_shaped se) (SeqAt.canLay_of_shaped sd) (room_in_shaped sd hu) ⟨.bl _, H, I, rfl, q⟩
theorem op_notInT (hu : X.A.units + 65 < cLine) : OpR X (compareOp .NotIn) (fun x y H Q => ∃ d ds, Dp X.K H x d ∧ Dp X.K H y (.tuple ds) ∧ SeqAt.shaped d = true ∧ SeqAt.shaped (.tuple ds) = true ∧ Q (.bl (!ds.any fun z => PyData.eqv z d)) H) := by
  intro pins s σ H x y v u Q I rx ry h
  obtain ⟨d, ds, hd, he, sd, se, q⟩ := h
  obtain ⟨as, r1⟩ := Dp.reads I d x v hd rx
  obtain ⟨bs, r2⟩ := Dp.reads I (.tuple ds) y u he ry
  exact SeqAt.notIn_tuple_reads r2 r1 (SeqAt.canLay_of_shaped se) (SeqAt.canLay_of_shaped sd) (room_in_shaped sd hu) ⟨.bl _, H, I, rfl, q⟩

/-- the look into a dict by ints -/
theorem val_look {K : W.Frag} {F : Hp} (i : Int) : ∀ {ks : List (Key × V)} {kvs : List (Int × D)}, Paired (fun (p : Key × V) (q : Int × D) => p.1 = Sum.inl q.1 ∧ Dq K F p.2 q.2) ks kvs →
    (∀ d, lookI i kvs = some d → ∃ v, valV ks (.inl i) = some v ∧ Dq K F v d) ∧ (lookI i kvs = none → valV ks (.inl i) = none)
  | _, _, .nil => ⟨fun d h => (nomatch h), fun _ => rfl⟩
  | _, _, @Paired.cons _ _ _ p q ks kvs r t => by
    obtain ⟨k, v⟩ := p
    obtain ⟨j, d⟩ := q
    obtain ⟨e, rd⟩ := r
    simp only at e
    subst e
    obtain ⟨h1, h2⟩ := val_look i t
    by_cases hj : j = i
    · subst hj
      refine ⟨fun d' h => ?_, fun h => ?_⟩
      · simp only [lookI, if_true] at h
        cases h
        exact ⟨v, by simp [valV], rd⟩
      · simp [lookI] at h
    · have hk : ¬ ((Sum.inl j : Key) = Sum.inl i) := fun z => hj (Sum.inl.inj z)
      have hv : valV ((Sum.inl j, v) :: ks) (Sum.inl i : Key) = valV ks (.inl i) := by
        simp [valV, hj]
      rw [hv]
      simp only [lookI, if_neg hj]
      exact ⟨h1, h2⟩
theorem RV.dI {K : W.Frag} {F H : Hp} {x : V} {kvs : List (Int × D)} (s : Same F H) (h : RV K F H x (.dI kvs)) : ∃ a ks, x = .ref a ∧ H a = some (.dK ks) ∧ Paired (fun (p : Key × V) (q : Int × D) => p.1 = Sum.inl q.1 ∧ Dq K F p.2 q.2) ks kvs := by
  rcases h with h | ⟨a, o, e, _, h, c⟩
  · obtain ⟨a, o, e, h, c⟩ := h
    cases o with
    | dK ks => exact ⟨a, ks, e, s _ _ h, c⟩
    | _ => exact c.elim
  · cases o with
    | dK ks => exact ⟨a, ks, e, h, c⟩
    | _ => exact c.elim
theorem RV.dT {K : W.Frag} {F H : Hp} {x : V} {kvs : List (List Int × D)} (h : RV K F H x (.dT kvs)) : False := by
  rcases h with h | ⟨a, o, e, _, h, c⟩
  · obtain ⟨a, o, e, h, c⟩ := h
    cases o <;> exact c.elim
  · cases o <;> exact c.elim
theorem RV.exn {K : W.Frag} {F H : Hp} {x : V} {c : Nat} {p : Option D} (h : RV K F H x (.exn c p)) : False := by
  rcases h with h | ⟨a, o, e, _, h, c⟩
  · exact h
  · cases o <;> exact c.elim

theorem lexAt_shift (e r : Nat → Bool) (z : Bool) : ∀ k i : Nat, Ob.lexAt e r z (i + 1) k = Ob.lexAt (fun j => e (j + 1)) (fun j => r (j + 1)) z i k
  | 0, _ => rfl
  | k + 1, i => by rw [Ob.lexAt_succ, Ob.lexAt_succ, lexAt_shift e r z k (i + 1)]
/-- lexicographic, by what is told of the first pair that differs -/
def lexF (f : Int → Int → Bool) (z : Bool) : List Int → List Int → Bool
  | x :: xs, y :: ys => if x = y then lexF f z xs ys else f x y
  | _, _ => z
theorem lexAt_lists (f : Int → Int → Bool) (z : Bool) : ∀ ns ms : List Int,
    Ob.lexAt (fun j => decide (ns.getD j 0 = ms.getD j 0)) (fun j => f (ns.getD j 0) (ms.getD j 0)) z 0 (min ns.length ms.length) = lexF f z ns ms
  | [], ms => by simp [lexF, Ob.lexAt_zero]
  | _ :: _, [] => by simp [lexF, Ob.lexAt_zero]
  | n :: ns, m :: ms => by
    have h : min (n :: ns).length (m :: ms).length = min ns.length ms.length + 1 := by simp only [List.length_cons]; omega
    rw [h, Ob.lexAt_succ, lexAt_shift]
    have ih := lexAt_lists f z ns ms
    simp only [List.getD_cons_succ, List.getD_cons_zero] at ih ⊢
    rw [ih]
    simp [lexF]
theorem lexF_lt : ∀ ns ms : List Int, lexF (fun x y => decide (x < y)) (decide (ns.length < ms.length)) ns ms = HT.lexLt ns ms
  | [], [] => rfl
  | [], _ :: _ => by simp [lexF, HT.lexLt]
  | _ :: _, [] => by simp [lexF, HT.lexLt]
  | n :: ns, m :: ms => by
    have ih := lexF_lt ns ms
    simp only [lexF, HT.lexLt_cons, List.length_cons, Nat.add_lt_add_iff_right]
    rw [ih]
theorem lexF_not (f g : Int → Int → Bool) (h : ∀ x y, x ≠ y → f x y = !g x y) (z : Bool) : ∀ ns ms : List Int, lexF f (!z) ns ms = !lexF g z ns ms
  | [], _ => by simp [lexF]
  | _ :: _, [] => by simp [lexF]
  | n :: ns, m :: ms => by
    have ih := lexF_not f g h z ns ms
    simp only [lexF]
    by_cases e : n = m
    · rw [if_pos e, if_pos e, ih]
    · rw [if_neg e, if_neg e, h n m e]
theorem lexF_swap (f : Int → Int → Bool) (z : Bool) : ∀ ns ms : List Int, lexF f z ns ms = lexF (fun x y => f y x) z ms ns
  | [], [] => rfl
  | [], _ :: _ => rfl
  | _ :: _, [] => rfl
  | n :: ns, m :: ms => by
    have ih := lexF_swap f z ns ms
    simp only [lexF, ih]
    by_cases e : n = m
    · rw [if_pos e, if_pos e.symm]
    · rw [if_neg e, if_neg fun z => e z.symm]

/-- t op u for tuples of ints -/
theorem tup_ord {op : CmpOp} {f : Int → Int → Bool} {zz : Nat → Nat → Bool} (hop : compareOp op = richCompare op)
    (hr : ∀ (A : Around) (s : Shared) (a b : Int) (t u : Tok), Ob.RcOp op A s (.int a t) (.int b u) (f a b))
    (rule : ∀ {A : Around} {s : Shared} {l b : Addr} {items items2 : Array Value} {e r : Nat → Bool}, s.heap.IsTuple l items → s.heap.IsTuple b items2 → A.units < cLine →
      (∀ j (h1 : j < items.size) (h2 : j < items2.size), SeqAt.EqAt A.in1 s items[j] items2[j] (e j)) → (∀ j (h1 : j < items.size) (h2 : j < items2.size), e j = false → Ob.RcOp op A.in1 s items[j] items2[j] (r j)) →
      Ob.RcOp op A s (.ref l) (.ref b) (Ob.lexAt e r (zz items.size items2.size) 0 (min items.size items2.size)))
    (hu : X.A.units < cLine) : OpR X (compareOp op) (fun x y H Q => ∃ (a b : Addr) (ns ms : List Int), x = .ref a ∧ y = .ref b ∧ SqT X.K H a (ns.map V.int) ∧ SqT X.K H b (ms.map V.int) ∧ Q (.bl (lexF f (zz ns.length ms.length) ns ms)) H) := by
  intro pins s σ H x y v u Q I rx ry h
  obtain ⟨a, b, ns, ms, rfl, rfl, ha, hb, q⟩ := h
  cases rx
  cases ry
  obtain ⟨its, r1, p1, _⟩ := I.tuple ha
  obtain ⟨its2, r2, p2, _⟩ := I.tuple hb
  have i1 : IntsAre its ns := Vals.ints r1
  have i2 : IntsAre its2 ms := Vals.ints r2
  have e1 : its.toArray.size = ns.length := by rw [List.size_toArray]; exact i1.length
  have e2 : its2.toArray.size = ms.length := by rw [List.size_toArray]; exact i2.length
  have at1 : ∀ j (h1 : j < its.toArray.size), ∃ t, its.toArray[j] = .int (ns.getD j 0) t := fun j h1 => PyProof.Rows.IntsAre.int_at i1 _ _ (by simp at h1; simp [h1])
  have at2 : ∀ j (h1 : j < its2.toArray.size), ∃ t, its2.toArray[j] = .int (ms.getD j 0) t := fun j h1 => PyProof.Rows.IntsAre.int_at i2 _ _ (by simp at h1; simp [h1])
  have R := rule (A := X.A) (s := s) (e := fun j => decide (ns.getD j 0 = ms.getD j 0)) (r := fun j => f (ns.getD j 0) (ms.getD j 0)) p1 p2 hu (fun j h1 h2 => by
    obtain ⟨t, et⟩ := at1 j h1
    obtain ⟨t', et'⟩ := at2 j h2
    rw [et, et']
    have z : (ns.getD j 0 == ms.getD j 0) = decide (ns.getD j 0 = ms.getD j 0) := by
      by_cases q : ns.getD j 0 = ms.getD j 0
      · rw [decide_eq_true q]; exact beq_iff_eq.mpr q
      · rw [decide_eq_false q]; exact beq_eq_false_iff_ne.mpr q
    rw [← z]
    exact SeqAt.EqAt.int_int _ _ _ _) (fun j h1 h2 _ => by
    obtain ⟨t, et⟩ := at1 j h1
    obtain ⟨t', et'⟩ := at2 j h2
    rw [et, et']
    exact hr _ _ _ _ _ _)
  rw [e1, e2, lexAt_lists] at R
  rw [hop]
  exact R X.prog X.w X.xe (EP X pins σ Q) ⟨.bl _, H, I, rfl, q⟩

theorem in_ok (hu : X.A.units + 65 < cLine) (neg : Bool) : OpR X (compareOp (if neg then .NotIn else .In)) (fun x y H Q => ∃ F d v b, Same F H ∧ RD X.K F H x d ∧ RV X.K F H y v ∧ inV d v = some b ∧ Q (.bl (if neg then !b else b)) H) := by
  intro pins s σ H x y v u Q I rx ry h
  obtain ⟨F, d, w, b, sF, hx, hy, hb, q⟩ := h
  cases w with
  | dat e =>
    have hy' := hy.rd
    have h1 := Dq.dp _ _ (hx.data sF)
    have h2 := Dq.dp _ _ (hy'.data sF)
    cases e with
    | list ys =>
      obtain ⟨g, hb⟩ := grd_ok hb
      rw [Bool.and_eq_true] at g
      cases ok_inj hb
      cases neg with
      | true => exact op_notInD hu pins s σ H x y v u Q I rx ry ⟨d, ys, h1, h2, g.1, g.2, q⟩
      | false => exact op_inD hu pins s σ H x y v u Q I rx ry ⟨d, ys, h1, h2, g.1, g.2, q⟩
    | tuple ys =>
      obtain ⟨g, hb⟩ := grd_ok hb
      rw [Bool.and_eq_true] at g
      cases ok_inj hb
      cases neg with
      | true => exact op_notInT hu pins s σ H x y v u Q I rx ry ⟨d, ys, h1, h2, g.1, g.2, q⟩
      | false => exact op_inT hu pins s σ H x y v u Q I rx ry ⟨d, ys, h1, h2, g.1, g.2, q⟩
    | str z =>
      cases d with
      | str w =>
        cases ok_inj hb
        cases neg with
        | true => exact op_notin_str pins s σ H x y v u Q I rx ry ⟨w, z, hx.str, hy'.str, q⟩
        | false => exact op_in_str pins s σ H x y v u Q I rx ry ⟨w, z, hx.str, hy'.str, q⟩
      | _ => cases hb
    | _ => cases hb
  | dI kvs =>
    cases d with
    | int i =>
      cases ok_inj hb
      obtain ⟨a, ks, rfl, ha, c⟩ := hy.dI sF
      obtain ⟨v1, v2⟩ := val_look i c
      have hx' := hx.int
      subst hx'
      have hs : (valV ks (Sum.inl i : Key)).isSome = (lookI i kvs).isSome := by
        cases e : lookI i kvs with
        | none => rw [v2 e]; rfl
        | some d => obtain ⟨w, h1, _⟩ := v1 d e; rw [h1]; rfl
      cases (show u = Value.ref a from ry)
      rw [← hs] at q
      cases neg with
      | true => exact d_notIn (by omega) I (DGet.k (k := .inl i) ha) rx fun s3 I3 => ⟨.bl _, H, I3, rfl, q⟩
      | false => exact d_in (by omega) I (DGet.k (k := .inl i) ha) rx fun s3 I3 => ⟨.bl _, H, I3, rfl, q⟩
    | _ => cases hb
  | dT kvs => exact hy.dT.elim
  | exn _ _ => exact hy.exn.elim

theorem ordT_ok (hu : X.A.units < cLine) {o : COp} {xs ys : List Int} {b : Bool} (hb : ordT o xs ys = some b) {pins : List (Addr × Obj)} {s : Shared} {σ : L2.St} {H : Hp} {p q : Addr} {Q : VK} (I : Inv X pins σ H s)
    (hp : SqT X.K H p (xs.map V.int)) (hq : SqT X.K H q (ys.map V.int)) (h : Q (.bl b) H) : wpAny (model X.prog X.w) X.A (compareOp (copOf o) (.ref p) (.ref q)) (EP X pins σ Q) X.xe s := by
  have nlt : ∀ a b : List Int, decide (a.length ≤ b.length) = !decide (b.length < a.length) := fun a b => by
    by_cases h : b.length < a.length
    · rw [decide_eq_true h, decide_eq_false (by omega)]; rfl
    · rw [decide_eq_false h, decide_eq_true (by omega)]; rfl
  cases o with
  | lt =>
    cases ok_inj hb
    refine tup_ord (f := fun x y => decide (x < y)) (zz := fun m n => decide (m < n)) rfl (fun A s a b t u => Ob.RcOp.lt_int a b t u) Ob.RcOp.tuples_lt hu pins s σ H (.ref p) (.ref q) _ _ Q I rfl rfl ⟨p, q, xs, ys, rfl, rfl, hp, hq, ?_⟩
    rw [lexF_lt]; exact h
  | le =>
    cases ok_inj hb
    refine tup_ord (f := fun x y => decide (x ≤ y)) (zz := fun m n => decide (m ≤ n)) rfl (fun A s a b t u => Ob.RcOp.le_int a b t u) Ob.RcOp.tuples_le hu pins s σ H (.ref p) (.ref q) _ _ Q I rfl rfl ⟨p, q, xs, ys, rfl, rfl, hp, hq, ?_⟩
    show Q (.bl (lexF (fun x y => decide (x ≤ y)) (decide (xs.length ≤ ys.length)) xs ys)) H
    rw [nlt, lexF_not _ (fun x y => decide (y < x)) (fun x y _ => by
      by_cases h : y < x
      · rw [decide_eq_true h, decide_eq_false (by omega)]; rfl
      · rw [decide_eq_false h, decide_eq_true (by omega)]; rfl), lexF_swap, lexF_lt]; exact h
  | gt =>
    cases ok_inj hb
    refine tup_ord (f := fun x y => decide (y < x)) (zz := fun m n => decide (m > n)) rfl (fun A s a b t u => Ob.RcOp.gt_int a b t u) Ob.RcOp.tuples_gt hu pins s σ H (.ref p) (.ref q) _ _ Q I rfl rfl ⟨p, q, xs, ys, rfl, rfl, hp, hq, ?_⟩
    show Q (.bl (lexF (fun x y => decide (y < x)) (decide (ys.length < xs.length)) xs ys)) H
    rw [lexF_swap, lexF_lt]; exact h
  | ge =>
    cases ok_inj hb
    refine tup_ord (f := fun x y => decide (y ≤ x)) (zz := fun m n => decide (m ≥ n)) rfl (fun A s a b t u => Ob.RcOp.ge_int a b t u) Ob.RcOp.tuples_ge hu pins s σ H (.ref p) (.ref q) _ _ Q I rfl rfl ⟨p, q, xs, ys, rfl, rfl, hp, hq, ?_⟩
    show Q (.bl (lexF (fun x y => decide (y ≤ x)) (decide (ys.length ≤ xs.length)) xs ys)) H
    rw [nlt, lexF_not _ (fun x y => decide (x < y)) (fun x y _ => by
      by_cases h : x < y
      · rw [decide_eq_true h, decide_eq_false (by omega)]; rfl
      · rw [decide_eq_false h, decide_eq_true (by omega)]; rfl), lexF_lt]; exact h
  | _ => cases hb

theorem op_cmp (hu : X.A.units + 65 < cLine) (o : COp) : OpR X (compareOp (copOf o)) (rCmp X.K o) := by
  intro pins s σ H x y v u Q I rx ry h
  obtain ⟨F, d, w, b, sF, hx, hy, hb, q⟩ := h
  have ord : ordV o d w = some b → wpAny (model X.prog X.w) X.A (compareOp (copOf o) v u) (EP X pins σ Q) X.xe s := fun hc => by
    cases d with
    | int i =>
      cases w with
      | dat e =>
        cases e with
        | int j =>
          have e1 := hx.int
          have e2 := hy.rd.int
          subst e1 e2
          have hc : ordI o i j = some b := hc
          cases o with
          | lt => cases ok_inj hc; exact op_lt pins s σ H _ _ v u Q I rx ry ⟨i, j, rfl, rfl, q⟩
          | le => cases ok_inj hc; exact op_le pins s σ H _ _ v u Q I rx ry ⟨i, j, rfl, rfl, q⟩
          | gt => cases ok_inj hc; exact op_gt pins s σ H _ _ v u Q I rx ry ⟨i, j, rfl, rfl, q⟩
          | ge => cases ok_inj hc; exact op_ge pins s σ H _ _ v u Q I rx ry ⟨i, j, rfl, rfl, q⟩
          | _ => cases hc
        | _ => cases hc
      | _ => cases hc
    | tuple xs =>
      cases w with
      | dat e =>
        cases e with
        | tuple ys =>
          obtain ⟨a, vs, rfl, t1, _, r1⟩ := hx.tup sF
          obtain ⟨c, us, rfl, t2, _, r2⟩ := hy.rd.tup sF
          cases (show v = Value.ref a from rx)
          cases (show u = Value.ref c from ry)
          have hc : (match intsOf xs, intsOf ys with
            | some is, some js => ordT o is js
            | _, _ => none) = (some b : Option Bool) := hc
          cases e1 : intsOf xs with
          | none => rw [e1] at hc; cases hc
          | some is =>
            cases e2 : intsOf ys with
            | none => rw [e1, e2] at hc; cases hc
            | some js =>
              rw [e1, e2] at hc
              obtain ⟨q1, _⟩ := r1.ints_inv e1
              obtain ⟨q2, _⟩ := r2.ints_inv e2
              subst q1 q2
              exact ordT_ok (by omega) hc I t1 t2 q
        | _ => cases hc
      | _ => cases hc
    | _ => cases hc
  cases o with
  | isin => exact in_ok hu false pins s σ H x y v u Q I rx ry ⟨F, d, w, b, sF, hx, hy, hb, q⟩
  | notin =>
    obtain ⟨b', h1, h2⟩ := bind_ok hb
    cases ok_inj h2
    exact in_ok hu true pins s σ H x y v u Q I rx ry ⟨F, d, w, b', sF, hx, hy, h1, q⟩
  | eq =>
    cases w with
    | dat e =>
      obtain ⟨g, hb⟩ := grd_ok hb
      rw [Bool.and_eq_true] at g
      cases ok_inj hb
      exact op_eqD (by omega) pins s σ H x y v u Q I rx ry ⟨d, e, Dq.dp _ _ (hx.data sF), Dq.dp _ _ (hy.rd.data sF), g.1, g.2, q⟩
    | _ => cases hb
  | ne =>
    cases w with
    | dat e =>
      obtain ⟨b', h1, h2⟩ := bind_ok hb
      cases ok_inj h2
      obtain ⟨g, h1⟩ := grd_ok h1
      rw [Bool.and_eq_true] at g
      cases ok_inj h1
      exact op_neD (by omega) pins s σ H x y v u Q I rx ry ⟨d, e, Dq.dp _ _ (hx.data sF), Dq.dp _ _ (hy.rd.data sF), g.1, g.2, q⟩
    | _ => cases hb
  | lt => exact ord hb
  | le => exact ord hb
  | gt => exact ord hb
  | ge => exact ord hb
end
end RL
/-! RLBlt: displays, subscripts, slices, built-in calls and methods by data. -/
namespace RL
open PySem PySem.Spec PyProof.Rows L2

section
variable {X : Cx} {es : List Expr} {t : TA} {pos : Pos}
/-- a tuple's display -/
def tTupG (t : TA) : TE := fun σ H Q => t σ H fun xs H1 => xs.length ≤ sizeLine ∧ NewT H1 xs Q
theorem pe_tupG {x1} (h : PA X es t) : PE X (.Tuple es x1 pos) (tTupG t) := by
  refine ⟨fun pins s σ H Q I hq => ?_⟩
  refine wpAny_Tuple_spliced (thn (h.run pos pins s σ H _ I hq) fun us s1 ⟨xs, H1, I1, r, z, q⟩ => ⟨by rw [← r.length]; exact z, ?_⟩)
  exact newT I1 r z q

theorem cut_map {α β : Type} (xs : List α) (f : α → β) (lo hi : Option Int) : cut (xs.map f) lo hi = (cut xs lo hi).map f := by
  unfold cut; rw [List.length_map, List.map_take, List.map_drop]
theorem cut_V (xs : List V) (lo hi : Option Int) : cutV xs lo hi = cut xs lo hi := rfl
theorem DqAll.cut {K : W.Frag} {F : Hp} {ds : List D} {vs : List V} (h : DqAll K F vs ds) (lo hi : Option Int) : DqAll K F (cut vs lo hi) (cut ds lo hi) := by
  unfold RL.cut; rw [h.length]; exact (h.drop _).take _

/-! ### subscripts -/
theorem ix_dict (hu : X.A.units + 1 < cLine) : IxR X (fun x y H Q => ∃ a v, x = .ref a ∧ DGet H a y (some v) ∧ Q v H) := by
  intro value slice pins s σ H x y v u Q I rx ry h hs
  obtain ⟨a, w, rfl, g, q⟩ := h
  cases rx
  have hT := dict_typeIs I g
  unfold subscriptTail
  refine wpAny_bind ?_
  rw [getitemInPython_of_ne hT.not_modules]
  refine wpAny_bind (wpAny_specialOf hT PySem.F.slot_dict_getitem.lookup ?_)
  have fin : wpAny (model X.prog X.w) X.A (subscripted slice false (.ref a) u) (fun r s₃ => wpAny (model X.prog X.w) X.A (letTemporaryGo value (.ref a) r >>= fun _ => pure r) (EP X pins σ Q) X.xe s₃) X.xe s := by
    rw [hs]
    refine wpAny_operating (d_getItem hu I g ry fun w' s3 I3 rw' => ?_)
    exact wpAny_bind (wpAny_letTemporaryGo (wpAny_pure ⟨w, H, I3, rw', q⟩))
  first
    | exact wpAny_pure (wpAny_bind fin)
    | exact wpAny_bind (wpAny_pure (wpAny_bind fin))
    | exact wpAny_bind fin

theorem atI_map {K : W.Frag} {F : Hp} {ds : List D} {vs : List V} {i : Int} {d : D} (h : DqAll K F vs ds) (e : L2.atI ds i = some d) : ∃ v, L2.atI vs i = some v ∧ Dq K F v d := by
  unfold L2.atI at e ⊢
  rw [h.length]
  cases q : ixN ds.length i with
  | none => rw [q] at e; cases e
  | some j =>
    rw [q] at e
    exact h.get e

def rIx (K : W.Frag) : R2 := fun x y H Q => ∃ F v d z, Same F H ∧ RV K F H x v ∧ RD K F H y d ∧ idxD v d = some z ∧ ∀ w, Dq K F w z → Q w H
theorem ofO_ok {a : Type} {o : Option a} {x : a} (h : o = some x) : o = some x := h
theorem ix_ok (hu : X.A.units + 1 < cLine) : IxR X (rIx X.K) := by
  intro value slice pins s σ H x y v u Q I rx ry h hs
  obtain ⟨F, w, d, z, sF, hx, hy, hb, q⟩ := h
  cases w with
  | dat e =>
    have hx' := hx.rd
    cases e with
    | list xs =>
      cases d with
      | int i =>
        have hb := ofO_ok hb
        have e2 := hy.int
        subst e2
        obtain ⟨a, vs, rfl, t1, r1⟩ := hx'.list sF
        obtain ⟨v', h1, h2⟩ := atI_map r1 hb
        exact ix_list value slice pins s σ H _ _ v u Q I rx ry ⟨a, vs, i, v', rfl, rfl, .inl t1, h1, q _ h2⟩ hs
      | _ => cases hb
    | tuple xs =>
      cases d with
      | int i =>
        have hb := ofO_ok hb
        have e2 := hy.int
        subst e2
        obtain ⟨a, vs, rfl, t1, _, r1⟩ := hx'.tup sF
        obtain ⟨v', h1, h2⟩ := atI_map r1 hb
        exact ix_tup value slice pins s σ H _ _ v u Q I rx ry ⟨a, vs, i, v', rfl, rfl, t1, h1, q _ h2⟩ hs
      | _ => cases hb
    | str w =>
      cases d with
      | int i =>
        obtain ⟨g, hb⟩ := grd_ok hb
        obtain ⟨c, h1, h2⟩ := bind_ok hb
        cases ok_inj h2
        have e1 := hx'.str
        have e2 := hy.int
        subst e1 e2
        exact ix_str value slice pins s σ H _ _ v u Q I rx ry ⟨w, i, c, rfl, rfl, szOk_le g, ofO_ok h1, q _ (.str _)⟩ hs
      | _ => cases hb
    | _ => cases hb
  | dI kvs =>
    cases d with
    | int i =>
      have hb := ofO_ok hb
      have e2 := hy.int
      subst e2
      obtain ⟨a, ks, rfl, ha, c⟩ := hx.dI sF
      obtain ⟨v', h1, h2⟩ := (val_look i c).1 z hb
      refine ix_dict hu value slice pins s σ H _ _ v u Q I rx ry ⟨a, v', rfl, ?_, q _ h2⟩ hs
      have g := DGet.k (k := .inl i) ha
      rw [h1] at g
      exact g
    | _ => cases hb
  | dT kvs => exact hx.dT.elim
  | exn _ _ => exact hx.exn.elim

/-! ### slices -/
theorem sl_tupG : SlR X (fun x lo hi H Q => ∃ a xs, x = .ref a ∧ SqT X.K H a xs ∧
    (HT.sIx xs.length 0 lo = 0 ∧ HT.sIx xs.length xs.length hi = xs.length → Q (.ref a) H) ∧ NewT H (cutV xs lo hi) Q) := by
  intro pins s σ H x v vl vu lo hi sl Q I rx hs pl pu h
  obtain ⟨a, xs, rfl, hx, q1, q2⟩ := h
  cases rx
  obtain ⟨its, r, ht, hz⟩ := I.tuple hx
  have hlen : its.toArray.size = xs.length := by rw [List.size_toArray]; exact r.length.symm
  refine ⟨"tuple", _, PyProof.Rows.slot_tuple_getitem.lookup, ht.typeIs, ?_⟩
  by_cases hw : HT.sIx xs.length 0 lo = 0 ∧ HT.sIx xs.length xs.length hi = xs.length
  · exact getItem_tuple_whole ht hs pl pu (by rw [hlen]; exact hw) ⟨.ref a, H, I, rfl, q1 hw⟩
  · refine HT.getItem_tuple_cut ht hs pl pu (by rw [hlen]; exact hw) ?_ (by rw [hlen]; exact hz)
    rw [hlen]
    exact newT I ((r.drop (HT.sIx xs.length 0 lo)).take (HT.sIx xs.length xs.length hi - HT.sIx xs.length 0 lo)) (Nat.le_trans (cutV_length xs lo hi) hz) q2
def rSl (K : W.Frag) : V → Option Int → Option Int → Hp → VK → Prop := fun x lo hi H Q => ∃ F d z, Same F H ∧ RD K F H x d ∧ cutD d lo hi = some z ∧ Wants K F H z Q
theorem sl_ok : SlR X (rSl X.K) := by
  intro pins s σ H x v vl vu lo hi sl Q I rx hs pl pu h
  obtain ⟨F, d, z, sF, hx, hb, k⟩ := h
  cases d with
  | list xs =>
    cases ok_inj hb
    obtain ⟨a, vs, rfl, t1, r1⟩ := hx.list sF
    exact sl_list pins s σ H _ v vl vu lo hi sl Q I rx hs pl pu ⟨a, vs, rfl, .inl t1, fun p np => k _ _ _ (Ext.laid sF np) (lay_list sF np (r1.cut lo hi))⟩
  | tuple xs =>
    cases ok_inj hb
    obtain ⟨a, vs, rfl, t1, t1', r1⟩ := hx.tup sF
    refine sl_tupG pins s σ H _ v vl vu lo hi sl Q I rx hs pl pu ⟨a, vs, rfl, t1, fun e => ?_, fun p o np ho => k _ _ _ (Ext.laid sF np) (lay_tup sF np ho (r1.cut lo hi))⟩
    have ez : cut xs lo hi = xs := by
      unfold cut
      rw [← r1.length, e.1, e.2]
      simp [r1.length]
    refine k _ F H (Ext.refl sF) ?_
    rw [ez]
    exact .tup t1' r1
  | str w =>
    obtain ⟨g, hb⟩ := grd_ok hb
    cases ok_inj hb
    refine sl_str pins s σ H x v vl vu lo hi sl Q I rx hs pl pu ⟨w, hx.str, szOk_le g, ?_⟩
    refine k _ F H (Ext.refl sF) ?_
    have : cutS w lo hi = ⟨(cut w.cps.toList lo hi).toArray⟩ := by
      unfold cutS cut
      simp [Str.length]
    rw [this]
    exact .str _
  | _ => cases hb

/-! ### len -/
theorem one_of {x : V} {us : List Value} (r : Vals [x] us) : ∃ u, us = [u] ∧ RelV x u := vals1 r
/-- a call of one value -/
def rF1 (K : W.Frag) (f : F1) : List V → Hp → VK → Prop := fun xs H Q => ∃ x F v z, xs = [x] ∧ Same F H ∧ RV K F H x v ∧ fn1D f v = some z ∧ Wants K F H z Q
theorem call_lenG : CallR X (.builtin "len") (rF1 X.K .len) := by
  intro pins s σ H xs us Q I r h
  obtain ⟨x, F, v, z, rfl, sF, hx, hb, k⟩ := h
  have fin : ∀ {w : V}, Dq X.K F w z → Q w H := fun hd => k _ F H (Ext.refl sF) hd
  cases v with
  | dat d =>
    have hx' := hx.rd
    cases d with
    | list ds =>
      cases ok_inj hb
      obtain ⟨a, vs, rfl, t1, r1⟩ := hx'.list sF
      refine call_len_seq pins s σ H _ us Q I r ⟨a, vs, rfl, .inl (.inl t1), ?_⟩
      rw [r1.length]; exact fin (.int _)
    | tuple ds =>
      cases ok_inj hb
      obtain ⟨a, vs, rfl, t1, _, r1⟩ := hx'.tup sF
      refine call_len_seq pins s σ H _ us Q I r ⟨a, vs, rfl, .inr t1, ?_⟩
      rw [r1.length]; exact fin (.int _)
    | str w =>
      obtain ⟨g, hb⟩ := grd_ok hb
      cases ok_inj hb
      have e1 := hx'.str
      subst e1
      exact call_len_str pins s σ H _ us Q I r ⟨w, rfl, szOk_le g, fin (.int _)⟩
    | _ => cases hb
  | dI kvs =>
    cases ok_inj hb
    obtain ⟨a, ks, rfl, ha, c⟩ := hx.dI sF
    obtain ⟨u, rfl, ru⟩ := one_of r
    cases ru
    have hl : ks.length = kvs.length := Paired.length c
    refine d_len I (.inl ha) fun t s' I' => ⟨.int kvs.length, H, I', ?_, fin (.int _)⟩
    rw [hl]; exact ⟨t, rfl⟩
  | dT kvs => exact hx.dT.elim
  | exn _ _ => exact hx.exn.elim

/-! ### tuple(..), list(..) -/
theorem call_tupG : CallR X (.type "tuple") (rF1 X.K .tuple) := by
  intro pins s σ H xs us Q I r h
  obtain ⟨x, F, v, z, rfl, sF, hx, hb, k⟩ := h
  obtain ⟨u, rfl, rx⟩ := one_of r
  cases v with
  | dat d =>
    have hx' := hx.rd
    cases d with
    | list ds =>
      cases ok_inj hb
      obtain ⟨a, vs, rfl, t1, r1⟩ := hx'.list sF
      cases rx
      obtain ⟨its, r', pl, hz⟩ := I.list (.inl t1)
      have hlen := r'.length
      refine call_tuple_list pl.isList (fun h' kp => ?_) (by simp only [List.size_toArray] <;> omega)
      have I1 : Inv X pins σ H { s with heap := h' } := I.kept (t' := s.toks) kp
      exact newT I1 r' hz fun p o np ho => k _ _ _ (Ext.laid sF np) (lay_tup sF np ho r1)
    | tuple ds =>
      cases ok_inj hb
      obtain ⟨a, vs, rfl, t1, t1', r1⟩ := hx'.tup sF
      exact call_tupleT pins s σ H _ _ Q I (.cons rx .nil) ⟨a, vs, rfl, t1, k _ F H (Ext.refl sF) (.tup t1' r1)⟩
    | _ => cases hb
  | _ => cases hb
/-- a new list: the reading of a fresh thing -/
def rNewL (K : W.Frag) (g : Vl → Option D) : List V → Hp → VK → Prop := fun xs H Q => ∃ x F v ds, xs = [x] ∧ Same F H ∧ RV K F H x v ∧ g v = some (.list ds) ∧ ∀ p vs, H p = none → DqAll K F vs ds → Q (.ref p) (upd H p (.lst vs))
def listSeq : Vl → Option D
  | .dat (.list xs) => some (.list xs)
  | .dat (.tuple xs) => some (.list xs)
  | _ => none
theorem call_listG : CallR X (.type "list") (rNewL X.K listSeq) := by
  intro pins s σ H xs us Q I r h
  obtain ⟨x, F, v, ds, rfl, sF, hx, hb, k⟩ := h
  cases v with
  | dat d =>
    have hx' := hx.rd
    cases d with
    | list ds' =>
      cases ok_inj hb
      obtain ⟨a, vs, rfl, t1, r1⟩ := hx'.list sF
      exact call_list_of pins s σ H _ us Q I r ⟨a, vs, rfl, .inl (.inl t1), fun p np => k p vs np r1⟩
    | tuple ds' =>
      cases ok_inj hb
      obtain ⟨a, vs, rfl, t1, t1', r1⟩ := hx'.tup sF
      exact call_list_of pins s σ H _ us Q I r ⟨a, vs, rfl, .inr t1, fun p np => k p vs np r1⟩
    | _ => cases hb
  | _ => cases hb

/-! ### int, str, min, max of two -/
theorem call_intG : CallR X (.type "int") (rF1 X.K .int) := by
  intro pins s σ H xs us Q I r h
  obtain ⟨x, F, v, z, rfl, sF, hx, hb, k⟩ := h
  have fin : ∀ {w : V}, Dq X.K F w z → Q w H := fun hd => k _ F H (Ext.refl sF) hd
  cases v with
  | dat d =>
    have hx' := hx.rd
    cases d with
    | int i =>
      cases ok_inj hb
      have e1 := hx'.int
      subst e1
      exact call_int1 pins s σ H _ us Q I r (.inl ⟨i, rfl, fin (.int _)⟩)
    | bool b =>
      cases ok_inj hb
      have e1 := hx'.bool
      subst e1
      exact call_int1 pins s σ H _ us Q I r (.inr ⟨b, rfl, fin (.int _)⟩)
    | _ => cases hb
  | _ => cases hb
def rF2 (K : W.Frag) (f : F2) : List V → Hp → VK → Prop := fun xs H Q => ∃ x y F d e z, xs = [x, y] ∧ Same F H ∧ RD K F H x d ∧ RD K F H y e ∧ fn2D f d e = some z ∧ Wants K F H z Q
theorem call_min2G (hc : X.calm = true) : CallR X (.builtin "min") (rF2 X.K .min) := by
  intro pins s σ H xs us Q I r h
  obtain ⟨x, y, F, d, e, z, rfl, sF, hx, hy, hb, k⟩ := h
  cases d with
  | int i =>
    cases e with
    | int j =>
      cases ok_inj hb
      have e1 := hx.int
      have e2 := hy.int
      subst e1 e2
      exact call_min2 hc pins s σ H _ us Q I r ⟨i, j, rfl, k _ F H (Ext.refl sF) (.int _)⟩
    | _ => cases hb
  | _ => cases e <;> cases hb
theorem call_max2G (hc : X.calm = true) : CallR X (.builtin "max") (rF2 X.K .max) := by
  intro pins s σ H xs us Q I r h
  obtain ⟨x, y, F, d, e, z, rfl, sF, hx, hy, hb, k⟩ := h
  cases d with
  | int i =>
    cases e with
    | int j =>
      cases ok_inj hb
      have e1 := hx.int
      have e2 := hy.int
      subst e1 e2
      exact call_max2 hc pins s σ H _ us Q I r ⟨i, j, rfl, k _ F H (Ext.refl sF) (.int _)⟩
    | _ => cases hb
  | _ => cases e <;> cases hb

/-! ### isinstance -/
def tyName : Ty → Option String
  | .int => some "int"
  | .bool => some "bool"
  | .tuple => some "tuple"
  | .list => some "list"
  | .str => some "str"
  | .cls _ => none
def typD : D → String
  | .none => "NoneType"
  | .bool _ => "bool"
  | .int _ => "int"
  | .str _ => "str"
  | .list _ => "list"
  | .tuple _ => "tuple"
  | .dict _ => "dict"
theorem RV.ty {K : W.Frag} {F H : Hp} {x : V} {d : D} (sF : Same F H) (h : RV K F H x (.dat d)) : TyX K H x (.type (typD d)) := by
  have h := h.rd
  rcases h with h | ⟨a, vs, ds, rfl, rfl, h, _⟩
  · cases h with
    | non => exact .base .non
    | bl b => exact .base (.bl b)
    | int i => exact .base (.int i)
    | str x => exact .base (.str x)
    | lst hs _ =>
      rcases hs with hs | ⟨o, hs⟩
      · exact .base (.lst (sF _ _ hs))
      · exact .base (.frz (sF _ _ hs))
    | tup hs _ =>
      rcases hs with ⟨o, hs, _, _⟩ | ⟨o, its, n, h1, h2, _⟩
      · exact .fTuple (sF _ _ hs)
      · exact .kTuple h1 h2
  · exact .base (.lst h)
def isiB (t : Ty) (d : D) : Bool := match t with
  | .int => (match d with | .int _ => true | .bool _ => true | _ => false)
  | .bool => (match d with | .bool _ => true | _ => false)
  | .tuple => (match d with | .tuple _ => true | _ => false)
  | .list => (match d with | .list _ => true | _ => false)
  | .str => (match d with | .str _ => true | _ => false)
  | .cls _ => false
def isiTab (a n : String) : Bool := a == n || (a == "bool" && n == "int")
theorem isiTab_ok : ∀ a ∈ ["NoneType", "bool", "int", "str", "list", "tuple", "dict"], ∀ n ∈ ["int", "bool", "tuple", "list", "str"], kitB a n = some (isiTab a n) := by decide +kernel
theorem kit_isi {K : W.Frag} {t : Ty} {n : String} (h : tyName t = some n) (d : D) : PySem.W.kitOne K (.type (typD d)) (.type n) = some (isiB t d) := by
  have h1 : typD d ∈ ["NoneType", "bool", "int", "str", "list", "tuple", "dict"] := by cases d <;> simp [typD]
  have h2 : n ∈ ["int", "bool", "tuple", "list", "str"] := by cases t <;> first | (cases h; simp; done) | cases h
  have h3 : isiTab (typD d) n = isiB t d := by
    cases t with
    | cls _ => cases h
    | _ => cases h; cases d <;> simp [isiTab, typD, isiB]
  rw [← h3]
  exact kit_ty (isiTab_ok _ h1 _ h2)
theorem isiD_dat {sub : Nat → Nat → Bool} {t : Ty} {n : String} (h : tyName t = some n) {v : Vl} {b : Bool} (e : isiD sub v t = some b) : ∃ d, v = .dat d ∧ b = isiB t d := by
  cases v with
  | dat d => cases t <;> first | (cases h; done) | exact ⟨d, rfl, (ok_inj e).symm⟩
  | _ => cases t <;> first | (cases h; done) | cases e

/-! ### .index -/
theorem findIx_some {p : D → Bool} : ∀ {ds : List D} {n m : Nat}, findIx p ds n = some m → ∃ j z, m = n + j ∧ ds[j]? = some z ∧ p z = true ∧ ∀ (i : Nat) (z' : D), i < j → ds[i]? = some z' → p z' = false
  | [], _, _, h => by cases h
  | x :: r, n, m, h => by
    unfold findIx at h
    by_cases hx : p x = true
    · rw [if_pos hx] at h
      cases h
      exact ⟨0, x, rfl, rfl, hx, fun i _ hi => absurd hi (Nat.not_lt_zero _)⟩
    · rw [if_neg hx] at h
      obtain ⟨j, z, e1, e2, e3, e4⟩ := findIx_some h
      refine ⟨j + 1, z, by omega, by simpa using e2, e3, fun i z' hi hz => ?_⟩
      cases i with
      | zero => simp at hz; subst hz; simpa using hx
      | succ i => exact e4 i z' (by omega) (by simpa using hz)

/-- what a method's receiver must be -/
theorem tupG_is {pins : List (Addr × Obj)} {σ : L2.St} {H : Hp} {s : Shared} {a : Addr} {xs : List V} (I : Inv X pins σ H s) (h : TupG X.K H a xs) :
    s.TypeIs (.ref a) "tuple" ∧ ∀ b, Value.ref a = .ref b → ∃ ob, s.heap.get? b = some ob ∧ ob.dict = none := by
  rcases h with ⟨o, h, hc, hd⟩ | ⟨o, its, n, h1, h2, h3, _⟩
  · have q : s.heap.get? a = some o := (I.hok a _ h).1
    exact ⟨⟨o, q, hc⟩, fun b e => by cases e; exact ⟨o, q, hd⟩⟩
  · exact ⟨⟨o, I.kIn a o h1, h2⟩, fun b e => by cases e; exact ⟨o, I.kIn _ o h1, h3⟩⟩
theorem mt_tupIndex (hu : X.A.units + 65 < cLine) : MtR X "tuple.index" (fun x xs H Q => ∃ (a : Addr) (y : V) (d : PyData) (ds : List PyData) (vs : List V) (j : Nat) (z : PyData), x = V.ref a ∧ xs = [y] ∧ SqT X.K H a vs ∧ DpAll X.K H vs ds ∧ Dp X.K H y d ∧
    SeqAt.shaped (.tuple ds) = true ∧ SeqAt.shaped d = true ∧ ds[j]? = some z ∧ PyData.eqv z d = true ∧ (∀ (m : Nat) (z' : PyData), m < j → ds[m]? = some z' → PyData.eqv z' d = false) ∧ Q (.int (j : Nat)) H) := by
  intro pins s σ H x xs v us Q I rx rxs h
  obtain ⟨a, y, d, ds, vs, j, z, rfl, rfl, hs, ha, hy, sl, sd, hz, hzj, hno, q⟩ := h
  cases rx
  cases rxs with
  | cons ry rt =>
    rename_i uy ut
    cases rt
    obtain ⟨bs, r1⟩ := Dp.reads I d y uy hy ry
    have hxs : PyData.canLayAll0 ds = true := SeqAt.canLay_of_shaped sl
    have hroom : X.A.units + 1 + min (PyData.depthAll ds) d.depth < cLine := room_in_shaped sd hu
    obtain ⟨its, rv, ⟨⟨cls, dd, data, sls⟩, ho, hc, n, hdt⟩, hlen⟩ := I.tuple hs
    simp only at hc hdt
    subst hc hdt
    obtain ⟨as, h4⟩ := Dp.readsAll I ds _ its ha rv
    have hn : its.length = ds.length := SeqAt.ReadsAll.length ds its as h4
    have hmap : its.map (SeqAt.readOf s.heap) = ds := SeqAt.readsAll_map ds its as hxs h4
    have hvl := rv.length
    have hsl := sizeLine_eq
    obtain ⟨hjd, _⟩ := List.getElem?_eq_some_iff.mp hz
    have hjl : j < its.length := by omega
    have hj : j < its.toArray.size := by simpa using hjl
    have at_ : ∀ (m : Nat) (hm : m < its.toArray.size) (z' : PyData), ds[m]? = some z' → SeqAt.readOf s.heap its.toArray[m] = z' := by
      intro m hm z' hz'
      have hml : m < its.length := by simpa using hm
      rw [← hmap, List.getElem?_map, List.getElem?_eq_getElem hml] at hz'
      have e1 : SeqAt.readOf s.heap its[m] = z' := Option.some.inj (show some (SeqAt.readOf s.heap its[m]) = some z' from hz')
      simpa using e1
    refine call_meets PySem.F.slot_tuple_index ⟨_, ho, rfl⟩ PySem.F.entry_tuple_index (PySem.F.args_tuple_index_2 _ _)
      (TI.tuple_indexAt a its.toArray n dd sls uy (fun u => PyData.eqv (SeqAt.readOf s.heap u) d) j hj ?_ ?_) ⟨ho, SeqAt.items_eqAt (vs := its.toArray) (show ReadsAll s.heap its.toArray.toList ds as from h4) r1 hxs (SeqAt.canLay_of_shaped sd) hroom, ?_⟩
    · show PyData.eqv (SeqAt.readOf s.heap its.toArray[j]) d = true
      rw [at_ j hj z hz]
      exact hzj
    · intro m hm hmj
      have hmd : m < ds.length := by omega
      have hz' : ds[m]? = some ds[m] := List.getElem?_eq_getElem hmd
      show PyData.eqv (SeqAt.readOf s.heap its.toArray[m]) d = false
      rw [at_ m hm _ hz']
      exact hno m _ hmj hz'
    · exact ⟨.int (j : Nat), H, I.tok _, ⟨_, rfl⟩, q⟩
end
end RL
/-! RLChk: does an expression of the small language say what an expression of the text says? -/
namespace RL
open PySem PySem.Spec PyProof.Rows L2

/-- names by number: defs, constants of the module, exception classes -/
structure Tab where
  fns : List (Option Str)
  glo : List (Option Str)
  cls : List (Option Str)

def visB (sc : Scope) (x : Str) : Bool := match sc.names.lookup x with
  | some .local => true
  | some .cell => true
  | some .free => true
  | _ => false
def glB (sc : Scope) (x : Str) : Bool := match sc.names.lookup x with
  | some .globalImplicit => true
  | _ => false
def locB (sc : Scope) (x : Str) : Bool := match sc.names.lookup x with
  | some .local => true
  | _ => false
def celB (sc : Scope) (x : Str) : Bool := match sc.names.lookup x with
  | some .cell => true
  | _ => false
def nmB (x : Str) : Bool := !(x == ("__debug__" : Str)) && !(x == ("__classdict__" : Str)) && !decide (x = ("__name__" : Str))
def isSlice : Expr → Bool
  | .Slice _ _ _ _ => true
  | _ => false
def isStar : Expr → Bool
  | .Starred _ _ => true
  | _ => false
/-- isTrue looks at the value alone -/
def plainT : Expr → Bool
  | .UnaryOp .Not _ _ => false
  | .BoolOp _ _ _ => false
  | .IfExp _ _ _ _ => false
  | .Compare _ _ _ _ => false
  | _ => true
def isCall0 : Expr → Bool
  | .Call _ [] [] _ => true
  | _ => false
def isSet : Expr → Bool
  | .Set _ _ _ => true
  | _ => false
def constB : D → Const → Bool
  | .none, .none => true
  | .bool b, .bool c => b == c
  | .int i, .int j => decide (i = j)
  | .str x, .str y => decide (x = y)
  | _, _ => false
mutual
def chkTg (N : List Str) (sc : Scope) (strict : Bool) : Tg → Expr → Bool
  | .one i, .Name x _ => decide (N[i]? = some x) && (locB sc x || (!strict && celB sc x))
  | .many l, .Tuple es _ _ => chkTgs N sc strict l es
  | _, _ => false
def chkTgs (N : List Str) (sc : Scope) (strict : Bool) : List Tg → List Expr → Bool
  | [], [] => true
  | t :: l, e :: es => chkTg N sc strict t e && chkTgs N sc strict l es
  | _, _ => false
end
def f1Str : F1 → Str
  | .len => "len"
  | .tuple => "tuple"
  | .list => "list"
  | .chars => "list"
  | .listRange => "list"
  | .sorted => "sorted"
  | .sortedSet => "sorted"
  | .sum => "sum"
  | .min => "min"
  | .max => "max"
  | .int => "int"
  | .str => "str"
/-- the calls that have a rule so far -/
def f1Ok : F1 → Bool
  | .len => true
  | .tuple => true
  | .list => true
  | .int => true
  | _ => false
def f2Str : F2 → Str
  | .min => "min"
  | .max => "max"
def mtStr : Mt → Str
  | .index => "index"
  | .sindex => "index"
  | .count => "count"
  | .join => "join"
  | .split => "split"
def mtOk : Mt → Bool
  | .index => true
  | _ => false
def tyStr (T : Tab) : Ty → Option Str
  | .int => some "int"
  | .bool => some "bool"
  | .tuple => some "tuple"
  | .list => some "list"
  | .str => some "str"
  | .cls _ => none
def ownP (N : List Str) (own : List Nat) : List (Str × Nat) := own.map fun i => (N.getD i "", i)
def cmpMark (o : CmpOp) (e : Expr) : Bool := behindInMarks o e
/-- the method's call stands on one line -/
def lineB (apos pos : Pos) : Bool := apos.endLine == pos.line

def restE (op : BoolOp) (y : Expr) (rest : List Expr) (pos : Pos) : Expr := match rest with
  | [] => y
  | _ => .BoolOp op (y :: rest) pos
mutual
def tgSlots : Tg → List Nat
  | .one i => [i]
  | .many l => tgsSlots l
def tgsSlots : List Tg → List Nat
  | [] => []
  | t :: l => tgSlots t ++ tgsSlots l
end
def tgIn (own : List Nat) (t : Tg) : Bool := (tgSlots t).all fun i => own.contains i
def bNone : Ex → Bool
  | .con .none => true
  | _ => false
def isMany : Tg → Bool
  | .many _ => true
  | _ => false
def isZip : Sk → Bool
  | .zip => true
  | .enm => true
  | _ => false
/-- what is walked -/
def srcC (sc : Scope) (ca cb : Expr → Bool) (b0 many : Bool) : Sk → Expr → Bool
  | .items, it => ca it && b0
  | .rg1, .Call (.Name x _) [p] [] _ => decide (x = ("range" : Str)) && glB sc x && !isStar p && ca p && b0
  | .rg2, .Call (.Name x _) [p, q] [] _ => decide (x = ("range" : Str)) && glB sc x && !isStar p && !isStar q && ca p && cb q
  | .zip, .Call (.Name x _) [p, q] [] _ => decide (x = ("zip" : Str)) && glB sc x && !isStar p && !isStar q && ca p && cb q && many
  | _, _ => false
mutual
def chkE (T : Tab) (N : List Str) : Ex → Scope → Expr → Bool
  | .var i, sc, .Name x _ => decide (N[i]? = some x) && visB sc x && nmB x
  | .con d, _, .Constant c _ _ => constB d c
  | .glo g, sc, .Name x _ => decide (T.glo[g]? = some (some x)) && glB sc x && nmB x
  | .bin o a b, sc, .BinOp l op r _ => decide (op = opOf o) && chkE T N a sc l && chkE T N b sc r
  | .neg a, sc, .UnaryOp .USub x _ => chkE T N a sc x
  | .cmp o a b, sc, .Compare l [op] [r] _ => decide (op = copOf o) && !cmpMark op r && chkE T N a sc l && chkE T N b sc r
  | .chn o p a b c, sc, .Compare l [op, op'] [m, r] _ => decide (op = copOf o) && decide (op' = copOf p) && !cmpMark op m && !cmpMark op' r && chkE T N a sc l && chkE T N b sc m && chkE T N c sc r
  | .isn pos a, sc, .Compare l [op] [.Constant .none _ _] _ => decide (op = if pos then .Is else .IsNot) && chkE T N a sc l
  | .and a b, sc, .BoolOp .And (x :: y :: rest) pos => chkE T N a sc x && chkE T N b sc (restE .And y rest pos)
  | .or a b, sc, .BoolOp .Or (x :: y :: rest) pos => chkE T N a sc x && chkE T N b sc (restE .Or y rest pos)
  | .not a, sc, .UnaryOp .Not x _ => chkE T N a sc x
  | .ite c a b, sc, .IfExp t x y _ => chkE T N c sc t && chkE T N a sc x && chkE T N b sc y
  | .tup es, sc, .Tuple xs _ _ => chkEs T N es sc xs
  | .lst es, sc, .List xs _ => chkEs T N es sc xs
  | .idx a i, sc, .Subscript x y _ => !isSlice y && chkE T N a sc x && chkE T N i sc y
  | .slf a lo, sc, .Subscript x (.Slice (some l) none none _) _ => chkE T N a sc x && chkE T N lo sc l
  | .slt a hi, sc, .Subscript x (.Slice none (some h) none _) _ => chkE T N a sc x && chkE T N hi sc h
  | .slb a lo hi, sc, .Subscript x (.Slice (some l) (some h) none _) _ => chkE T N a sc x && chkE T N lo sc l && chkE T N hi sc h
  | .rev a, sc, .Subscript x (.Slice none none (some (.UnaryOp .USub (.Constant (.int 1) _ _) _)) _) _ => chkE T N a sc x
  | .cpr own tg k a b elt, sc, .ListComp e [⟨t, iter, [], 0⟩] scope _ =>
      blkC N sc scope (ownP N own) && chkTg N (relS scope sc) true tg t && tgIn own tg && !isSet iter && srcC sc (chkE T N a sc) (chkE T N b sc) (bNone b) (isMany tg) k iter && chkE T N elt (relS scope sc) e
  | .cpi own tg k a b c elt, sc, .ListComp e [⟨t, iter, [i], 0⟩] scope _ =>
      blkC N sc scope (ownP N own) && chkTg N (relS scope sc) true tg t && tgIn own tg && !isSet iter && srcC sc (chkE T N a sc) (chkE T N b sc) (bNone b) (isMany tg) k iter && chkE T N elt (relS scope sc) e && chkE T N c (relS scope sc) i
  | .call f es, sc, .Call (.Name x _) args [] _ => decide (T.fns[f]? = some (some x)) && glB sc x && nmB x && chkEs T N es sc args
  | .fn1 f a, sc, .Call (.Name x _) [p] [] _ => f1Ok f && decide (x = f1Str f) && glB sc x && !isStar p && chkE T N a sc p
  | .fn2 f a b, sc, .Call (.Name x _) [p, q] [] _ => decide (x = f2Str f) && glB sc x && !isStar p && !isStar q && chkE T N a sc p && chkE T N b sc q
  | .mt m a b, sc, .Call (.Attribute o x apos) [p] [] pos => mtOk m && decide (x = mtStr m) && lineB apos pos && !isCall0 o && !isStar p && chkE T N a sc o && chkE T N b sc p
  | .isi a t, sc, .Call (.Name x _) [p, .Name y _] [] _ => decide (x = ("isinstance" : Str)) && glB sc x && !isStar p && decide (tyStr T t = some y) && glB sc y && chkE T N a sc p
  | .dc1 (.con (.int i)) v, sc, .Dict [some (.Constant (.int j) _ _)] [w] _ => decide (i = j) && chkE T N v sc w
  | _, _, _ => false
def chkEs (T : Tab) (N : List Str) : List Ex → Scope → List Expr → Bool
  | [], _, [] => true
  | e :: es, sc, x :: xs => !isStar x && chkE T N e sc x && chkEs T N es sc xs
  | _, _, _ => false
end
end RL
/-! RLPost: what a def promises by the evaluator, and how a reading follows the evaluator. -/
namespace RL
open PySem PySem.Spec PyProof.Rows L2

/-- an exception of class c with the field p, as it lies behind a raise -/
def Xr (T : Tab) (K : W.Frag) (mg : Str → Option Value) (c : Nat) (p : Option D) (cls : Value) (dd : Option Addr) (H : Hp) : Prop :=
  ∃ x a, T.cls[c]? = some (some x) ∧ mg x = some (.ref a) ∧ cls = .ref a ∧ (match p with
    | none => dd = none
    | some q => ∃ b v, dd = some b ∧ H b = some (.xd [("line", v)]) ∧ Dq K H v q)

/-- the end of a call, by the evaluator -/
def CkP (T : Tab) (K : W.Frag) (mg : Str → Option Value) (F H : Hp) (Q : VK) (E : XK) : Res Vl → Prop
  | .ok v => ∀ x F' H', Ext F H F' H' → Frep K F' x v → Q x H'
  | .exc c p => ∀ F' H' cls d, Ext F H F' H' → Xr T K mg c p cls d H' → E cls d H'
  | .bad => False
/-- a def's promise: by its end at data -/
def spF (T : Tab) (K : W.Frag) (mg : Str → Option Value) (n : Nat) (ck : List D → Res Vl) : Sp := fun vs H Q E => ∃ F ds, Same F H ∧ DqAll K F vs ds ∧ ds.length = n ∧ CkP T K mg F H Q E (ck ds)

def bltNames : List Str := ["len", "tuple", "list", "sorted", "sum", "min", "max", "int", "str", "bool", "isinstance", "range", "zip", "enumerate", "set", "ValueError"]

/-- the classes below ValueError -/
def mroV : List Value := [.type "ValueError", .type "Exception", .type "BaseException", .type "object"]
/-- an own class of exceptions; own: it has its own __init__ -/
structure ClsK (K : W.Frag) (a : Addr) (own : Bool) : Prop where
  kp : W.keepIn K (.ref a) = true
  exc : ExcC K a
  ty : W.typeIn K (.ref a) = some (.type "type")
  raw : own = false → W.excIn K a mroV "ValueError.__new__" = true
/-- what the module gives: defs, constants, classes; k: the level of the defs -/
structure Wd (T : Tab) (k : Nat) (C : Cfg) (P : Program) (w : World) (K : W.Frag) (mg : Str → Option Value) (base : Heap) : Prop where
  fns : ∀ (f : Nat) x, T.fns[f]? = some (some x) → ∃ a fd ps, mg x = some (.ref a) ∧ W.keepIn K (.ref a) = true ∧ Binds K fd ps [] ∧ FnOk P w K mg base (L2.CX P w) k a fd ps (spF T K mg ps.length (C.ck f)) ∧ ∀ ds, C.ck f ds ≠ .bad → ds.length = ps.length
  glo : ∀ (g : Nat) x, T.glo[g]? = some (some x) → ∃ u v, mg x = some u ∧ RelV v u ∧ ∀ d, C.gv g = some d → ∀ F, Dq K F v d
  blt : ∀ x ∈ bltNames, mg x = none
  cls : ∀ (c : Nat) x, T.cls[c]? = some (some x) → ∃ a, mg x = some (.ref a) ∧ ClsK K a (decide (c = 1))
  sub : ∀ (c d : Nat) x y a b, T.cls[c]? = some (some x) → T.cls[d]? = some (some y) → mg x = some (.ref a) → mg y = some (.ref b) → W.exmOne K (.ref a) (.ref b) = some (C.sub c d) ∧ W.kitOne K (.ref a) (.ref b) = some (C.sub c d)

structure Ok (T : Tab) (N : List Str) (k : Nat) (C : Cfg) (sc : Scope) (X : Cx) (W : WX) : Prop where
  n : X.N = N
  nd : N.Nodup
  sc : X.env.scope = sc
  calm : X.calm = true
  room : Room k X.A
  tk : Takes X W
  wd : Wd T k C X.prog X.w X.K X.mg X.base

section
variable {T : Tab} {X : Cx} {C : Cfg} {W : WX} {σ : L2.St} {ρ : Env} {Q : VK} {F H F' H' : Hp}
/-- what is wanted of the evaluator's end -/
def Post (T : Tab) (X : Cx) (W : WX) (σ : L2.St) (F H : Hp) {β : Type} (R : Hp → Hp → β → Prop) : Res β → Prop
  | .ok r => ∀ F' H', Ext F H F' H' → R F' H' r
  | .exc c p => ∀ F' H' cls d, Ext F H F' H' → Xr T X.K X.mg c p cls d H' → W cls d σ H'
  | .bad => False
/-- of a value -/
def RV1 (X : Cx) (σ : L2.St) (ρ : Env) (Q : VK) : Hp → Hp → Bool × Vl → Prop := fun F' H' r => ∀ x, VR X.K F' σ ρ x r → Q x H'
def tE (T : Tab) (X : Cx) (C : Cfg) (W : WX) (e : Ex) : TE := fun σ H Q => ∃ F ρ, Rel X.K F σ H ρ ∧ Post T X W σ F H (RV1 X σ ρ Q) (ev C ρ e)

theorem Post.mono {β : Type} {R : Hp → Hp → β → Prop} {r : Res β} (e : Ext F H F' H') (h : Post T X W σ F H R r) : Post T X W σ F' H' R r := by
  cases r with
  | ok v => exact fun F2 H2 e2 => h F2 H2 (e.trans e2)
  | exc c p => exact fun F2 H2 cls d e2 => h F2 H2 cls d (e.trans e2)
  | bad => exact h
/-- an expression first -/
theorem tE_bind {β : Type} {a : Ex} {f : Bool × Vl → Res β} {R : Hp → Hp → β → Prop} {Q' : VK} (rel : Rel X.K F σ H ρ) (h : Post T X W σ F H R ((ev C ρ a).bind f))
    (k : ∀ r x F1 H1, ev C ρ a = .ok r → Ext F H F1 H1 → Rel X.K F1 σ H1 ρ → VR X.K F1 σ ρ x r → Post T X W σ F1 H1 R (f r) → Q' x H1) : tE T X C W a σ H Q' := by
  refine ⟨F, ρ, rel, ?_⟩
  cases e : ev C ρ a with
  | ok r =>
    rw [e] at h
    exact fun F1 H1 e1 x v => k r x F1 H1 e e1 (rel.ext e1) v (Post.mono e1 (show Post T X W σ F H R (f r) from h))
  | exc c p => rw [e] at h; exact h
  | bad => rw [e] at h; exact h.elim
theorem opt_post {α β : Type} {o : Option α} {f : α → Res β} {R : Hp → Hp → β → Prop} (h : Post T X W σ F H R (opt o f)) : ∃ x, o = some x ∧ Post T X W σ F H R (f x) := by
  cases o with
  | none => exact h.elim
  | some x => exact ⟨x, rfl, h⟩
/-- the value is told -/
theorem ret_post {d : D} (h : Post T X W σ F H (RV1 X σ ρ Q) (ret d)) : Wants X.K F H d Q := fun v F' H' e hd => h F' H' e v hd
theorem PE.imp {e : Expr} {t t' : TE} (h : PE X e t) (hi : ∀ σ H Q, t' σ H Q → t σ H Q) : PE X e t' := ⟨fun pins s σ H Q I hw => h.run pins s σ H Q I (hi σ H Q hw)⟩
theorem PT.imp {e : Expr} {t t' : TT} (h : PT X e t) (hi : ∀ σ H Q, t' σ H Q → t σ H Q) : PT X e t' := ⟨fun pins s σ H Q I hw => h.run pins s σ H Q I (hi σ H Q hw)⟩
theorem PA.imp {es : List Expr} {t t' : TA} (h : PA X es t) (hi : ∀ σ H Q, t' σ H Q → t σ H Q) : PA X es t' := ⟨fun pos pins s σ H Q I hw => h.run pos pins s σ H Q I (hi σ H Q hw)⟩

/-- arguments -/
def tEs (T : Tab) (X : Cx) (C : Cfg) (W : WX) (es : List Ex) : TA := fun σ H Q => ∃ F ρ, Rel X.K F σ H ρ ∧ Post T X W σ F H (fun F' H' ds => ∀ vs, DqAll X.K F' vs ds → Q vs H') (evs C ρ es)
theorem tEs_bind {β : Type} {es : List Ex} {f : List D → Res β} {R : Hp → Hp → β → Prop} {Q' : List V → Hp → Prop} (rel : Rel X.K F σ H ρ) (h : Post T X W σ F H R ((evs C ρ es).bind f))
    (k : ∀ ds vs F1 H1, evs C ρ es = .ok ds → Ext F H F1 H1 → Rel X.K F1 σ H1 ρ → DqAll X.K F1 vs ds → Post T X W σ F1 H1 R (f ds) → Q' vs H1) : tEs T X C W es σ H Q' := by
  refine ⟨F, ρ, rel, ?_⟩
  cases e : evs C ρ es with
  | ok r =>
    rw [e] at h
    exact fun F1 H1 e1 vs v => k r vs F1 H1 e e1 (rel.ext e1) v (Post.mono e1 (show Post T X W σ F H R (f r) from h))
  | exc c p => rw [e] at h; exact h
  | bad => rw [e] at h; exact h.elim

/-- a test -/
def tT (T : Tab) (X : Cx) (C : Cfg) (W : WX) (e : Ex) : TT := fun σ H Q => ∃ F ρ, Rel X.K F σ H ρ ∧ Post T X W σ F H (fun _ H' b => Q b H') (evT C ρ e)
theorem tT_bind {β : Type} {a : Ex} {f : Bool → Res β} {R : Hp → Hp → β → Prop} {Q' : Bool → Hp → Prop} (rel : Rel X.K F σ H ρ) (h : Post T X W σ F H R ((evT C ρ a).bind f))
    (k : ∀ b F1 H1, evT C ρ a = .ok b → Ext F H F1 H1 → Rel X.K F1 σ H1 ρ → Post T X W σ F1 H1 R (f b) → Q' b H1) : tT T X C W a σ H Q' := by
  refine ⟨F, ρ, rel, ?_⟩
  cases e : evT C ρ a with
  | ok r =>
    rw [e] at h
    exact fun F1 H1 e1 => k r F1 H1 e e1 (rel.ext e1) (Post.mono e1 (show Post T X W σ F H R (f r) from h))
  | exc c p => rw [e] at h; exact h
  | bad => rw [e] at h; exact h.elim
end

/-! ### names and stars -/
theorem visB_ok {sc : Scope} {x : Str} (h : visB sc x = true) : Vis sc x := by
  unfold visB at h
  unfold Vis
  split at h <;> first | (rename_i e; simp [e]; done) | cases h
theorem glB_ok {X : Cx} {sc : Scope} {x : Str} (hs : X.env.scope = sc) (h : glB sc x = true) : Gl X x := by
  unfold glB at h
  split at h
  · rename_i e
    show X.env.scope.names.lookup x = _
    rw [hs]; exact e
  · cases h
theorem nmB_ok {x : Str} (h : nmB x = true) : (x == ("__debug__" : Str)) = false ∧ (x == ("__classdict__" : Str)) = false ∧ x ≠ "__name__" := by
  unfold nmB at h
  simp only [Bool.and_eq_true, Bool.not_eq_true', decide_eq_false_iff_not] at h
  exact ⟨h.1.1, h.1.2, h.2⟩
theorem star_cons {e : Expr} {es : List Expr} {env : PySem.Env} (h : isStar e = false) : starEach (e :: es) env = (false, eval e env) :: starEach es env := by
  cases e <;> first | rfl | cases h
theorem plain_ix {e : Expr} (h : isSlice e = false) : PlainIx e := by
  intro o i
  cases e <;> first | rfl | cases h
theorem fold_ix {e : Expr} {env : PySem.Env} (h : isSet e = false) : ∀ x, foldedSetIterable e env x = pure x := by
  intro x
  cases e <;> first | rfl | cases h
theorem base_ix {e : Expr} {name : Str} {env : PySem.Env} (h : isCall0 e = false) : attributeBase e name env (eval e env) = eval e env := by
  unfold attributeBase
  split
  · cases h
  · rfl
theorem plainT_ok {e : Expr} {env : PySem.Env} (h : plainT e = true) : ∀ whole, isTrue e env whole = (do let v ← whole; standAt e.pos; holding [v] (PySem.truthy v)) := by
  intro whole
  cases e with
  | UnaryOp op a p => cases op <;> first | rfl | cases h
  | BoolOp _ _ _ => cases h
  | IfExp _ _ _ _ => cases h
  | Compare _ _ _ _ => cases h
  | _ => rfl
theorem chkEs_star {T : Tab} {N : List Str} {sc : Scope} {env : PySem.Env} {pos : Pos} : ∀ {es : List Ex} {xs : List Expr}, chkEs T N es sc xs = true → (backTo pos (starEach xs env)).any (·.1) = false
  | [], [], _ => rfl
  | e :: es, x :: xs, h => by
    rw [chkEs] at h
    simp only [Bool.and_eq_true, Bool.not_eq_true'] at h
    have ih := chkEs_star (pos := pos) (env := env) h.2
    rw [star_cons h.1.1]
    show (false || (backTo pos (starEach xs env)).any (·.1)) = false
    rw [ih]; rfl
  | [], _ :: _, h => by rw [chkEs] at h; cases h; all_goals (intros; simp_all)
  | _ :: _, [], h => by rw [chkEs] at h; cases h; all_goals (intros; simp_all)
end RL
/-! RLIter: what a loop or a comprehension walks; targets. -/
namespace RL
open PySem PySem.Spec PyProof.Rows L2

/-- an item: frozen data, or a new pair of data -/
def Iw (K : W.Frag) (F H : Hp) (x : V) (d : D) : Prop := Dq K F x d ∨ ∃ a vs ds, x = .ref a ∧ d = .tuple ds ∧ H a = some (.tup vs) ∧ DqAll K F vs ds
/-- the iterator yields these items while B stands -/
structure JOk (K : W.Frag) (z : Bool) (J : It) (F B : Hp) (its : List D) : Prop where
  go : ∀ (i : Nat) H, Same B H → i < its.length → J.go i H
  stop : ∀ (i : Nat) H, Same B H → its.length ≤ i → J.stop i H
  yld : ∀ (i : Nat) H x H', Same B H → i < its.length → J.yld i H x H' → ∃ d, its[i]? = some d ∧ Same H H' ∧ (Dq K F x d ∨ z = true ∧ Iw K F H' x d)
section
variable {K : W.Frag} {F B : Hp} {a : Addr} {vs : List V} {ds : List D} {z : Bool}
theorem jok_list (h : Rd B a (.lst vs)) (r : DqAll K F vs ds) : JOk K z (Itl K a) F B ds where
  go := fun i H s hi => by
    obtain ⟨v, e, _⟩ := r.get (List.getElem?_eq_getElem hi)
    exact ⟨vs, v, .inl (Rd.mono s h), e⟩
  stop := fun i H s hi => ⟨vs, .inl (Rd.mono s h), by rw [r.length]; exact hi⟩
  yld := fun i H x H' s hi y => by
    obtain ⟨rfl, y⟩ := y
    obtain ⟨d, e, q⟩ := r.get' (y vs (.inl (Rd.mono s h)))
    exact ⟨d, e, Same.refl _, .inl q⟩
theorem jok_tup (h : SqT K B a vs) (r : DqAll K F vs ds) : JOk K z (Itt K a) F B ds where
  go := fun i H s hi => by
    obtain ⟨v, e, _⟩ := r.get (List.getElem?_eq_getElem hi)
    exact ⟨vs, v, sqT_mono s h, e⟩
  stop := fun i H s hi => ⟨vs, sqT_mono s h, by rw [r.length]; exact hi⟩
  yld := fun i H x H' s hi y => by
    obtain ⟨rfl, y⟩ := y
    obtain ⟨d, e, q⟩ := r.get' (y vs (sqT_mono s h))
    exact ⟨d, e, Same.refl _, .inl q⟩
theorem jok_range (lo : Int) (n : Nat) : JOk K z (Itr lo n) F B ((List.range n).map fun i => .int (lo + (i : Nat))) where
  go := fun i H s hi => by
    have : i < n := by simpa using hi
    exact this
  stop := fun i H s hi => by
    have : n ≤ i := by simpa using hi
    exact this
  yld := fun i H x H' s hi y => by
    obtain ⟨rfl, rfl⟩ := y
    have hi' : i < n := by simpa using hi
    exact ⟨.int (lo + i), by simp [hi'], Same.refl _, .inl (.int _)⟩
theorem get_zip {α β : Type} {xs : List α} {ys : List β} {i : Nat} {x : α} {y : β} (h1 : xs[i]? = some x) (h2 : ys[i]? = some y) : (xs.zip ys)[i]? = some (x, y) := by
  rw [List.getElem?_zip_eq_some]; exact ⟨h1, h2⟩
theorem jok_zipT {b : Addr} {us : List V} {es : List D} (h : SqT K B a vs) (r : DqAll K F vs ds) (h' : SqT K B b us) (r' : DqAll K F us es) : JOk K true (RZ.ItzT K a b) F B ((ds.zip es).map fun p => .tuple [p.1, p.2]) where
  go := fun i H s hi => by
    have hi' : i < ds.length ∧ i < es.length := by simpa [Nat.lt_min] using hi
    obtain ⟨v, e, _⟩ := r.get (List.getElem?_eq_getElem hi'.1)
    obtain ⟨v2, e2, _⟩ := r'.get (List.getElem?_eq_getElem hi'.2)
    exact ⟨vs, us, v, v2, sqT_mono s h, sqT_mono s h', e, e2⟩
  stop := fun i H s hi => by
    refine ⟨vs, us, sqT_mono s h, sqT_mono s h', ?_⟩
    have : min ds.length es.length ≤ i := by simpa using hi
    rw [r.length, r'.length]; omega
  yld := fun i H x H' s hi y => by
    obtain ⟨T, x1, y1, rfl, hn, rfl, hx, hy⟩ := y
    obtain ⟨d, e1, q1⟩ := r.get' (hx vs (sqT_mono s h))
    obtain ⟨d2, e2, q2⟩ := r'.get' (hy us (sqT_mono s h'))
    refine ⟨.tuple [d, d2], by rw [List.getElem?_map, get_zip e1 e2]; rfl, same_upd hn, .inr ⟨rfl, .inr ⟨T, _, _, rfl, rfl, upd_same, .cons q1 (.cons q2 .nil)⟩⟩⟩
theorem jok_zipL {b : Addr} {us : List V} {es : List D} (h : Rd B a (.lst vs)) (r : DqAll K F vs ds) (h' : Rd B b (.lst us)) (r' : DqAll K F us es) : JOk K true (Itz K a b) F B ((ds.zip es).map fun p => .tuple [p.1, p.2]) where
  go := fun i H s hi => by
    have hi' : i < ds.length ∧ i < es.length := by simpa [Nat.lt_min] using hi
    obtain ⟨v, e, _⟩ := r.get (List.getElem?_eq_getElem hi'.1)
    obtain ⟨v2, e2, _⟩ := r'.get (List.getElem?_eq_getElem hi'.2)
    exact ⟨vs, us, v, v2, .inl (Rd.mono s h), .inl (Rd.mono s h'), e, e2⟩
  stop := fun i H s hi => by
    refine ⟨vs, us, .inl (Rd.mono s h), .inl (Rd.mono s h'), ?_⟩
    have : min ds.length es.length ≤ i := by simpa using hi
    rw [r.length, r'.length]; omega
  yld := fun i H x H' s hi y => by
    obtain ⟨T, x1, y1, rfl, hn, rfl, hx, hy⟩ := y
    obtain ⟨d, e1, q1⟩ := r.get' (hx vs (.inl (Rd.mono s h)))
    obtain ⟨d2, e2, q2⟩ := r'.get' (hy us (.inl (Rd.mono s h')))
    refine ⟨.tuple [d, d2], by rw [List.getElem?_map, get_zip e1 e2]; rfl, same_upd hn, .inr ⟨rfl, .inr ⟨T, _, _, rfl, rfl, upd_same, .cons q1 (.cons q2 .nil)⟩⟩⟩
end

/-- a sequence is walked, a list or a tuple -/
theorem pi_seq {X : Cx} {tg l : Expr} {tl : TE} (hl : PE X l tl) : PI X tg l (fun σ H R => tl σ H fun x H1 => ∃ a, x = .ref a ∧ ((∃ xs, SqL X.K H1 a xs) ∧ R (Itl X.K a) H1 ∨ (∃ xs, SqT X.K H1 a xs) ∧ R (Itt X.K a) H1)) := by
  refine ⟨fun pins s σ H R I h => ?_⟩
  refine thn (hl.run pins s σ H _ I h) fun v s1 ⟨x, H1, I1, r1, q1⟩ => ?_
  obtain ⟨a, e, q1⟩ := q1
  subst e
  cases r1
  rcases q1 with ⟨⟨xs, hq⟩, q⟩ | ⟨⟨xs, hq⟩, q⟩
  · obtain ⟨its, rv, p, hz⟩ := I1.list hq
    refine wpAny_pyIter_list p.isList ?_
    refine ⟨s1.heap.objs.size, [s1.heap.objs.size], _, _, H1, rfl, I1.kept (t' := s1.toks) fun b o e => Heap.get?_push_of_some _ e, turn_list a _, ⟨_, Heap.get?_push_size _ rfl, rfl, rfl⟩, fun b hb => ?_, q⟩
    have e : b = s1.heap.objs.size := by simpa using hb
    subst e
    exact I1.fpOk (Nat.le_refl _) (I1.hok.fresh (Nat.le_refl _))
  · obtain ⟨its, rv, p, hz⟩ := I1.tuple hq
    refine wpAny_pyIter_tuple (show s1.heap.IsTuple a its.toArray from p) ?_
    refine ⟨s1.heap.objs.size, [s1.heap.objs.size], _, _, H1, rfl, I1.kept (t' := s1.toks) fun b o e => Heap.get?_push_of_some _ e, turn_tuple a _, ⟨_, Heap.get?_push_size _ rfl, rfl, rfl⟩, fun b hb => ?_, q⟩
    have e : b = s1.heap.objs.size := by simpa using hb
    subst e
    exact I1.fpOk (Nat.le_refl _) (I1.hok.fresh (Nat.le_refl _))

/-- what is walked, by the evaluator: the items, while B stands (the frozen part, or all where a slot's own list is walked) -/
def tS (T : Tab) (X : Cx) (C : Cfg) (W : WX) (k : Sk) (a b : Ex) : TI := fun σ H R => ∃ F ρ, Rel X.K F σ H ρ ∧
  Post T X W σ F H (fun F' H' (r : Bool × List D) => ∀ J, JOk X.K (isZip k) J F' (if r.1 then H' else F') r.2 → R J H') ((ev C ρ a).bind fun x => (ev C ρ b).bind fun y => opt (itemsOf k x.2 y.2) fun its => .ok (x.1 || y.1, its))
theorem PI.imp {X : Cx} {tg e : Expr} {t t' : TI} (h : PI X tg e t) (hi : ∀ σ H Q, t' σ H Q → t σ H Q) : PI X tg e t' := ⟨fun pins s σ H Q I hw => h.run pins s σ H Q I (hi σ H Q hw)⟩

section
variable {T : Tab} {X : Cx} {C : Cfg} {W : WX} {a b : Ex} {N : List Str} {k : Nat} {sc : Scope}
/-- a slot's own list, or a frozen one, stands in B -/
theorem VR.listB {F H : Hp} {σ : L2.St} {ρ : Env} {x : V} {r : Bool × Vl} {ds : List D} (rel : Rel X.K F σ H ρ) (h : VR X.K F σ ρ x r) (e : r.2 = .dat (.list ds)) (c : Bool) :
    ∃ p vs, x = .ref p ∧ Rd (if r.1 || c then H else F) p (.lst vs) ∧ DqAll X.K F vs ds := by
  obtain ⟨o, v⟩ := r
  simp only at e
  subst e
  cases o with
  | false =>
    cases h with
    | lst hs ha =>
      refine ⟨_, _, rfl, ?_, ha⟩
      cases c with
      | false => exact hs
      | true => exact Rd.mono rel.sub hs
  | true =>
    rcases (VR.rv rel h).rd with q | ⟨p, vs, ds', e1, e2, e3, e4⟩
    · cases q with
      | lst hs ha => exact ⟨_, _, rfl, Rd.mono rel.sub hs, ha⟩
    · cases e2
      exact ⟨p, vs, e1, .inl e3, e4⟩
theorem VR.tupB {F H : Hp} {σ : L2.St} {ρ : Env} {x : V} {r : Bool × Vl} {ds : List D} (rel : Rel X.K F σ H ρ) (h : VR X.K F σ ρ x r) (e : r.2 = .dat (.tuple ds)) (c : Bool) :
    ∃ p vs, x = .ref p ∧ SqT X.K (if c then H else F) p vs ∧ DqAll X.K F vs ds := by
  have q := VR.rv rel h
  rw [e] at q
  obtain ⟨p, vs, e1, _, e3, e4⟩ := q.rd.tup rel.sub
  refine ⟨p, vs, e1, ?_, e4⟩
  cases c with
  | false => exact e3.sq
  | true => exact sqT_mono rel.sub e3.sq

theorem pi_items {tg it : Expr} (ha : PE X it (tE T X C W a)) : PI X tg it (tS T X C W .items a (.con .none)) := by
  refine PI.imp (pi_seq ha) fun σ H R ⟨F, ρ, rel, h⟩ => ?_
  refine tE_bind rel h fun r x F1 H1 e e1 rel1 v h1 => ?_
  obtain ⟨its, hi, h2⟩ := opt_post (show Post T X W σ F1 H1 _ (opt (itemsOf .items r.2 (.dat .none)) fun its => .ok (r.1 || false, its)) from h1)
  have h2 := h2 F1 H1 (Ext.refl rel1.sub)
  cases q : r.2 with
  | dat d =>
    rw [q] at hi
    cases d with
    | list xs =>
      cases ok_inj hi
      obtain ⟨p, vs, rfl, h3, h4⟩ := VR.listB rel1 v q false
      refine ⟨p, rfl, .inl ⟨⟨vs, ?_⟩, h2 _ (jok_list h3 h4)⟩⟩
      cases e5 : r.1 || false with
      | true => rw [e5] at h3; exact .inl h3
      | false => rw [e5] at h3; exact .inl (Rd.mono rel1.sub h3)
    | tuple xs =>
      cases ok_inj hi
      obtain ⟨p, vs, rfl, h3, h4⟩ := VR.tupB rel1 v q (r.1 || false)
      refine ⟨p, rfl, .inr ⟨⟨vs, ?_⟩, h2 _ (jok_tup h3 h4)⟩⟩
      cases e5 : r.1 || false with
      | true => rw [e5] at h3; exact h3
      | false => rw [e5] at h3; exact sqT_mono rel1.sub h3
    | _ => cases hi
  | dI kvs => rw [q] at hi; cases hi
  | dT kvs =>
    have z := VR.rv rel1 v
    rw [q] at z
    exact z.dT.elim
  | exn c p => rw [q] at hi; cases hi

theorem pi_rg1 (ok : Ok T N k C sc X W) {tg p : Expr} {np pos : Pos} (hg : glB sc "range" = true) (hs : isStar p = false) (ha : PE X p (tE T X C W a)) : PI X tg (.Call (.Name "range" np) [p] [] pos) (tS T X C W .rg1 a (.con .none)) := by
  refine PI.imp (pi_range1 (glB_ok ok.sc hg) (ok.wd.blt _ (by simp [bltNames])) (pa_cons ha pa_nil (star_cons hs)) (star_cons hs)) fun σ H R ⟨F, ρ, rel, h⟩ => ?_
  refine tE_bind rel h fun r x F1 H1 e e1 rel1 v h1 => ?_
  obtain ⟨its, hi, h2⟩ := opt_post (show Post T X W σ F1 H1 _ (opt (itemsOf .rg1 r.2 (.dat .none)) fun its => .ok (r.1 || false, its)) from h1)
  have h2 := h2 F1 H1 (Ext.refl rel1.sub)
  cases q : r.2 with
  | dat d =>
    rw [q] at hi
    cases d with
    | int n =>
      obtain ⟨g, hi⟩ := grd_ok hi
      cases ok_inj hi
      simp only [Bool.and_eq_true, decide_eq_true_eq] at g
      have z := VR.rv rel1 v
      rw [q] at z
      have ex := z.rd.int
      subst ex
      refine ⟨n, rfl, g.1, g.2, h2 _ ?_⟩
      have j := jok_range (z := isZip .rg1) (K := X.K) (F := F1) (B := if (r.1 || false) then H1 else F1) 0 n.toNat
      simpa using j
    | _ => cases hi
  | _ => rw [q] at hi; cases hi
theorem pi_rg2 (ok : Ok T N k C sc X W) {tg p q : Expr} {np pos : Pos} (hg : glB sc "range" = true) (hs : isStar p = false) (hs2 : isStar q = false) (ha : PE X p (tE T X C W a)) (hb : PE X q (tE T X C W b)) :
    PI X tg (.Call (.Name "range" np) [p, q] [] pos) (tS T X C W .rg2 a b) := by
  refine PI.imp (pi_range2 (glB_ok ok.sc hg) (ok.wd.blt _ (by simp [bltNames])) (pa_cons ha (pa_cons hb pa_nil (star_cons hs2)) (star_cons hs)) (by rw [star_cons hs, star_cons hs2]; rfl) (by rw [star_cons hs2]; rfl)) fun σ H R ⟨F, ρ, rel, h⟩ => ?_
  refine tE_bind rel h fun r x F1 H1 e e1 rel1 v h1 => ?_
  refine tE_bind rel1 h1 fun r2 y F2 H2 e2 e3 rel2 v2 h2 => ?_
  obtain ⟨its, hi, h3⟩ := opt_post h2
  have h3 := h3 F2 H2 (Ext.refl rel2.sub)
  have v := VR.mono e3 v
  cases q : r.2 with
  | dat d =>
    cases q2 : r2.2 with
    | dat d2 =>
      rw [q, q2] at hi
      cases d with
      | int m =>
        cases d2 with
        | int n =>
          obtain ⟨g, hi⟩ := grd_ok hi
          cases ok_inj hi
          simp only [Bool.and_eq_true, decide_eq_true_eq] at g
          have z := VR.rv rel2 v
          rw [q] at z
          have ex := z.rd.int
          have z2 := VR.rv rel2 v2
          rw [q2] at z2
          have ey := z2.rd.int
          subst ex ey
          exact ⟨m, n, rfl, ⟨g.1.1.1, g.1.1.2, g.1.2, g.2⟩, h3 _ (jok_range _ _)⟩
        | _ => cases hi
      | _ => cases d2 <;> cases hi
    | _ => rw [q, q2] at hi; cases d <;> cases hi
  | _ => rw [q] at hi; cases hi
theorem pi_zipG (ok : Ok T N k C sc X W) {p q : Expr} {elts : List Expr} {kk : Nat} {tpos np pos : Pos} (hg : glB sc "zip" = true) (hs : isStar p = false) (hs2 : isStar q = false) (ha : PE X p (tE T X C W a)) (hb : PE X q (tE T X C W b)) :
    PI X (.Tuple elts kk tpos) (.Call (.Name "zip" np) [p, q] [] pos) (tS T X C W .zip a b) := by
  refine PI.imp (RZ.pi_zipA (glB_ok ok.sc hg) (ok.wd.blt _ (by simp [bltNames])) (pa_cons ha (pa_cons hb pa_nil (star_cons hs2)) (star_cons hs)) (star_cons hs) (by rw [star_cons hs2]; rfl)) fun σ H R ⟨F, ρ, rel, h⟩ => ?_
  refine tE_bind rel h fun r x F1 H1 e e1 rel1 v h1 => ?_
  refine tE_bind rel1 h1 fun r2 y F2 H2 e2 e3 rel2 v2 h2 => ?_
  obtain ⟨its, hi, h3⟩ := opt_post h2
  have h3 := h3 F2 H2 (Ext.refl rel2.sub)
  have v := VR.mono e3 v
  cases q : r.2 with
  | dat d =>
    cases q2 : r2.2 with
    | dat d2 =>
      rw [q, q2] at hi
      cases d with
      | list xs =>
        cases d2 with
        | list ys =>
          cases ok_inj hi
          obtain ⟨p1, vs, rfl, t1, d1⟩ := VR.listB rel2 v q r2.1
          obtain ⟨p2, us, rfl, t2, d2⟩ := VR.listB rel2 v2 q2 r.1
          rw [Bool.or_comm] at t2
          refine ⟨p1, p2, vs, us, rfl, .inl ⟨?_, ?_, h3 _ (jok_zipL t1 d1 t2 d2)⟩⟩
          · cases e5 : r.1 || r2.1 with
            | true => rw [e5] at t1; exact .inl t1
            | false => rw [e5] at t1; exact .inl (Rd.mono rel2.sub t1)
          · cases e5 : r.1 || r2.1 with
            | true => rw [e5] at t2; exact .inl t2
            | false => rw [e5] at t2; exact .inl (Rd.mono rel2.sub t2)
        | _ => cases hi
      | tuple xs =>
        cases d2 with
        | tuple ys =>
          cases ok_inj hi
          obtain ⟨p1, vs, rfl, t1, d1⟩ := VR.tupB rel2 v q (r.1 || r2.1)
          obtain ⟨p2, us, rfl, t2, d2⟩ := VR.tupB rel2 v2 q2 (r.1 || r2.1)
          refine ⟨p1, p2, vs, us, rfl, .inr ⟨?_, ?_, h3 _ (jok_zipT t1 d1 t2 d2)⟩⟩
          · cases e5 : r.1 || r2.1 with
            | true => rw [e5] at t1; exact t1
            | false => rw [e5] at t1; exact sqT_mono rel2.sub t1
          · cases e5 : r.1 || r2.1 with
            | true => rw [e5] at t2; exact t2
            | false => rw [e5] at t2; exact sqT_mono rel2.sub t2
        | _ => cases hi
      | _ => cases d2 <;> cases hi
    | _ => rw [q, q2] at hi; cases d <;> cases hi
  | _ => rw [q] at hi; cases hi
end
end RL
/-! RLExpr: an expression that passes the check is read as the evaluator tells. -/
namespace RL
open PySem PySem.Spec PyProof.Rows L2

/-! ### slots and targets -/
section
variable {K : W.Frag} {F H : Hp} {σ : L2.St} {ρ : Env} {x : V} {v : Vl} {i : Nat}
theorem get_set {α : Type} {l : List α} {i j : Nat} {a b : α} (h : (l.set i a)[j]? = some b) : (j = i ∧ b = a ∧ i < l.length) ∨ (j ≠ i ∧ l[j]? = some b) := by
  by_cases e : j = i
  · subst e
    have hl : j < l.length := by
      have := (List.getElem?_eq_some_iff.mp h).1
      simpa using this
    rw [List.getElem?_set_self hl] at h
    exact .inl ⟨rfl, (Option.some.inj h).symm, hl⟩
  · rw [List.getElem?_set_ne (fun z => e z.symm)] at h
    exact .inr ⟨e, h⟩
theorem Rel.setVal (r : Rel K F σ H ρ) (h : Frep K F x v) (i : Nat) : Rel K F (σ.set i (some x)) H (ρ.set i (some (.val v))) where
  sub := r.sub
  len := by simp [r.len]
  val := fun j u hj => by
    rcases get_set hj with ⟨rfl, e, hl⟩ | ⟨hne, e⟩
    · cases e
      exact ⟨x, by rw [List.getElem?_set_self (by rw [r.len]; exact hl)], h⟩
    · rw [List.getElem?_set_ne (fun z => hne z.symm)]
      exact r.val j u e
  own := fun j u hj => by
    rcases get_set hj with ⟨rfl, e, hl⟩ | ⟨hne, e⟩
    · cases e
    · rw [List.getElem?_set_ne (fun z => hne z.symm)]
      exact r.own j u e
  dis := fun j k u w a hjk hj hk h1 => by
    rcases get_set hj with ⟨rfl, e, hl⟩ | ⟨hne, e⟩
    · cases e
    · rcases get_set hk with ⟨rfl, e2, hl⟩ | ⟨hne2, e2⟩
      · cases e2
      · rw [List.getElem?_set_ne (fun z => hne z.symm)] at h1
        rw [List.getElem?_set_ne (fun z => hne2 z.symm)]
        exact r.dis j k u w a hjk e e2 h1
end
/-- what a target's store leaves -/
structure TgP (sl : List Nat) (σ : L2.St) (ρ : Env) (σ' : L2.St) (ρ' : Env) : Prop where
  len : σ'.length = σ.length
  keep : ∀ j : Nat, j ∉ sl → σ'[j]? = σ[j]?
  own : ∀ (j : Nat) v, ρ'[j]? = some (some (.own v)) → ρ[j]? = some (some (.own v)) ∧ σ'[j]? = σ[j]?
theorem TgP.trans {s1 s2 : List Nat} {σ σ1 σ2 : L2.St} {ρ ρ1 ρ2 : Env} (a : TgP s1 σ ρ σ1 ρ1) (b : TgP s2 σ1 ρ1 σ2 ρ2) : TgP (s1 ++ s2) σ ρ σ2 ρ2 where
  len := b.len.trans a.len
  keep := fun j hj => by
    rw [List.mem_append, not_or] at hj
    exact (b.keep j hj.2).trans (a.keep j hj.1)
  own := fun j v h => by
    obtain ⟨h1, h2⟩ := b.own j v h
    obtain ⟨h3, h4⟩ := a.own j v h1
    exact ⟨h3, h2.trans h4⟩
/-- what a target asks of the item -/
def Ifor (K : W.Frag) (F H : Hp) (x : V) (d : D) : Tg → Prop
  | .one _ => Dq K F x d
  | .many _ => Iw K F H x d
theorem Ifor.of {K : W.Frag} {F H : Hp} {x : V} {d : D} (t : Tg) (h : Dq K F x d) : Ifor K F H x d t := by
  cases t with
  | one _ => exact h
  | many _ => exact .inl h
def tG (X : Cx) (t : Tg) : TG := fun v σ H Q => ∃ F ρ d ρ', Rel X.K F σ H ρ ∧ Ifor X.K F H v d t ∧ bindTg ρ d t = some ρ' ∧ ∀ σ', Rel X.K F σ' H ρ' → TgP (tgSlots t) σ ρ σ' ρ' → Q σ' H
def tGs (X : Cx) (l : List Tg) : TGs := fun vs σ H Q => ∃ F ρ ds ρ', Rel X.K F σ H ρ ∧ DqAll X.K F vs ds ∧ bindTgs ρ ds l = some ρ' ∧ ∀ σ', Rel X.K F σ' H ρ' → TgP (tgsSlots l) σ ρ σ' ρ' → Q σ' H
theorem PG.imp {X : Cx} {e : Expr} {t t' : TG} (h : PG X e t) (hi : ∀ v σ H Q, t' v σ H Q → t v σ H Q) : PG X e t' := ⟨fun pins s σ H v u Q I r hw => h.run pins s σ H v u Q I r (hi v σ H Q hw)⟩
theorem PGs.imp {X : Cx} {e : List Expr} {t t' : TGs} (h : PGs X e t) (hi : ∀ v σ H Q, t' v σ H Q → t v σ H Q) : PGs X e t' := ⟨fun pins s σ H v u Q I r hw => h.run pins s σ H v u Q I r (hi v σ H Q hw)⟩
theorem locB_ok {sc : Scope} {x : Str} (h : locB sc x = true) : sc.names.lookup x = some .local := by
  unfold locB at h
  split at h
  · assumption
  · cases h
theorem celB_ok {sc : Scope} {x : Str} (h : celB sc x = true) : sc.names.lookup x = some .cell := by
  unfold celB at h
  split at h
  · assumption
  · cases h
theorem bindTgs_len : ∀ {l : List Tg} {ds : List D} {ρ ρ' : Env}, bindTgs ρ ds l = some ρ' → ds.length = l.length
  | [], [], _, _, _ => rfl
  | [], _ :: _, _, _, h => by cases h
  | _ :: _, [], _, _, h => by cases h
  | t :: l, d :: ds, ρ, ρ', h => by
    obtain ⟨r1, _, e2⟩ := bind_ok (show (bindTg ρ d t).bind (fun r => bindTgs r ds l) = some ρ' from h)
    simp [bindTgs_len e2]
section
variable {X : Cx} {N : List Str} {sc : Scope} {strict : Bool}
mutual
theorem pg_ok (hn : X.N = N) (nd : N.Nodup) (hsc : X.env.scope = sc) (calm : X.calm = true) (fn : strict = false → ∀ x, X.fn x = true) : ∀ (t : Tg) (e : Expr), chkTg N sc strict t e = true → PG X e (tG X t)
  | .one i, e, h => by
    cases e with
    | Name x p =>
      have h : (decide (N[i]? = some x) && (locB sc x || (!strict && celB sc x))) = true := h
      rw [Bool.and_eq_true, decide_eq_true_eq, Bool.or_eq_true] at h
      have hl : Loc X.env.scope x ∧ (X.fn x = true ∨ X.env.scope.names.lookup x = some .local) := by
        rw [hsc]
        rcases h.2 with z | z
        · exact ⟨.inl (locB_ok z), .inr (locB_ok z)⟩
        · rw [Bool.and_eq_true] at z
          exact ⟨.inr (celB_ok z.2), .inl (fn (by simpa using z.1) x)⟩
      refine PG.imp (pg_name (i := i) (by rw [hn]; exact nd) (by rw [hn]; exact h.1) hl.1 hl.2) fun v σ H Q ⟨F, ρ, d, ρ', rel, iw, e1, q⟩ => ?_
      rw [bindTg] at e1
      cases ok_inj e1
      refine q _ (rel.setVal (v := .dat d) iw i) ⟨by simp, fun j hj => ?_, fun j u hj => ?_⟩
      · have : j ≠ i := fun z => hj (by simp [tgSlots, z])
        rw [List.getElem?_set_ne (fun z => this z.symm)]
      · rcases get_set hj with ⟨rfl, e, _⟩ | ⟨hne, e⟩
        · cases e
        · exact ⟨e, by rw [List.getElem?_set_ne (fun z => hne z.symm)]⟩
    | _ => exact absurd (show false = true from h) Bool.false_ne_true
  | .many l, e, h => by
    cases e with
    | Tuple es kk p =>
      have h : chkTgs N sc strict l es = true := h
      obtain ⟨h1, h2, h3⟩ := pgs_ok hn nd hsc calm fn l es h
      refine PG.imp (pg_tup calm h1 h2 h3) fun v σ H Q ⟨F, ρ, d, ρ', rel, iw, e1, q⟩ => ?_
      cases d with
      | tuple ds =>
        have e1 : bindTgs ρ ds l = some ρ' := e1
        have hl : ds.length = l.length := bindTgs_len e1
        rcases iw with iw | ⟨a, vs, ds', e2, e3, e4, e5⟩
        · cases iw with
          | tup hs ha => exact ⟨_, _, rfl, sqT_mono rel.sub hs.sq, by rw [ha.length]; exact hl, F, ρ, ds, ρ', rel, ha, e1, q⟩
        · cases e3
          exact ⟨a, vs, e2, SqT.of e4, by rw [e5.length]; exact hl, F, ρ, ds, ρ', rel, e5, e1, q⟩
      | _ => cases e1
    | _ => exact absurd (show false = true from h) Bool.false_ne_true
theorem pgs_ok (hn : X.N = N) (nd : N.Nodup) (hsc : X.env.scope = sc) (calm : X.calm = true) (fn : strict = false → ∀ x, X.fn x = true) : ∀ (l : List Tg) (es : List Expr), chkTgs N sc strict l es = true →
    PGs X es (tGs X l) ∧ (assignEach es X.env).length = l.length ∧ (assignEach es X.env).findIdx? (·.1) = none
  | [], es, h => by
    cases es with
    | nil =>
      refine ⟨PGs.imp pgs_nil fun v σ H Q ⟨F, ρ, ds, ρ', rel, iw, e1, q⟩ => ?_, rfl, rfl⟩
      cases ds with
      | nil =>
        cases iw
        cases ok_inj e1
        exact ⟨rfl, q σ rel ⟨rfl, fun _ _ => rfl, fun j v h => ⟨h, rfl⟩⟩⟩
      | cons _ _ => cases e1
    | cons _ _ => exact absurd (show false = true from h) Bool.false_ne_true
  | t :: l, es, h => by
    cases es with
    | nil => exact absurd (show false = true from h) Bool.false_ne_true
    | cons e es =>
      have h : (chkTg N sc strict t e && chkTgs N sc strict l es) = true := h
      rw [Bool.and_eq_true] at h
      have p1 := pg_ok hn nd hsc calm fn t e h.1
      obtain ⟨p2, p3, p4⟩ := pgs_ok hn nd hsc calm fn l es h.2
      have ne : assignEach (e :: es) X.env = (false, assign e X.env) :: assignEach es X.env := by
        cases e with
        | Starred _ _ => exact absurd (show false = true by cases t <;> exact h.1) Bool.false_ne_true
        | _ => rfl
      refine ⟨PGs.imp (pgs_cons p1 p2 (by rw [ne]; rfl)) fun v σ H Q ⟨F, ρ, ds, ρ', rel, iw, e1, q⟩ => ?_, by rw [ne]; simp [p3], by rw [ne]; simp [List.findIdx?_cons, p4]⟩
      cases ds with
      | nil => cases e1
      | cons d ds =>
        cases iw with
        | cons i1 i2 =>
          obtain ⟨r1, e2, e3⟩ := bind_ok (show (bindTg ρ d t).bind (fun r => bindTgs r ds l) = some ρ' from e1)
          refine ⟨_, _, rfl, F, ρ, d, r1, rel, Ifor.of t i1, e2, fun σ1 rel1 tp1 => ?_⟩
          exact ⟨F, r1, ds, ρ', rel1, i2, e3, fun σ2 rel2 tp2 => q σ2 rel2 (tp1.trans tp2)⟩
end
end

/-! ### wiping a comprehension's own slots -/
theorem wipe_len (r : Env) : ∀ vs : List Nat, (wipe r vs).length = r.length
  | [] => rfl
  | v :: vs => by unfold wipe; rw [List.length_set, wipe_len r vs]
theorem wipe_get {r : Env} {i : Nat} {x : Sl} : ∀ {vs : List Nat}, (wipe r vs)[i]? = some (some x) → r[i]? = some (some x) ∧ i ∉ vs
  | [], h => ⟨h, by simp⟩
  | v :: vs, h => by
    unfold wipe at h
    rcases get_set h with ⟨_, e, _⟩ | ⟨hne, e⟩
    · cases e
    · obtain ⟨h1, h2⟩ := wipe_get e
      exact ⟨h1, by simp only [List.mem_cons, not_or]; exact ⟨hne, h2⟩⟩
theorem wipeV_out {σ : L2.St} {i : Nat} : ∀ {vs : List Nat}, i ∉ vs → (L2.wipe σ vs)[i]? = σ[i]?
  | [], _ => rfl
  | v :: vs, h => by
    simp only [List.mem_cons, not_or] at h
    unfold L2.wipe
    rw [List.getElem?_set_ne (fun z => h.1 z.symm)]
    exact wipeV_out h.2
theorem wipeV_in {σ : L2.St} {i : Nat} : ∀ {vs : List Nat}, i ∈ vs → i < σ.length → (L2.wipe σ vs)[i]? = some none
  | [], h, _ => by cases h
  | v :: vs, h, hl => by
    unfold L2.wipe
    by_cases e : i = v
    · subst e
      rw [List.getElem?_set_self (by rw [L2.wipe_length]; exact hl)]
    · rw [List.getElem?_set_ne (fun z => e z.symm)]
      rcases List.mem_cons.mp h with z | z
      · exact absurd z e
      · exact wipeV_in z hl
theorem wipe_eq {σ σ' : L2.St} {vs : List Nat} (hl : σ'.length = σ.length) (h : ∀ j : Nat, j ∉ vs → σ'[j]? = σ[j]?) : L2.wipe σ' vs = L2.wipe σ vs := by
  apply List.ext_getElem?
  intro j
  by_cases hj : j ∈ vs
  · by_cases hlt : j < σ.length
    · rw [wipeV_in hj (by rw [hl]; exact hlt), wipeV_in hj hlt]
    · rw [List.getElem?_eq_none (by rw [L2.wipe_length, hl]; omega), List.getElem?_eq_none (by rw [L2.wipe_length]; omega)]
  · rw [wipeV_out hj, wipeV_out hj, h j hj]
theorem Rel.wiped {K : W.Frag} {F H : Hp} {σ : L2.St} {ρ : Env} (r : Rel K F σ H ρ) (vs : List Nat) : Rel K F (L2.wipe σ vs) H (wipe ρ vs) where
  sub := r.sub
  len := by rw [L2.wipe_length, wipe_len, r.len]
  val := fun i v h => by
    obtain ⟨h1, h2⟩ := wipe_get h
    rw [wipeV_out h2]
    exact r.val i v h1
  own := fun i v h => by
    obtain ⟨h1, h2⟩ := wipe_get h
    rw [wipeV_out h2]
    exact r.own i v h1
  dis := fun i j v u a hij hi hj h1 => by
    obtain ⟨a1, a2⟩ := wipe_get hi
    obtain ⟨b1, b2⟩ := wipe_get hj
    rw [wipeV_out a2] at h1
    rw [wipeV_out b2]
    exact r.dis i j v u a hij a1 b1 h1

/-! ### truth -/
theorem tru_of {K : W.Frag} {F H : Hp} {x : V} {v : Vl} {k : Bool} (sF : Same F H) (h : RV K F H x v) (e : truthy v = some k) : TruV K x H k := by
  cases v with
  | dat d =>
    have h' := h.rd
    cases d with
    | none => cases ok_inj e; have := h'.none; subst this; rfl
    | bool b => cases ok_inj e; have := h'.bool; subst this; rfl
    | int i => cases ok_inj e; have := h'.int; subst this; rfl
    | str z =>
      obtain ⟨g, e⟩ := grd_ok e
      cases ok_inj e
      have := h'.str
      subst this
      refine ⟨szOk_le g, ?_⟩
      show (z.length != 0) = ((z.length : Int) != 0)
      by_cases q : z.length = 0
      · rw [q]; rfl
      · have h2 : (z.length : Int) ≠ 0 := by omega
        rw [bne_iff_ne.mpr q, bne_iff_ne.mpr h2]
    | list xs =>
      cases ok_inj e
      obtain ⟨a, vs, rfl, t, r⟩ := h'.list sF
      refine .inl ⟨vs, .inl t, ?_⟩
      cases r <;> rfl
    | tuple xs =>
      cases ok_inj e
      obtain ⟨a, vs, rfl, t, _, r⟩ := h'.tup sF
      refine .inr (.inl ⟨vs, t, ?_⟩)
      cases r <;> rfl
    | dict _ => cases e
  | dI kvs =>
    cases ok_inj e
    obtain ⟨a, ks, rfl, ha, c⟩ := h.dI sF
    refine .inr (.inr ⟨ks, ha, ?_⟩)
    cases c <;> rfl
  | dT kvs => exact h.dT.elim
  | exn _ _ => exact h.exn.elim
end RL
/-! RLSound: the cases of the expressions' soundness. -/
namespace RL
open PySem PySem.Spec PyProof.Rows L2

section
variable {T : Tab} {N : List Str} {k : Nat} {C : Cfg}
def SE (T : Tab) (N : List Str) (k : Nat) (C : Cfg) (e : Ex) : Prop := ∀ (sc : Scope) (X : Cx) (W : WX) (a : Expr), Ok T N k C sc X W → chkE T N e sc a = true → PE X a (tE T X C W e)
def ST (T : Tab) (N : List Str) (k : Nat) (C : Cfg) (e : Ex) : Prop := ∀ (sc : Scope) (X : Cx) (W : WX) (a : Expr), Ok T N k C sc X W → chkE T N e sc a = true → PT X a (tT T X C W e)
def SEs (T : Tab) (N : List Str) (k : Nat) (C : Cfg) (es : List Ex) : Prop := ∀ (sc : Scope) (X : Cx) (W : WX) (as : List Expr), Ok T N k C sc X W → chkEs T N es sc as = true → PA X as (tEs T X C W es)
theorem no {p : Prop} (h : false = true) : p := absurd h Bool.false_ne_true
theorem Ok.hu {sc : Scope} {X : Cx} {W : WX} (ok : Ok T N k C sc X W) : X.A.units + 65 < cLine := by have := ok.room.un; omega

theorem se_var {i : Nat} : SE T N k C (.var i) := by
  intro sc X W a ok h
  cases a with
  | Name x p =>
    have h : (decide (N[i]? = some x) && visB sc x && nmB x) = true := h
    simp only [Bool.and_eq_true, decide_eq_true_eq] at h
    obtain ⟨n1, n2, _⟩ := nmB_ok h.2
    refine PE.imp (pe_var (i := i) (by rw [ok.n]; exact h.1.1) (by rw [ok.sc]; exact visB_ok h.1.2) n1 n2) fun σ H Q ⟨F, ρ, rel, hp⟩ => ?_
    have hp : Post T X W σ F H (RV1 X σ ρ Q) (match ρ[i]? with
      | some (some (.val v)) => .ok (false, v)
      | some (some (.own v)) => .ok (true, v)
      | _ => .bad) := hp
    cases e : ρ[i]? with
    | none => rw [e] at hp; exact hp.elim
    | some o =>
      cases o with
      | none => rw [e] at hp; exact hp.elim
      | some s =>
        cases s with
        | val v =>
          rw [e] at hp
          obtain ⟨x, h1, h2⟩ := rel.val i v e
          exact ⟨x, h1, hp F H (Ext.refl rel.sub) x h2⟩
        | own v =>
          rw [e] at hp
          obtain ⟨a, o, h1, h2, h3, h4⟩ := rel.own i v e
          exact ⟨.ref a, h1, hp F H (Ext.refl rel.sub) _ ⟨i, e, h1⟩⟩
  | _ => exact no h
theorem se_con {d : D} : SE T N k C (.con d) := by
  intro sc X W a ok h
  cases a with
  | Constant c j p =>
    have h : constB d c = true := h
    have fin : ∀ {v : V}, Dq X.K (fun _ => none) v d → ∀ σ H Q, tE T X C W (.con d) σ H Q → tC v σ H Q := fun {v} hd σ H Q ⟨F, ρ, rel, hp⟩ => (show Post T X W σ F H (RV1 X σ ρ Q) (ret d) from hp) F H (Ext.refl rel.sub) _ (Dq.mono (fun _ _ z => by cases z) _ _ hd)
    cases d with
    | none => cases c <;> first | exact PE.imp pe_non (fin .non) | exact no h
    | bool b =>
      cases c with
      | bool b' =>
        have e : b = b' := eq_of_beq h
        subst e
        exact PE.imp pe_bl (fin (.bl b))
      | _ => exact no h
    | int i =>
      cases c with
      | int i' =>
        have e : i = i' := of_decide_eq_true h
        subst e
        exact PE.imp pe_int (fin (.int i))
      | _ => exact no h
    | str i =>
      cases c with
      | str i' =>
        have e : i = i' := of_decide_eq_true h
        subst e
        exact PE.imp pe_str (fin (.str i))
      | _ => exact no h
    | _ => cases c <;> exact no h
  | _ => exact no h
theorem se_glo {g : Nat} : SE T N k C (.glo g) := by
  intro sc X W a ok h
  cases a with
  | Name x p =>
    have h : (decide (T.glo[g]? = some (some x)) && glB sc x && nmB x) = true := h
    simp only [Bool.and_eq_true, decide_eq_true_eq] at h
    obtain ⟨n1, n2, _⟩ := nmB_ok h.2
    obtain ⟨u, v, h1, h2, h3⟩ := ok.wd.glo g x h.1.1
    refine PE.imp (pe_glob (glB_ok ok.sc h.1.2) h1 h2 n1) fun σ H Q ⟨F, ρ, rel, hp⟩ => ?_
    obtain ⟨d, e, hp⟩ := opt_post (show Post T X W σ F H (RV1 X σ ρ Q) (opt (C.gv g) ret) from hp)
    exact hp F H (Ext.refl rel.sub) _ (h3 d e F)
  | _ => exact no h
theorem se_bin {o : BOp} {a b : Ex} (ha : SE T N k C a) (hb : SE T N k C b) : SE T N k C (.bin o a b) := by
  intro sc X W e ok h
  cases e with
  | BinOp l op r p =>
    have h : (decide (op = opOf o) && chkE T N a sc l && chkE T N b sc r) = true := h
    simp only [Bool.and_eq_true, decide_eq_true_eq] at h
    obtain ⟨⟨rfl, h1⟩, h2⟩ := h
    refine PE.imp (pe_op (op_bin o) (ha sc X W l ok h1) (hb sc X W r ok h2)) fun σ H Q ⟨F, ρ, rel, hp⟩ => ?_
    refine tE_bind rel hp fun r1 x F1 H1 _ e1 rel1 v1 hp1 => ?_
    refine tE_bind rel1 hp1 fun r2 y F2 H2 _ e2 rel2 v2 hp2 => ?_
    obtain ⟨d, q1, hp3⟩ := opt_post hp2
    obtain ⟨d2, q2, hp4⟩ := opt_post hp3
    obtain ⟨z, q3, hp5⟩ := opt_post hp4
    exact ⟨F2, d, d2, z, rel2.sub, (VR.mono e2 v1).rd rel2 q1, v2.rd rel2 q2, q3, ret_post hp5⟩
  | _ => exact no h
theorem se_neg {a : Ex} (ha : SE T N k C a) : SE T N k C (.neg a) := by
  intro sc X W e ok h
  cases e with
  | UnaryOp op x p =>
    cases op with
    | USub =>
      refine PE.imp (pe_un un_neg (ha sc X W x ok h)) fun σ H Q ⟨F, ρ, rel, hp⟩ => ?_
      refine tE_bind rel hp fun r1 x F1 H1 _ e1 rel1 v1 hp1 => ?_
      obtain ⟨d, q1, hp3⟩ := opt_post hp1
      obtain ⟨z, q3, hp5⟩ := opt_post hp3
      cases d with
      | int i =>
        cases ok_inj q3
        exact ⟨i, (v1.rd rel1 q1).int, ret_post hp5 _ F1 H1 (Ext.refl rel1.sub) (.int _)⟩
      | _ => cases q3
    | _ => exact no h
  | _ => exact no h

/-! ### comparisons -/
theorem retB_post {X : Cx} {W : WX} {σ : L2.St} {ρ : Env} {Q : VK} {F H : Hp} {b : Bool} (sF : Same F H) (h : Post T X W σ F H (RV1 X σ ρ Q) (retB b)) : Q (.bl b) H := h F H (Ext.refl sF) _ (.bl b)
theorem cmp_read {X : Cx} {W : WX} {sc : Scope} {o : COp} {a b : Ex} {l r : Expr} {p : Pos} (ok : Ok T N k C sc X W) :
    ∀ σ H Q, tE T X C W (.cmp o a b) σ H Q → tOp (rCmp X.K o) (tE T X C W a) (tE T X C W b) σ H Q := fun σ H Q ⟨F, ρ, rel, hp⟩ => by
  refine tE_bind rel hp fun r1 x F1 H1 _ e1 rel1 v1 hp1 => ?_
  refine tE_bind rel1 hp1 fun r2 y F2 H2 _ e2 rel2 v2 hp2 => ?_
  obtain ⟨d, q1, hp3⟩ := opt_post hp2
  obtain ⟨z, q3, hp5⟩ := opt_post hp3
  exact ⟨F2, d, r2.2, z, rel2.sub, (VR.mono e2 v1).rd rel2 q1, v2.rv rel2, q3, retB_post rel2.sub hp5⟩
theorem se_cmp {o : COp} {a b : Ex} (ha : SE T N k C a) (hb : SE T N k C b) : SE T N k C (.cmp o a b) := by
  intro sc X W e ok h
  cases e with
  | Compare l ops rs p =>
    match ops, rs, h with
    | [op], [r], h =>
      have h : (decide (op = copOf o) && !cmpMark op r && chkE T N a sc l && chkE T N b sc r) = true := h
      simp only [Bool.and_eq_true, decide_eq_true_eq, Bool.not_eq_true'] at h
      obtain ⟨⟨⟨rfl, hm⟩, h1⟩, h2⟩ := h
      exact PE.imp (pe_cmpR (op_cmp ok.hu o) (ha sc X W l ok h1) (hb sc X W r ok h2) hm) (cmp_read (l := l) (r := r) (p := p) ok)
    | [], _, h => exact no h
    | _ :: _ :: _, _, h => exact no h
    | [_], [], h => exact no h
    | [_], _ :: _ :: _, h => exact no h
  | _ => exact no h
/-- a test by a value that is a bool -/
theorem evT_retB {ρ : Env} {e : Ex} {b : Bool} (h : ev C ρ e = retB b) : evT C ρ e = .ok b := by
  unfold evT; rw [h]; rfl
theorem tT_of {X : Cx} {W : WX} {e : Ex} (hB : ∀ (ρ : Env) r, ev C ρ e = .ok r → ∃ b, r = (false, .dat (.bool b))) :
    ∀ σ H Q, tT T X C W e σ H Q → tTest (tE T X C W e) σ H Q := fun σ H Q ⟨F, ρ, rel, hp⟩ => by
  unfold evT at hp
  refine tE_bind rel hp fun r1 x F1 H1 er e1 rel1 v1 hp1 => ?_
  obtain ⟨b, rfl⟩ := hB ρ r1 er
  have q : x = .bl b := by cases v1; rfl
  exact ⟨b, q, hp1 F1 H1 (Ext.refl rel1.sub)⟩
theorem tTest_imp {t t' : TE} (h : ∀ σ H Q, t σ H Q → t' σ H Q) : ∀ σ H Q, tTest t σ H Q → tTest t' σ H Q := fun σ H Q q => h _ _ _ q
theorem res_bind_ok {a b : Type} {r : Res a} {f : a → Res b} {y : b} (h : Res.bind r f = .ok y) : ∃ x, r = .ok x ∧ f x = .ok y := by
  cases r with
  | ok x => exact ⟨x, rfl, h⟩
  | exc c p => cases h
  | bad => cases h
theorem opt_ok {a b : Type} {r : Option a} {f : a → Res b} {y : b} (h : opt r f = .ok y) : ∃ x, r = some x ∧ f x = .ok y := by
  cases r with
  | some x => exact ⟨x, rfl, h⟩
  | none => cases h
theorem st_cmp {o : COp} {a b : Ex} (ha : SE T N k C a) (hb : SE T N k C b) : ST T N k C (.cmp o a b) := by
  intro sc X W e ok h
  cases e with
  | Compare l ops rs p =>
    match ops, rs, h with
    | [op], [r], h =>
      have h : (decide (op = copOf o) && !cmpMark op r && chkE T N a sc l && chkE T N b sc r) = true := h
      simp only [Bool.and_eq_true, decide_eq_true_eq, Bool.not_eq_true'] at h
      obtain ⟨⟨⟨rfl, hm⟩, h1⟩, h2⟩ := h
      refine PT.imp (pt_cmpR (op_cmp ok.hu o) (ha sc X W l ok h1) (hb sc X W r ok h2) hm) fun σ H Q q => tTest_imp (cmp_read (l := l) (r := r) (p := p) ok) σ H Q (tT_of (fun ρ r hr => ?_) σ H Q q)
      obtain ⟨x, _, hr⟩ := res_bind_ok hr
      obtain ⟨y, _, hr⟩ := res_bind_ok hr
      obtain ⟨d, _, hr⟩ := opt_ok hr
      obtain ⟨b, _, hr⟩ := opt_ok hr
      cases hr
      exact ⟨b, rfl⟩
    | [], _, h => exact no h
    | _ :: _ :: _, _, h => exact no h
    | [_], [], h => exact no h
    | [_], _ :: _ :: _, h => exact no h
  | _ => exact no h
theorem chn_read {X : Cx} {W : WX} {sc : Scope} {o p : COp} {a b c : Ex} (ok : Ok T N k C sc X W) :
    ∀ σ H Q, tE T X C W (.chn o p a b c) σ H Q → tChain (rCmp X.K o) (rCmp X.K p) (tE T X C W a) (tE T X C W b) (tE T X C W c) σ H Q := fun σ H Q ⟨F, ρ, rel, hp⟩ => by
  refine tE_bind rel hp fun r1 x F1 H1 _ e1 rel1 v1 hp1 => ?_
  refine tE_bind rel1 hp1 fun r2 y F2 H2 _ e2 rel2 v2 hp2 => ?_
  obtain ⟨d, q1, hp3⟩ := opt_post hp2
  obtain ⟨d2, q2, hp4⟩ := opt_post hp3
  obtain ⟨z, q3, hp5⟩ := opt_post hp4
  have w2 := v2.rd rel2 q2
  have vv : RV X.K F2 H2 y (.dat d2) := by
    rcases w2 with w | ⟨a, vs, ds, e1, e2, e3, e4⟩
    · exact .inl w
    · have := v2.rv rel2
      obtain ⟨b2, v2'⟩ := r2
      cases v2' with
      | dat d' =>
        have : d' = d2 := by simpa [datR] using q2
        subst this
        exact v2.rv rel2
      | _ => cases b2 <;> simp [datR] at q2
  refine ⟨F2, d, .dat d2, z, rel2.sub, (VR.mono e2 v1).rd rel2 q1, vv, q3, z, rfl, ?_⟩
  cases z with
  | false => exact iteF (retB_post rel2.sub hp5)
  | true =>
    refine iteT ?_
    refine tE_bind rel2 hp5 fun r3 w F3 H3 _ e3 rel3 v3 hp6 => ?_
    obtain ⟨z, q3, hp7⟩ := opt_post hp6
    exact ⟨F3, d2, r3.2, z, rel3.sub, RD.mono e3 w2, v3.rv rel3, q3, retB_post rel3.sub hp7⟩
theorem se_chn {o p : COp} {a b c : Ex} (ha : SE T N k C a) (hb : SE T N k C b) (hc : SE T N k C c) : SE T N k C (.chn o p a b c) ∧ ST T N k C (.chn o p a b c) := by
  have hB : ∀ (ρ : Env) r, ev C ρ (.chn o p a b c) = .ok r → ∃ b, r = (false, .dat (.bool b)) := fun ρ r hr => by
    obtain ⟨x, _, hr⟩ := res_bind_ok hr
    obtain ⟨y, _, hr⟩ := res_bind_ok hr
    obtain ⟨d, _, hr⟩ := opt_ok hr
    obtain ⟨d2, _, hr⟩ := opt_ok hr
    obtain ⟨z, _, hr⟩ := opt_ok hr
    cases z with
    | true =>
      obtain ⟨w, _, hr⟩ := res_bind_ok hr
      obtain ⟨b, _, hr⟩ := opt_ok hr
      cases hr
      exact ⟨b, rfl⟩
    | false => cases hr; exact ⟨false, rfl⟩
  have key : ∀ (sc : Scope) (X : Cx) (W : WX) (e : Expr), Ok T N k C sc X W → chkE T N (.chn o p a b c) sc e = true → PE X e (tE T X C W (.chn o p a b c)) ∧ PT X e (tT T X C W (.chn o p a b c)) := by
    intro sc X W e ok h
    cases e with
    | Compare l ops rs pz =>
      match ops, rs, h with
      | [op, op'], [m, r], h =>
        have h : (decide (op = copOf o) && decide (op' = copOf p) && !cmpMark op m && !cmpMark op' r && chkE T N a sc l && chkE T N b sc m && chkE T N c sc r) = true := h
        simp only [Bool.and_eq_true, decide_eq_true_eq, Bool.not_eq_true'] at h
        obtain ⟨⟨⟨⟨⟨⟨rfl, rfl⟩, hm⟩, hm2⟩, h1⟩, h2⟩, h3⟩ := h
        have hl : lastMarks [copOf o, copOf p] [m, r] = false := hm2
        exact ⟨PE.imp (pe_chain (op_cmp ok.hu o) (op_cmp ok.hu p) (ha sc X W l ok h1) (hb sc X W m ok h2) (hc sc X W r ok h3) hl) (chn_read ok),
          PT.imp (pt_chain (op_cmp ok.hu o) (op_cmp ok.hu p) (ha sc X W l ok h1) (hb sc X W m ok h2) (hc sc X W r ok h3) hl) fun σ H Q q => tTest_imp (chn_read ok) σ H Q (tT_of hB σ H Q q)⟩
      | [], _, h => exact no h
      | [_], _, h => exact no h
      | _ :: _ :: _ :: _, _, h => exact no h
      | [_, _], [], h => exact no h
      | [_, _], [_], h => exact no h
      | [_, _], _ :: _ :: _ :: _, h => exact no h
    | _ => exact no h
  exact ⟨fun sc X W e ok h => (key sc X W e ok h).1, fun sc X W e ok h => (key sc X W e ok h).2⟩
end
end RL
/-! RLSound2: further cases: tests, displays, subscripts, calls. -/
namespace RL
open PySem PySem.Spec PyProof.Rows L2
section
variable {T : Tab} {N : List Str} {k : Nat} {C : Cfg}

/-! ### is None -/
theorem isN_rd {K : W.Frag} {F H : Hp} {x : V} {d : D} (h : RD K F H x d) : decide (x = .non) = isNoneD d := by
  rcases h with h | ⟨a, vs, ds, rfl, rfl, _, _⟩
  · cases h <;> rfl
  · rfl
theorem isn_read {X : Cx} {W : WX} {pos : Bool} {a : Ex} : ∀ σ H Q, tE T X C W (.isn pos a) σ H Q → tE T X C W a σ H fun x H1 => Q (.bl (if pos then decide (x = .non) else !decide (x = .non))) H1 := fun σ H Q ⟨F, ρ, rel, hp⟩ => by
  refine tE_bind rel hp fun r1 x F1 H1 _ e1 rel1 v1 hp1 => ?_
  obtain ⟨d, q1, hp3⟩ := opt_post hp1
  have h := retB_post rel1.sub hp3
  rw [isN_rd (v1.rd rel1 q1)]
  cases pos <;> cases e : isNoneD d <;> rw [e] at h <;> exact h
theorem isn_both {pos : Bool} {a : Ex} (ha : SE T N k C a) : SE T N k C (.isn pos a) ∧ ST T N k C (.isn pos a) := by
  have hB : ∀ (ρ : Env) r, ev C ρ (.isn pos a) = .ok r → ∃ b, r = (false, .dat (.bool b)) := fun ρ r hr => by
    obtain ⟨x, _, hr⟩ := res_bind_ok hr
    obtain ⟨d, _, hr⟩ := opt_ok hr
    cases hr
    exact ⟨_, rfl⟩
  have key : ∀ (sc : Scope) (X : Cx) (W : WX) (e : Expr), Ok T N k C sc X W → chkE T N (.isn pos a) sc e = true → PE X e (tE T X C W (.isn pos a)) ∧ PT X e (tT T X C W (.isn pos a)) := by
    intro sc X W e ok h
    cases e with
    | Compare l ops rs pz =>
      match ops, rs, h with
      | [], _, h => exact no h
      | _ :: _ :: _, _, h => exact no h
      | [_], [], h => exact no h
      | [_], x :: y :: _, h => exact no (show false = true by cases x <;> first | exact h | (rename_i c _ _; cases c <;> exact h))
      | [op], [x], h =>
        cases x with
        | Constant c j pp =>
          cases c with
          | none =>
            have h : (decide (op = if pos then .Is else .IsNot) && chkE T N a sc l) = true := h
            simp only [Bool.and_eq_true, decide_eq_true_eq] at h
            obtain ⟨rfl, h1⟩ := h
            have pa := ha sc X W l ok h1
            cases pos with
            | true =>
              refine ⟨PE.imp (pe_cmp (pc_isN pa)) (isn_read), PT.imp (pt_cmp (pc_isN pa)) fun σ H Q q => ?_⟩
              exact isn_read (pos := true) σ H _ (tT_of hB σ H Q q)
            | false =>
              refine ⟨PE.imp (pe_cmp (pc_notN pa)) (isn_read), PT.imp (pt_cmp (pc_notN pa)) fun σ H Q q => ?_⟩
              exact isn_read (pos := false) σ H _ (tT_of hB σ H Q q)
          | _ => exact no h
        | _ => exact no h
    | _ => exact no h
  exact ⟨fun sc X W e ok h => (key sc X W e ok h).1, fun sc X W e ok h => (key sc X W e ok h).2⟩

/-! ### tests -/
theorem st_plain {e : Ex} (he : SE T N k C e) (hp : ∀ sc a, chkE T N e sc a = true → plainT a = true) : ST T N k C e := by
  intro sc X W a ok h
  refine PT.imp (pt_truth (he sc X W a ok h) (plainT_ok (hp sc a h))) fun σ H Q ⟨F, ρ, rel, hq⟩ => ?_
  unfold evT at hq
  refine tE_bind rel hq fun r1 x F1 H1 _ e1 rel1 v1 hp1 => ?_
  obtain ⟨b, q1, hp3⟩ := opt_post hp1
  exact ⟨b, tru_of rel1.sub (v1.rv rel1) q1, hp3 F1 H1 (Ext.refl rel1.sub)⟩
theorem evT_not {ρ : Env} {a : Ex} : evT C ρ (.not a) = (evT C ρ a).bind fun k => .ok (!k) := by
  unfold evT
  show Res.bind (Res.bind (ev C ρ a) _) _ = _
  cases ev C ρ a with
  | ok r =>
    show Res.bind (opt (truthy r.2) fun k => retB (!k)) _ = Res.bind (opt (truthy r.2) .ok) _
    cases truthy r.2 <;> rfl
  | exc _ _ => rfl
  | bad => rfl
theorem evT_and {ρ : Env} {a b : Ex} : evT C ρ (.and a b) = (evT C ρ a).bind fun k => match k with | true => evT C ρ b | false => .ok false := by
  unfold evT
  show Res.bind (Res.bind (ev C ρ a) _) _ = _
  cases ev C ρ a with
  | ok r =>
    show Res.bind (opt (truthy r.2) fun k => match k with | true => ev C ρ b | false => .ok r) _ = Res.bind (opt (truthy r.2) .ok) _
    cases e : truthy r.2 with
    | none => rfl
    | some z =>
      cases z with
      | true => rfl
      | false => show opt (truthy r.2) .ok = .ok false; rw [e]; rfl
  | exc _ _ => rfl
  | bad => rfl
theorem evT_or {ρ : Env} {a b : Ex} : evT C ρ (.or a b) = (evT C ρ a).bind fun k => match k with | true => .ok true | false => evT C ρ b := by
  unfold evT
  show Res.bind (Res.bind (ev C ρ a) _) _ = _
  cases ev C ρ a with
  | ok r =>
    show Res.bind (opt (truthy r.2) fun k => match k with | true => .ok r | false => ev C ρ b) _ = Res.bind (opt (truthy r.2) .ok) _
    cases e : truthy r.2 with
    | none => rfl
    | some z =>
      cases z with
      | false => rfl
      | true => show opt (truthy r.2) .ok = .ok true; rw [e]; rfl
  | exc _ _ => rfl
  | bad => rfl
theorem evT_ite {ρ : Env} {c a b : Ex} : evT C ρ (.ite c a b) = (evT C ρ c).bind fun k => match k with | true => evT C ρ a | false => evT C ρ b := by
  unfold evT
  show Res.bind (Res.bind (ev C ρ c) _) _ = _
  cases ev C ρ c with
  | ok r =>
    show Res.bind (opt (truthy r.2) fun k => match k with | true => ev C ρ a | false => ev C ρ b) _ = Res.bind (opt (truthy r.2) .ok) _
    cases e : truthy r.2 with
    | none => rfl
    | some z => cases z <;> rfl
  | exc _ _ => rfl
  | bad => rfl
theorem not_both {a : Ex} (ha : SE T N k C a) (ta : ST T N k C a) : SE T N k C (.not a) ∧ ST T N k C (.not a) := by
  refine ⟨fun sc X W e ok h => ?_, fun sc X W e ok h => ?_⟩
  · cases e with
    | UnaryOp op x p =>
      cases op with
      | Not =>
        refine PE.imp (pe_notT (ha sc X W x ok h)) fun σ H Q ⟨F, ρ, rel, hp⟩ => ?_
        refine tE_bind rel hp fun r1 x F1 H1 _ e1 rel1 v1 hp1 => ?_
        obtain ⟨b, q1, hp3⟩ := opt_post hp1
        exact ⟨b, tru_of rel1.sub (v1.rv rel1) q1, retB_post rel1.sub hp3⟩
      | _ => exact no h
    | _ => exact no h
  · cases e with
    | UnaryOp op x p =>
      cases op with
      | Not =>
        refine PT.imp (pt_not (ta sc X W x ok h)) fun σ H Q ⟨F, ρ, rel, hp⟩ => ?_
        rw [evT_not] at hp
        exact tT_bind rel hp fun b F1 H1 _ e1 rel1 hp1 => hp1 F1 H1 (Ext.refl rel1.sub)
      | _ => exact no h
    | _ => exact no h
theorem and_both {a b : Ex} (ha : SE T N k C a) (ta : ST T N k C a) (hb : SE T N k C b) (tb : ST T N k C b) : SE T N k C (.and a b) ∧ ST T N k C (.and a b) := by
  refine ⟨fun sc X W e ok h => ?_, fun sc X W e ok h => ?_⟩
  · cases e with
    | BoolOp op vs pos =>
      cases op with
      | Or => exact no h
      | And =>
        match vs, h with
        | [], h => exact no h
        | [_], h => exact no h
        | x :: y :: rest, h =>
          have h : (chkE T N a sc x && chkE T N b sc (restE .And y rest pos)) = true := h
          rw [Bool.and_eq_true] at h
          have pb : PE X (.BoolOp .And (y :: rest) pos) (tE T X C W b) := by
            cases rest with
            | nil => exact pe_one (hb sc X W y ok h.2)
            | cons z r => exact hb sc X W _ ok h.2
          refine PE.imp (pe_andT (ha sc X W x ok h.1) pb) fun σ H Q ⟨F, ρ, rel, hp⟩ => ?_
          refine tE_bind rel hp fun r1 x F1 H1 _ e1 rel1 v1 hp1 => ?_
          obtain ⟨z, q1, hp3⟩ := opt_post hp1
          refine ⟨z, tru_of rel1.sub (v1.rv rel1) q1, ?_⟩
          cases z with
          | true => exact iteT ⟨F1, ρ, rel1, hp3⟩
          | false => exact iteF (hp3 F1 H1 (Ext.refl rel1.sub) x v1)
    | _ => exact no h
  · cases e with
    | BoolOp op vs pos =>
      cases op with
      | Or => exact no h
      | And =>
        match vs, h with
        | [], h => exact no h
        | [_], h => exact no h
        | x :: y :: rest, h =>
          have h : (chkE T N a sc x && chkE T N b sc (restE .And y rest pos)) = true := h
          rw [Bool.and_eq_true] at h
          have pb : PW X (.BoolOp .And (y :: rest) pos) (tT T X C W b) := by
            cases rest with
            | nil => exact pw_and1 (tb sc X W y ok h.2)
            | cons z r => exact ⟨fun whole => by
                have q := (tb sc X W _ ok h.2).run
                exact fun pins s σ H Q I hw => q pins s σ H Q I hw⟩
          refine PT.imp (PW.pt (pw_and (ta sc X W x ok h.1) pb)) fun σ H Q ⟨F, ρ, rel, hp⟩ => ?_
          rw [evT_and] at hp
          refine tT_bind rel hp fun z F1 H1 _ e1 rel1 hp1 => ?_
          cases z with
          | true => exact iteT ⟨F1, ρ, rel1, hp1⟩
          | false => exact iteF (hp1 F1 H1 (Ext.refl rel1.sub))
    | _ => exact no h
theorem or_both {a b : Ex} (ha : SE T N k C a) (ta : ST T N k C a) (hb : SE T N k C b) (tb : ST T N k C b) : SE T N k C (.or a b) ∧ ST T N k C (.or a b) := by
  refine ⟨fun sc X W e ok h => ?_, fun sc X W e ok h => ?_⟩
  · cases e with
    | BoolOp op vs pos =>
      cases op with
      | And => exact no h
      | Or =>
        match vs, h with
        | [], h => exact no h
        | [_], h => exact no h
        | x :: y :: rest, h =>
          have h : (chkE T N a sc x && chkE T N b sc (restE .Or y rest pos)) = true := h
          rw [Bool.and_eq_true] at h
          have pb : PE X (.BoolOp .Or (y :: rest) pos) (tE T X C W b) := by
            cases rest with
            | nil => exact pe_one (hb sc X W y ok h.2)
            | cons z r => exact hb sc X W _ ok h.2
          refine PE.imp (pe_orT (ha sc X W x ok h.1) pb) fun σ H Q ⟨F, ρ, rel, hp⟩ => ?_
          refine tE_bind rel hp fun r1 x F1 H1 _ e1 rel1 v1 hp1 => ?_
          obtain ⟨z, q1, hp3⟩ := opt_post hp1
          refine ⟨z, tru_of rel1.sub (v1.rv rel1) q1, ?_⟩
          cases z with
          | false => exact iteF ⟨F1, ρ, rel1, hp3⟩
          | true => exact iteT (hp3 F1 H1 (Ext.refl rel1.sub) x v1)
    | _ => exact no h
  · cases e with
    | BoolOp op vs pos =>
      cases op with
      | And => exact no h
      | Or =>
        match vs, h with
        | [], h => exact no h
        | [_], h => exact no h
        | x :: y :: rest, h =>
          have h : (chkE T N a sc x && chkE T N b sc (restE .Or y rest pos)) = true := h
          rw [Bool.and_eq_true] at h
          have pb : PW X (.BoolOp .Or (y :: rest) pos) (tT T X C W b) := by
            cases rest with
            | nil => exact pw_or1 (tb sc X W y ok h.2)
            | cons z r => exact ⟨fun whole => by
                have q := (tb sc X W _ ok h.2).run
                exact fun pins s σ H Q I hw => q pins s σ H Q I hw⟩
          refine PT.imp (PW.pt (pw_or (ta sc X W x ok h.1) pb)) fun σ H Q ⟨F, ρ, rel, hp⟩ => ?_
          rw [evT_or] at hp
          refine tT_bind rel hp fun z F1 H1 _ e1 rel1 hp1 => ?_
          cases z with
          | true => exact iteT (hp1 F1 H1 (Ext.refl rel1.sub))
          | false => exact iteF ⟨F1, ρ, rel1, hp1⟩
    | _ => exact no h
theorem pt_ifExp {X : Cx} {c a b : Expr} {tc ta tb : TT} {pos : Pos} (hc : PT X c tc) (ha : PT X a ta) (hb : PT X b tb) : PT X (.IfExp c a b pos) (fun σ H Q => tc σ H fun z H1 => if z = true then ta σ H1 Q else tb σ H1 Q) := by
  refine ⟨fun pins s σ H Q I h => ?_⟩
  refine isTrue_IfExp (thn (hc.run pins s σ H _ I h) fun d s1 ⟨H1, I1, q1⟩ => ?_)
  cases d with
  | true => exact ha.run pins s1 σ H1 Q I1 q1
  | false => exact hb.run pins s1 σ H1 Q I1 q1
theorem ite_both {c a b : Ex} (tc : ST T N k C c) (ha : SE T N k C a) (ta : ST T N k C a) (hb : SE T N k C b) (tb : ST T N k C b) : SE T N k C (.ite c a b) ∧ ST T N k C (.ite c a b) := by
  have evI : ∀ ρ, ev C ρ (.ite c a b) = (evT C ρ c).bind fun k => match k with | true => ev C ρ a | false => ev C ρ b := fun ρ => by
    unfold evT
    show Res.bind (ev C ρ c) _ = _
    cases ev C ρ c with
    | ok r =>
      show (opt (truthy r.2) fun k => match k with | true => ev C ρ a | false => ev C ρ b) = Res.bind (opt (truthy r.2) .ok) _
      cases e : truthy r.2 with
      | none => rfl
      | some z => cases z <;> rfl
    | exc _ _ => rfl
    | bad => rfl
  refine ⟨fun sc X W e ok h => ?_, fun sc X W e ok h => ?_⟩
  · cases e with
    | IfExp t x y p =>
      have h : (chkE T N c sc t && chkE T N a sc x && chkE T N b sc y) = true := h
      simp only [Bool.and_eq_true] at h
      refine PE.imp (pe_ifExp (tc sc X W t ok h.1.1) (ha sc X W x ok h.1.2) (hb sc X W y ok h.2)) fun σ H Q ⟨F, ρ, rel, hp⟩ => ?_
      rw [evI] at hp
      refine tT_bind rel hp fun z F1 H1 _ e1 rel1 hp1 => ?_
      cases z with
      | true => exact iteT ⟨F1, ρ, rel1, hp1⟩
      | false => exact iteF ⟨F1, ρ, rel1, hp1⟩
    | _ => exact no h
  · cases e with
    | IfExp t x y p =>
      have h : (chkE T N c sc t && chkE T N a sc x && chkE T N b sc y) = true := h
      simp only [Bool.and_eq_true] at h
      refine PT.imp (pt_ifExp (tc sc X W t ok h.1.1) (ta sc X W x ok h.1.2) (tb sc X W y ok h.2)) fun σ H Q ⟨F, ρ, rel, hp⟩ => ?_
      rw [evT_ite] at hp
      refine tT_bind rel hp fun z F1 H1 _ e1 rel1 hp1 => ?_
      cases z with
      | true => exact iteT ⟨F1, ρ, rel1, hp1⟩
      | false => exact iteF ⟨F1, ρ, rel1, hp1⟩
    | _ => exact no h
end
end RL
/-! RLSound3: displays, subscripts, calls. -/
namespace RL
open PySem PySem.Spec PyProof.Rows L2

/-! ### t[::-1] -/
section
variable {prog : Program} {w : World} {A : Around} {E : Value → Shared → Prop} {s : Shared}
theorem adjust_rev (n : Nat) : Builtin.Slice.sliceAdjust none none (-1) (n : Int) = ((n : Int) - 1, -1) := rfl
theorem places_rev (n : Nat) : Builtin.Slice.slicePlaces ((n : Int) - 1) (-1) (-1) = n := by
  unfold Builtin.Slice.slicePlaces
  rw [if_neg (by decide)]
  by_cases h : ((n : Int) - 1) > -1
  · rw [if_pos h]
    have e : -(-1 : Int) = 1 := by decide
    rw [e, Int.ediv_one]
    omega
  · rw [if_neg h]; omega
theorem sliceApplied_rev {sl : Addr} {t : Tok} {n : Nat} {Q : Int × Int × Nat → Shared → Prop} (hs : s.heap.IsSliceOf sl .none .none (.int (-1) t))
    (h : Q ((n : Int) - 1, -1, n) s) : wpAny (model prog w) A (Builtin.Slice.sliceApplied (.ref sl) (pure (n : Int))) Q E s := by
  obtain ⟨os, hos, hcs, hds⟩ := id hs
  unfold Builtin.Slice.sliceApplied Builtin.Slice.sliceFields
  refine wpAny_bind (wpAny_bind (wpAny_field hos hds (x := .none) rfl (wpAny_bind (wpAny_field hos hds (x := .none) rfl (wpAny_bind (wpAny_field hos hds (x := .int (-1) t) rfl (wpAny_pure ?_)))))))
  refine wpAny_bind (HT.slicePart_ (.int (-1) t) ?_)
  show wpAny _ _ (if ((-1 : Int) == 0) = true then _ else _) _ _ s
  rw [if_neg (by decide)]
  refine wpAny_bind (HT.slicePart_ .none (wpAny_bind (HT.slicePart_ .none (wpAny_bind (wpAny_pure ?_)))))
  show wpAny _ _ (match Builtin.Slice.sliceAdjust none none (-1) (n : Int) with | (lo, hi) => pure (lo, (-1 : Int), Builtin.Slice.slicePlaces lo hi (-1))) _ _ s
  rw [adjust_rev n]
  show wpAny _ _ (pure (((n : Int) - 1), (-1 : Int), Builtin.Slice.slicePlaces ((n : Int) - 1) (-1) (-1))) _ _ s
  rw [places_rev]
  exact wpAny_pure h
theorem pick_rev (xs : List Value) : ((List.range xs.length).filterMap fun (m : Nat) => xs.toArray[(((xs.length : Int) - 1) + (m : Int) * (-1)).toNat]?).toArray = xs.reverse.toArray := by
  congr 1
  apply List.ext_getElem?
  intro i
  have e : ((List.range xs.length).filterMap fun (m : Nat) => xs.toArray[(((xs.length : Int) - 1) + (m : Int) * (-1)).toNat]?) = (List.range xs.length).map fun m => xs.getD (xs.length - 1 - m) .none := by
    have key : ∀ l : List Nat, (∀ m ∈ l, m < xs.length) → (l.filterMap fun (m : Nat) => xs.toArray[(((xs.length : Int) - 1) + (m : Int) * (-1)).toNat]?) = l.map fun m => xs.getD (xs.length - 1 - m) .none := by
      intro l
      induction l with
      | nil => intro _; rfl
      | cons m l ih =>
        intro h
        have hm : m < xs.length := h m List.mem_cons_self
        have q : (((xs.length : Int) - 1) + (m : Int) * (-1)).toNat = xs.length - 1 - m := by omega
        have hl : xs.length - 1 - m < xs.length := by omega
        have e1 : xs.toArray[(((xs.length : Int) - 1) + (m : Int) * (-1)).toNat]? = some (xs.getD (xs.length - 1 - m) .none) := by
          rw [q]; simp [hl]
        rw [List.filterMap_cons, List.map_cons, ← ih fun m' hm' => h m' (List.mem_cons_of_mem _ hm')]
        simp only [e1]
    exact key _ fun m hm => List.mem_range.mp hm
  rw [e]
  by_cases hi : i < xs.length
  · have hl : xs.length - 1 - i < xs.length := by omega
    simp [hi, hl]
  · simp [Nat.le_of_not_lt hi]
theorem getItem_tuple_rev {p sl : Addr} {items : List Value} {t : Tok} {Q : Value → Shared → Prop} (ht : IsTup s.heap p items.toArray) (hs : s.heap.IsSliceOf sl .none .none (.int (-1) t))
    (h : Q (.ref s.heap.objs.size) { s with heap := s.heap.push { cls := .type "tuple", data := .seq items.reverse.toArray } }) (hsz : items.length ≤ sizeLine) :
    wpAny (model prog w) A (getItem (.ref p) (.ref sl)) Q E s := by
  have htake : sizeOk (.seq items.reverse.toArray) := by
    show items.reverse.toArray.size ≤ sizeLine
    simpa using hsz
  obtain ⟨os, hos, hcs, hds⟩ := id hs
  have hTs : s.TypeIs (.ref sl) "slice" := ⟨os, hos, hcs⟩
  unfold getItem
  try with_reducible refine wpAny_holding ?_
  first | refine wpAny_bind (wpAny_pure ?_) | skip
  refine wpAny_bind (wpAny_sequenceKey ht.typeIs (by decide) ?_)
  refine wpAny_bind (wpAny_callSpecial?_slot (name := Str.ofString "__getitem__") ht.typeIs PyProof.Rows.slot_tuple_getitem
    (wpAny_call_entry PyProof.Rows.slot_tuple_getitem ht.typeIs entry_tuple_getitem ?_ (args_tuple_getitem _ _)))
  show wpAny _ _ (Builtin.Tuple.tupleItemsOf (.ref p) >>= _) _ _ s
  refine wpAny_bind (tupleItemsOf_ ht ?_)
  refine wpAny_bind (wpAny_typeOf hTs ?_)
  rw [if_pos (by decide)]
  refine wpAny_bind (sliceApplied_rev hs ?_)
  have hno : ¬ (((((items.toArray.size : Nat) : Int) - 1) == 0 && (-1 : Int) == 1 && (items.toArray.size == items.toArray.size)) = true) := by
    intro q
    rw [Bool.and_eq_true, Bool.and_eq_true] at q
    exact absurd q.1.2 (by decide)
  show wpAny _ _ (if ((((items.toArray.size : Nat) : Int) - 1) == 0 && (-1 : Int) == 1 && (items.toArray.size == items.toArray.size)) = true then _ else _) _ _ s
  rw [if_neg hno]
  rw [List.size_toArray, pick_rev]
  first
    | exact wpAny_bind (m := Builtin.Tuple.tupleExact _) (wpAny_newObj_type (wpAny_pure ⟨_, rfl, wpAny_pure h⟩) htake)
    | exact wpAny_bind (m := Builtin.Tuple.tupleExact _) (wpAny_newObj_type (wpAny_bind (wpAny_pure (wpAny_pure ⟨_, rfl, wpAny_pure h⟩))) htake)
    | exact wpAny_bind (wpAny_bind (m := Builtin.Tuple.tupleExact _) (wpAny_newObj_type (wpAny_pure (wpAny_pure ⟨_, rfl, wpAny_pure h⟩)) htake))
    | exact wpAny_bind (wpAny_bind (m := Builtin.Tuple.tupleExact _) (wpAny_newObj_type (wpAny_pure ⟨_, rfl, wpAny_pure h⟩) htake))
end
theorem Vals.reverse : ∀ {xs : List V} {us : List Value}, Vals xs us → Vals xs.reverse us.reverse
  | _, _, .nil => .nil
  | _, _, .cons r t => by rw [List.reverse_cons, List.reverse_cons]; exact (Vals.reverse t).append (.cons r .nil)
/-- e[::-1], a list or a tuple -/
theorem pe_revG {X : Cx} {e : Expr} {te : TE} {k : Nat} {p1 p2 p3 pos : Pos} (he : PE X e te) : PE X (.Subscript e (.Slice none none (some (.UnaryOp .USub (.Constant (.int 1) k p1) p2)) p3) pos)
    (fun σ H Q => te σ H fun x H1 => ∃ a xs, x = .ref a ∧ ((SqL X.K H1 a xs ∧ ∀ p, H1 p = none → Q (.ref p) (upd H1 p (.lst xs.reverse))) ∨ (SqT X.K H1 a xs ∧ NewT H1 xs.reverse Q))) := by
  refine ⟨fun pins s σ H Q I h => ?_⟩
  refine Subscript_ (thn (he.run pins s σ H _ I h) fun v s1 ⟨x, H1, I1, r1, q1⟩ => ?_)
  obtain ⟨a, xs, ex, q⟩ := q1
  subst ex
  cases r1
  have hst : PO X (some (.UnaryOp .USub (.Constant (.int 1) k p1) p2)) (tPart (tUn (rU fun i => .int (-i)) (tC (.int 1)))) := po_some (pe_un un_neg pe_int)
  refine wpAny_Slice (thn (po_none.run pins s1 σ H1 (fun o H2 => o = none ∧ H2 = H1) I1 ⟨rfl, rfl⟩) fun vl s2 ⟨l, H2, I2, pl, el, e2⟩ => ?_)
  subst el e2
  refine thn (po_none.run pins s2 σ H2 (fun o H3 => o = none ∧ H3 = H2) I2 ⟨rfl, rfl⟩) fun vu s3 ⟨u, H3, I3, pu, eu, e3⟩ => ?_
  subst eu e3
  refine thn (hst.run pins s3 σ H3 (fun o H4 => o = some (-1) ∧ H4 = H3) I3 ⟨1, rfl, -1, rfl, rfl, rfl⟩) fun vs s4 ⟨o, H4, I4, ps, eo, e4⟩ => ?_
  subst eo e4
  have I5 : Inv X pins σ H4 { s4 with heap := s4.heap.push { cls := .type "slice", data := .fields #[vl, vu, vs] } } := I4.kept (t' := s4.toks) fun b ob q => Heap.get?_push_of_some _ q
  show wpAny (model X.prog X.w) X.A (subscriptTail e (.Slice none none (some (.UnaryOp .USub (.Constant (.int 1) k p1) p2)) p3) (.ref a) (.ref s4.heap.objs.size)) (EP X pins σ Q) X.xe { s4 with heap := s4.heap.push { cls := .type "slice", data := .fields #[vl, vu, vs] } }
  rcases q with ⟨hx, q⟩ | ⟨hx, q⟩
  · obtain ⟨its, r, ht, hz⟩ := I5.list hx
    have hlen := r.length
    refine tail_any (ops := [.ref a, .ref s4.heap.objs.size]) ht.isList.typeIs (PySem.slot_list_getitem.lookup) ?_ (by with_unfolding_all rfl)
    refine wpAny_getItem_list_slice ht.isList (Heap.IsSliceOf.new _ vl vu vs) pl pu ps (by decide) ?_ (by rw [List.size_toArray]; omega)
    rw [PySem.W.krv_pick]
    refine ⟨.ref _, _, I5.laid (t' := s4.toks) (o := .lst xs.reverse) (fun b ob q => Heap.get?_push_of_some _ q) (Nat.le_refl _) ?_, rfl, q _ (I5.hok.fresh (Nat.le_refl _))⟩
    exact ⟨by rw [List.length_reverse]; exact hz, its.reverse, 0, Vals.reverse r, Heap.get?_push_size _ rfl⟩
  · obtain ⟨its, r, ht, hz⟩ := I5.tuple hx
    have hlen := r.length
    cases pl
    cases pu
    cases ps with
    | int i t =>
      refine tail_any (ops := [.ref a, .ref s4.heap.objs.size]) ht.typeIs (PyProof.Rows.slot_tuple_getitem.lookup) ?_ (by with_unfolding_all rfl)
      exact getItem_tuple_rev ht (Heap.IsSliceOf.new _ _ _ _) (newT I5 (Vals.reverse r) (by rw [List.length_reverse]; exact hz) q) (by omega)

section
variable {T : Tab} {N : List Str} {k : Nat} {C : Cfg}
theorem se_rev {a : Ex} (ha : SE T N k C a) : SE T N k C (.rev a) := by
  intro sc X W e ok h
  cases e with
  | Subscript x sl p =>
    cases sl with
    | Slice lo hi st ps =>
      cases lo with
      | some _ => exact no h
      | none =>
        cases hi with
        | some _ => exact no h
        | none =>
          cases st with
          | none => exact no h
          | some q =>
            cases q with
            | UnaryOp op c pp =>
              cases op with
              | USub =>
                cases c with
                | Constant cc j pc =>
                  cases cc with
                  | int i =>
                    by_cases hi : i = 1
                    · subst hi
                      refine PE.imp (pe_revG (ha sc X W x ok h)) fun σ H Q ⟨F, ρ, rel, hp⟩ => ?_
                      refine tE_bind rel hp fun r1 x F1 H1 _ e1 rel1 v1 hp1 => ?_
                      obtain ⟨d, q1, hp3⟩ := opt_post hp1
                      obtain ⟨z, q3, hp5⟩ := opt_post hp3
                      have w := ret_post hp5
                      have rd := v1.rd rel1 q1
                      cases d with
                      | list xs =>
                        cases ok_inj q3
                        obtain ⟨p, vs, rfl, t1, r1⟩ := rd.list rel1.sub
                        exact ⟨p, vs, rfl, .inl ⟨.inl t1, fun b nb => w _ _ _ (Ext.laid rel1.sub nb) (lay_list rel1.sub nb r1.reverse)⟩⟩
                      | tuple xs =>
                        cases ok_inj q3
                        obtain ⟨p, vs, rfl, t1, _, r1⟩ := rd.tup rel1.sub
                        exact ⟨p, vs, rfl, .inr ⟨t1, fun b o nb ho => w _ _ _ (Ext.laid rel1.sub nb) (lay_tup rel1.sub nb ho r1.reverse)⟩⟩
                      | _ => cases q3
                    · exact no (show false = true by
                        have : chkE T N (.rev a) sc (.Subscript x (.Slice none none (some (.UnaryOp .USub (.Constant (.int i) j pc) pp)) ps) p) = false := by
                          unfold chkE
                          split <;> first | rfl | (simp_all; done)
                        rw [this] at h; exact h)
                  | _ => exact no h
                | _ => exact no h
              | _ => exact no h
            | _ => exact no h
    | _ => exact no h
  | _ => exact no h

/-! ### arguments -/
theorem ses_nil : SEs T N k C [] := by
  intro sc X W as ok h
  cases as with
  | nil => exact PA.imp pa_nil fun σ H Q ⟨F, ρ, rel, hp⟩ => (show Post T X W σ F H _ (.ok []) from hp) F H (Ext.refl rel.sub) [] .nil
  | cons _ _ => exact no h
theorem ses_cons {e : Ex} {es : List Ex} (he : SE T N k C e) (hs : SEs T N k C es) : SEs T N k C (e :: es) := by
  intro sc X W as ok h
  cases as with
  | nil => exact no h
  | cons x xs =>
    have h : (!isStar x && chkE T N e sc x && chkEs T N es sc xs) = true := h
    simp only [Bool.and_eq_true, Bool.not_eq_true'] at h
    refine PA.imp (pa_cons (he sc X W x ok h.1.2) (hs sc X W xs ok h.2) (star_cons h.1.1)) fun σ H Q ⟨F, ρ, rel, hp⟩ => ?_
    refine tE_bind rel hp fun r1 x F1 H1 _ e1 rel1 v1 hp1 => ?_
    obtain ⟨d, q1, hp2⟩ := opt_post hp1
    refine tEs_bind rel1 hp2 fun ds vs F2 H2 _ e2 rel2 v2 hp3 => ?_
    exact hp3 F2 H2 (Ext.refl rel2.sub) _ (.cons (Dq.mono e2.ff _ _ (v1.dp q1)) v2)

/-! ### displays -/
theorem se_tup {es : List Ex} (hs : SEs T N k C es) : SE T N k C (.tup es) := by
  intro sc X W e ok h
  cases e with
  | Tuple xs kk p =>
    refine PE.imp (pe_tupG (hs sc X W xs ok h)) fun σ H Q ⟨F, ρ, rel, hp⟩ => ?_
    refine tEs_bind rel hp fun ds vs F1 H1 _ e1 rel1 v1 hp1 => ?_
    obtain ⟨z, q3, hp5⟩ := opt_post hp1
    obtain ⟨g, q3⟩ := grd_ok q3
    cases ok_inj q3
    exact ⟨by rw [v1.length]; exact szOk_le g, fun b o nb ho => ret_post hp5 _ _ _ (Ext.laid rel1.sub nb) (lay_tup rel1.sub nb ho v1)⟩
  | _ => exact no h

/-- a new thing that only the reader holds -/
def tN (T : Tab) (X : Cx) (C : Cfg) (W : WX) (e : Ex) : TE := fun σ H Q => ∃ F ρ, Rel X.K F σ H ρ ∧ (match ev C ρ e with
  | .ok r => ∃ v, r = (false, v) ∧ ∀ p o F' H', Ext F H F' H' → H p = none → F' p = none → H' p = some o → Cnt X.K F' o v → Q (.ref p) H'
  | .exc c p => ∀ F' H' cls d, Ext F H F' H' → Xr T X.K X.mg c p cls d H' → W cls d σ H'
  | .bad => False)
def SN (T : Tab) (N : List Str) (k : Nat) (C : Cfg) (e : Ex) : Prop := ∀ (sc : Scope) (X : Cx) (W : WX) (a : Expr), Ok T N k C sc X W → chkE T N e sc a = true → PE X a (tN T X C W e)
/-- freezing what is new -/
theorem se_of_sn {e : Ex} (h : SN T N k C e) (hv : ∀ (ρ : Env) r, ev C ρ e = .ok r → r.1 = false) : SE T N k C e := by
  intro sc X W a ok hc
  refine PE.imp (h sc X W a ok hc) fun σ H Q ⟨F, ρ, rel, hp⟩ => ⟨F, ρ, rel, ?_⟩
  cases e1 : ev C ρ e with
  | ok r =>
    rw [e1] at hp
    obtain ⟨b, v⟩ := r
    have : b = false := hv ρ _ e1
    subst this
    refine ⟨v, rfl, fun p o F' H' ex hn fn hs c => ?_⟩
    have ex2 : Ext F H (upd F' p o) H' := ⟨ex.ff.trans (same_upd fn), ex.hh, fun b u q => by
      by_cases hb : b = p
      · subst hb; rw [upd_same] at q; rw [← q]; exact hs
      · rw [upd_ne hb] at q; exact ex.sub b u q, fun b u q => by
      by_cases hb : b = p
      · subst hb; exact .inr hn
      · rw [upd_ne hb] at q; exact ex.new b u q⟩
    exact hp _ _ ex2 (.ref p) (c.frep fn)
  | exc c p => rw [e1] at hp; exact hp
  | bad => rw [e1] at hp; exact hp
theorem sn_lst {es : List Ex} (hs : SEs T N k C es) : SN T N k C (.lst es) := by
  intro sc X W e ok h
  cases e with
  | List xs p =>
    refine PE.imp (pe_lst (hs sc X W xs ok h)) fun σ H Q ⟨F, ρ, rel, hp⟩ => ⟨F, ρ, rel, ?_⟩
    have hp : (match (evs C ρ es).bind fun xs => opt (grdO (szOk xs.length) (some (PyData.list xs))) ret with
      | .ok r => ∃ v, r = (false, v) ∧ ∀ p o F' H', Ext F H F' H' → H p = none → F' p = none → H' p = some o → Cnt X.K F' o v → Q (.ref p) H'
      | .exc c p => ∀ F' H' cls d, Ext F H F' H' → Xr T X.K X.mg c p cls d H' → W cls d σ H'
      | .bad => False) := hp
    cases e1 : evs C ρ es with
    | ok ds =>
      rw [e1] at hp
      intro F1 H1 ex vs hv
      cases g : szOk ds.length with
      | false => simp [Res.bind, g, grdO, opt] at hp
      | true =>
        simp only [Res.bind, g, grdO, opt, ret] at hp
        obtain ⟨v, ev, hp⟩ := hp
        cases ev
        refine ⟨by rw [hv.length]; exact szOk_le g, fun q nq => hp q (.lst vs) F1 _ (ex.trans (Ext.free ex.sub nq)) (ex.hh.free nq) (ex.sub.free nq) upd_same hv⟩
    | exc c p => rw [e1] at hp; exact hp
    | bad => rw [e1] at hp; exact hp
  | _ => exact no h

/-! ### subscripts -/
theorem se_idx {a i : Ex} (ha : SE T N k C a) (hi : SE T N k C i) : SE T N k C (.idx a i) := by
  intro sc X W e ok h
  cases e with
  | Subscript x y p =>
    have h : (!isSlice y && chkE T N a sc x && chkE T N i sc y) = true := h
    simp only [Bool.and_eq_true, Bool.not_eq_true'] at h
    refine PE.imp (pe_ix (ix_ok (by have := ok.hu; omega)) (ha sc X W x ok h.1.2) (hi sc X W y ok h.2) (plain_ix h.1.1)) fun σ H Q ⟨F, ρ, rel, hp⟩ => ?_
    refine tE_bind rel hp fun r1 x F1 H1 _ e1 rel1 v1 hp1 => ?_
    refine tE_bind rel1 hp1 fun r2 y F2 H2 _ e2 rel2 v2 hp2 => ?_
    obtain ⟨d, q1, hp3⟩ := opt_post hp2
    obtain ⟨z, q3, hp5⟩ := opt_post hp3
    exact ⟨F2, r1.2, d, z, rel2.sub, (VR.mono e2 v1).rv rel2, v2.rd rel2 q1, q3, fun w hw => ret_post hp5 w F2 H2 (Ext.refl rel2.sub) hw⟩
  | _ => exact no h
theorem intD_some {d : D} {i : Int} (h : intD d = some i) : d = .int i := by
  cases d with
  | int j => cases ok_inj h; rfl
  | _ => cases h
theorem se_slf {a lo : Ex} (ha : SE T N k C a) (hl : SE T N k C lo) : SE T N k C (.slf a lo) := by
  intro sc X W e ok h
  cases e with
  | Subscript x y p =>
    cases y with
    | Slice lo' hi st ps =>
      match lo', hi, st, h with
      | some l, none, none, h =>
        have h : (chkE T N a sc x && chkE T N lo sc l) = true := h
        rw [Bool.and_eq_true] at h
        refine PE.imp (pe_slice sl_ok (ha sc X W x ok h.1) (po_some (hl sc X W l ok h.2)) po_none) fun σ H Q ⟨F, ρ, rel, hp⟩ => ?_
        refine tE_bind rel hp fun r1 x F1 H1 _ e1 rel1 v1 hp1 => ?_
        refine tE_bind rel1 hp1 fun r2 y F2 H2 _ e2 rel2 v2 hp2 => ?_
        obtain ⟨d, q1, hp3⟩ := opt_post hp2
        obtain ⟨d2, q2, hp4⟩ := opt_post hp3
        obtain ⟨i, q3, hp5⟩ := opt_post hp4
        obtain ⟨z, q4, hp6⟩ := opt_post hp5
        have := intD_some q3
        subst this
        exact ⟨i, (v2.rd rel2 q2).int, F2, d, z, rel2.sub, (VR.mono e2 v1).rd rel2 q1, q4, ret_post hp6⟩
      | none, _, _, h => exact no h
      | some _, some _, _, h => exact no h
      | some _, none, some _, h => exact no h
    | _ => exact no h
  | _ => exact no h
theorem se_slt {a hi : Ex} (ha : SE T N k C a) (hh : SE T N k C hi) : SE T N k C (.slt a hi) := by
  intro sc X W e ok h
  cases e with
  | Subscript x y p =>
    cases y with
    | Slice lo' hi' st ps =>
      match lo', hi', st, h with
      | none, some l, none, h =>
        have h : (chkE T N a sc x && chkE T N hi sc l) = true := h
        rw [Bool.and_eq_true] at h
        refine PE.imp (pe_slice sl_ok (ha sc X W x ok h.1) po_none (po_some (hh sc X W l ok h.2))) fun σ H Q ⟨F, ρ, rel, hp⟩ => ?_
        refine tE_bind rel hp fun r1 x F1 H1 _ e1 rel1 v1 hp1 => ?_
        refine tE_bind rel1 hp1 fun r2 y F2 H2 _ e2 rel2 v2 hp2 => ?_
        obtain ⟨d, q1, hp3⟩ := opt_post hp2
        obtain ⟨d2, q2, hp4⟩ := opt_post hp3
        obtain ⟨i, q3, hp5⟩ := opt_post hp4
        obtain ⟨z, q4, hp6⟩ := opt_post hp5
        have := intD_some q3
        subst this
        exact ⟨i, (v2.rd rel2 q2).int, F2, d, z, rel2.sub, (VR.mono e2 v1).rd rel2 q1, q4, ret_post hp6⟩
      | some _, _, _, h => exact no h
      | none, none, _, h => exact no h
      | none, some _, some _, h => exact no h
    | _ => exact no h
  | _ => exact no h
theorem se_slb {a lo hi : Ex} (ha : SE T N k C a) (hl : SE T N k C lo) (hh : SE T N k C hi) : SE T N k C (.slb a lo hi) := by
  intro sc X W e ok h
  cases e with
  | Subscript x y p =>
    cases y with
    | Slice lo' hi' st ps =>
      match lo', hi', st, h with
      | some l, some u, none, h =>
        have h : (chkE T N a sc x && chkE T N lo sc l && chkE T N hi sc u) = true := h
        simp only [Bool.and_eq_true] at h
        refine PE.imp (pe_slice sl_ok (ha sc X W x ok h.1.1) (po_some (hl sc X W l ok h.1.2)) (po_some (hh sc X W u ok h.2))) fun σ H Q ⟨F, ρ, rel, hp⟩ => ?_
        refine tE_bind rel hp fun r1 x F1 H1 _ e1 rel1 v1 hp1 => ?_
        refine tE_bind rel1 hp1 fun r2 y F2 H2 _ e2 rel2 v2 hp2 => ?_
        obtain ⟨d2, q2, hp3⟩ := opt_post hp2
        obtain ⟨i, q3, hp4⟩ := opt_post hp3
        refine ⟨i, by have := intD_some q3; subst this; exact (v2.rd rel2 q2).int, ?_⟩
        refine tE_bind rel2 hp4 fun r3 z F3 H3 _ e3 rel3 v3 hp5 => ?_
        obtain ⟨d3, q4, hp6⟩ := opt_post hp5
        obtain ⟨j, q5, hp7⟩ := opt_post hp6
        obtain ⟨d, q1, hp8⟩ := opt_post hp7
        obtain ⟨z, q6, hp9⟩ := opt_post hp8
        have := intD_some q5
        subst this
        exact ⟨j, (v3.rd rel3 q4).int, F3, d, z, rel3.sub, (VR.mono e3 (VR.mono e2 v1)).rd rel3 q1, q6, ret_post hp9⟩
      | none, _, _, h => exact no h
      | some _, none, _, h => exact no h
      | some _, some _, some _, h => exact no h
    | _ => exact no h
  | _ => exact no h
end
end RL
/-! RLSound4: calls, comprehensions, and all of the expressions. -/
namespace RL
open PySem PySem.Spec PyProof.Rows L2
section
variable {T : Tab} {N : List Str} {k : Nat} {C : Cfg}

/-! ### calls of defs -/
theorem pe_callS0 {X : Cx} {CX : CXT} {k : Nat} {f : Addr} {fd : FuncData} {ps : List Str} {sp : Sp} {E : L2.St → XK} {x : Str} {p pos : Pos} (F : FnOk X.prog X.w X.K X.mg X.base CX k f fd ps sp) (hr : Room k X.A) (hg : Gl X x) (hm : X.mg x = some (.ref f))
    (hk : PySem.W.keepIn X.K (.ref f) = true) (hb : Binds X.K fd ps []) (hx : ∀ σ, PassesAt CX X σ (E σ)) (hdb : (x == ("__debug__" : Str)) = false) : PE X (.Call (.Name x p) [] [] pos) (fun σ H Q => sp [] H Q (E σ)) := by
  refine ⟨fun pins s σ H Q I h => ?_⟩
  refine wpAny_Call_Name_kw (ld_glob I hg hm ?_ hdb)
  exact PySem.W.callWith_K0 I.kIn hk (run_fnS (us := []) F hr hb (hx σ) I .nil h)
theorem ck_post {X : Cx} {W : WX} {σ : L2.St} {ρ : Env} {Q : VK} {F H : Hp} {r : Res Vl} (h : Post T X W σ F H (RV1 X σ ρ Q) (r.bind fun v => .ok (false, v))) : CkP T X.K X.mg F H Q (WE W σ) r := by
  cases r with
  | ok v => exact fun x F' H' e hv => h F' H' e x hv
  | exc c p => exact fun F' H' cls d e hx => h F' H' cls d e hx
  | bad => exact h
theorem se_call {f : Nat} {es : List Ex} (hs : SEs T N k C es) : SE T N k C (.call f es) := by
  intro sc X W e ok h
  cases e with
  | Call fn args kws pos =>
    cases fn with
    | Name x p =>
      cases kws with
      | cons _ _ => exact no h
      | nil =>
        have h : (decide (T.fns[f]? = some (some x)) && glB sc x && nmB x && chkEs T N es sc args) = true := h
        simp only [Bool.and_eq_true, decide_eq_true_eq] at h
        obtain ⟨⟨⟨h1, h2⟩, h3⟩, h4⟩ := h
        obtain ⟨n1, n2, _⟩ := nmB_ok h3
        obtain ⟨a, fd, ps, m1, m2, m3, m4, m5⟩ := ok.wd.fns f x h1
        have pa := hs sc X W args ok h4
        cases args with
        | nil =>
          cases es with
          | cons _ _ => exact no h4
          | nil =>
            refine PE.imp (pe_callS0 (E := WE W) m4 ok.room (glB_ok ok.sc h2) m1 m2 m3 (fun σ => passAt ok.tk σ) n1) fun σ H Q ⟨F, ρ, rel, hp⟩ => ?_
            have hp : Post T X W σ F H (RV1 X σ ρ Q) ((C.ck f []).bind fun v => .ok (false, v)) := hp
            refine ⟨F, [], rel.sub, .nil, m5 [] fun z => ?_, ck_post hp⟩
            rw [z] at hp; exact hp
        | cons x' xs' =>
          have st := chkEs_star (pos := pos) (env := X.env) h4
          cases es with
          | nil => exact no h4
          | cons e' es' =>
            have h5 : (!isStar x' && chkE T N e' sc x' && chkEs T N es' sc xs') = true := h4
            simp only [Bool.and_eq_true, Bool.not_eq_true'] at h5
            refine PE.imp (pe_callS (E := WE W) m4 ok.room (glB_ok ok.sc h2) m1 m2 m3 (fun σ => passAt ok.tk σ) pa n1 (star_cons h5.1.1) (chkEs_star (pos := pos) (env := X.env) h5.2)) fun σ H Q ⟨F, ρ, rel, hp⟩ => ?_
            refine tEs_bind rel hp fun ds vs F1 H1 _ e1 rel1 v1 hp1 => ?_
            refine ⟨F1, ds, rel1.sub, v1, m5 ds fun z => ?_, ck_post hp1⟩
            rw [z] at hp1; exact hp1
    | _ => exact no h
  | _ => exact no h

/-! ### built-in functions of one value -/
theorem sn_list {a : Ex} (ha : SE T N k C a) : SN T N k C (.fn1 .list a) := by
  intro sc X W e ok h
  cases e with
  | Call fn args kws pos =>
    cases fn with
    | Name x p =>
      match args, kws, h with
      | [q], [], h =>
        have h : (f1Ok .list && decide (x = f1Str .list) && glB sc x && !isStar q && chkE T N a sc q) = true := h
        simp only [Bool.and_eq_true, decide_eq_true_eq, Bool.not_eq_true'] at h
        obtain ⟨⟨⟨⟨_, rfl⟩, h2⟩, h3⟩, h4⟩ := h
        refine PE.imp (pe_callTy call_listG (glB_ok ok.sc h2) (ok.wd.blt _ (by simp [bltNames, f1Str])) (by decide +kernel) (pa_cons (ha sc X W q ok h4) pa_nil (star_cons h3)) (by decide) (by decide) (star_cons h3)) fun σ H Q ⟨F, ρ, rel, hp⟩ => ⟨F, ρ, rel, ?_⟩
        cases e1 : ev C ρ a with
        | ok r =>
          have e2 : ev C ρ (.fn1 .list a) = opt (fn1D .list r.2) ret := by
            show (ev C ρ a).bind _ = _; rw [e1]; rfl
          rw [e2] at hp
          intro F1 H1 ex x hv
          have rel1 := rel.ext ex
          have rv := hv.rv rel1
          cases q : r.2 with
          | dat d =>
            rw [q] at hp rv
            cases d with
            | list xs =>
              obtain ⟨v, ev, hp⟩ := hp
              cases ev
              exact ⟨x, F1, _, xs, rfl, rel1.sub, rv, rfl, fun b vs nb hvs => hp b (.lst vs) F1 _ (ex.trans (Ext.free rel1.sub nb)) (ex.hh.free nb) (rel1.sub.free nb) upd_same hvs⟩
            | tuple xs =>
              obtain ⟨v, ev, hp⟩ := hp
              cases ev
              exact ⟨x, F1, _, xs, rfl, rel1.sub, rv, rfl, fun b vs nb hvs => hp b (.lst vs) F1 _ (ex.trans (Ext.free rel1.sub nb)) (ex.hh.free nb) (rel1.sub.free nb) upd_same hvs⟩
            | _ => exact hp.elim
          | _ => rw [q] at hp; exact hp.elim
        | exc c p =>
          have e2 : ev C ρ (.fn1 .list a) = .exc c p := by
            show (ev C ρ a).bind _ = _; rw [e1]; rfl
          rw [e2] at hp; exact hp
        | bad =>
          have e2 : ev C ρ (.fn1 .list a) = .bad := by
            show (ev C ρ a).bind _ = _; rw [e1]; rfl
          rw [e2] at hp; exact hp
      | [], _, h => exact no h
      | [_], _ :: _, h => exact no h
      | _ :: _ :: _, _, h => exact no h
    | _ => exact no h
  | _ => exact no h
/-- a function of one value, by its rule -/
theorem f1_read {X : Cx} {W : WX} {f : F1} {a : Ex} : ∀ σ H Q, tE T X C W (.fn1 f a) σ H Q → tCB (rF1 X.K f) (tCons (tE T X C W a) tNil) σ H Q := fun σ H Q ⟨F, ρ, rel, hp⟩ => by
  refine tE_bind rel hp fun r1 x F1 H1 _ e1 rel1 v1 hp1 => ?_
  obtain ⟨z, q3, hp5⟩ := opt_post hp1
  exact ⟨x, F1, r1.2, z, rfl, rel1.sub, v1.rv rel1, q3, ret_post hp5⟩
theorem se_fn1 {f : F1} {a : Ex} (ha : SE T N k C a) : SE T N k C (.fn1 f a) := by
  by_cases hf : f = .list
  · subst hf
    exact se_of_sn (sn_list ha) fun ρ r hr => by
      obtain ⟨x, _, hr⟩ := res_bind_ok hr
      obtain ⟨y, _, hr⟩ := opt_ok hr
      cases hr; rfl
  intro sc X W e ok h
  cases e with
  | Call fn args kws pos =>
    cases fn with
    | Name x p =>
      match args, kws, h with
      | [q], [], h =>
        have h : (f1Ok f && decide (x = f1Str f) && glB sc x && !isStar q && chkE T N a sc q) = true := h
        simp only [Bool.and_eq_true, decide_eq_true_eq, Bool.not_eq_true'] at h
        obtain ⟨⟨⟨⟨h1, rfl⟩, h2⟩, h3⟩, h4⟩ := h
        have pa := pa_cons (ha sc X W q ok h4) pa_nil (star_cons h3)
        cases f with
        | len => exact PE.imp (pe_callB call_lenG (glB_ok ok.sc h2) (ok.wd.blt _ (by simp [bltNames, f1Str])) (by decide +kernel) pa (by decide) (by decide) (star_cons h3)) f1_read
        | tuple => exact PE.imp (pe_callTy call_tupG (glB_ok ok.sc h2) (ok.wd.blt _ (by simp [bltNames, f1Str])) (by decide +kernel) pa (by decide) (by decide) (star_cons h3)) f1_read
        | int => exact PE.imp (pe_callTy call_intG (glB_ok ok.sc h2) (ok.wd.blt _ (by simp [bltNames, f1Str])) (by decide +kernel) pa (by decide) (by decide) (star_cons h3)) f1_read
        | list => exact absurd rfl hf
        | _ => exact no h1
      | [], _, h => exact no h
      | [_], _ :: _, h => exact no h
      | _ :: _ :: _, _, h => exact no h
    | _ => exact no h
  | _ => exact no h
theorem se_fn2 {f : F2} {a b : Ex} (ha : SE T N k C a) (hb : SE T N k C b) : SE T N k C (.fn2 f a b) := by
  intro sc X W e ok h
  cases e with
  | Call fn args kws pos =>
    cases fn with
    | Name x p =>
      match args, kws, h with
      | [q, r], [], h =>
        have h : (decide (x = f2Str f) && glB sc x && !isStar q && !isStar r && chkE T N a sc q && chkE T N b sc r) = true := h
        simp only [Bool.and_eq_true, decide_eq_true_eq, Bool.not_eq_true'] at h
        obtain ⟨⟨⟨⟨⟨h1, h2⟩, h3⟩, h3'⟩, h4⟩, h5⟩ := h
        have pa := pa_cons (ha sc X W q ok h4) (pa_cons (hb sc X W r ok h5) pa_nil (star_cons h3')) (star_cons h3)
        have rd : ∀ σ H Q, tE T X C W (.fn2 f a b) σ H Q → tCB (rF2 X.K f) (tCons (tE T X C W a) (tCons (tE T X C W b) tNil)) σ H Q := fun σ H Q ⟨F, ρ, rel, hp⟩ => by
          refine tE_bind rel hp fun r1 x F1 H1 _ e1 rel1 v1 hp1 => ?_
          refine tE_bind rel1 hp1 fun r2 y F2 H2 _ e2 rel2 v2 hp2 => ?_
          obtain ⟨d, q1, hp3⟩ := opt_post hp2
          obtain ⟨d2, q2, hp4⟩ := opt_post hp3
          obtain ⟨z, q3, hp5⟩ := opt_post hp4
          exact ⟨x, y, F2, d, d2, z, rfl, rel2.sub, (VR.mono e2 v1).rd rel2 q1, v2.rd rel2 q2, q3, ret_post hp5⟩
        cases f with
        | min =>
          have h1 : x = ("min" : Str) := h1
          subst h1
          exact PE.imp (pe_callB (call_min2G ok.calm) (glB_ok ok.sc h2) (ok.wd.blt _ (by simp [bltNames])) (by decide +kernel) pa (by decide) (by decide) (star_cons h3) (by rw [star_cons h3']; rfl)) rd
        | max =>
          have h1 : x = ("max" : Str) := h1
          subst h1
          exact PE.imp (pe_callB (call_max2G ok.calm) (glB_ok ok.sc h2) (ok.wd.blt _ (by simp [bltNames])) (by decide +kernel) pa (by decide) (by decide) (star_cons h3) (by rw [star_cons h3']; rfl)) rd
      | [], _, h => exact no h
      | [_], _, h => exact no h
      | [_, _], _ :: _, h => exact no h
      | _ :: _ :: _ :: _, _, h => exact no h
    | _ => exact no h
  | _ => exact no h

/-! ### isinstance -/
def isiL : List (String × Str) := [("int", ("int" : Str)), ("bool", "bool"), ("tuple", "tuple"), ("list", "list"), ("str", "str")]
theorem isi_cls : ∀ p ∈ isiL, bootBuiltins p.2 = some (.type p.1) ∧ p.2 ≠ "__name__" ∧ (p.2 == ("__debug__" : Str)) = false := by decide +kernel
theorem se_isi {a : Ex} {t : Ty} (ha : SE T N k C a) : SE T N k C (.isi a t) := by
  intro sc X W e ok h
  cases e with
  | Call fn args kws pos =>
    cases fn with
    | Name x p =>
      match args, kws, h with
      | [q, r], [], h =>
        cases r with
        | Name y py =>
          have h : (decide (x = ("isinstance" : Str)) && glB sc x && !isStar q && decide (tyStr T t = some y) && glB sc y && chkE T N a sc q) = true := h
          simp only [Bool.and_eq_true, decide_eq_true_eq, Bool.not_eq_true'] at h
          obtain ⟨⟨⟨⟨⟨rfl, h2⟩, h3⟩, h4⟩, h5⟩, h6⟩ := h
          obtain ⟨n, hn, hm⟩ : ∃ n, tyName t = some n ∧ (n, y) ∈ isiL := by
            cases t with
            | cls _ => cases h4
            | _ => cases h4; exact ⟨_, rfl, by simp [isiL]⟩
          obtain ⟨b1, b2, b3⟩ := isi_cls _ hm
          have hy : y ∈ bltNames := by
            cases t with
            | cls _ => cases h4
            | _ => cases h4; simp [bltNames]
          have pa := pa_cons (ha sc X W q ok h6) (pa_cons (pe_bltn (pos := py) (v := .ty n) (glB_ok ok.sc h5) (ok.wd.blt y hy) b1 rfl b2 b3) pa_nil rfl) (star_cons h3)
          refine PE.imp (pe_callB call_isi (glB_ok ok.sc h2) (ok.wd.blt _ (by simp [bltNames])) (by decide +kernel) pa (by decide) (by decide) (star_cons h3)) fun σ H Q ⟨F, ρ, rel, hp⟩ => ?_
          refine tE_bind rel hp fun r1 x F1 H1 _ e1 rel1 v1 hp1 => ?_
          obtain ⟨z, q3, hp5⟩ := opt_post hp1
          obtain ⟨d, hd, hb⟩ := isiD_dat hn q3
          have rv := v1.rv rel1
          rw [hd] at rv
          subst hb
          exact ⟨x, .ty n, _, _, _, rfl, .ty n, rv.ty rel1.sub, kit_isi hn d, retB_post rel1.sub hp5⟩
        | _ => exact no h
      | [], _, h => exact no h
      | [_], _, h => exact no h
      | [_, r], _ :: _, h => exact no (show false = true by cases r <;> exact h)
      | _ :: r :: _ :: _, _, h => exact no (show false = true by cases r <;> exact h)
    | _ => exact no h
  | _ => exact no h
end
end RL
/-! RLSound5: methods, dict displays, comprehensions; all expressions. -/
namespace RL
open PySem PySem.Spec PyProof.Rows L2
section
variable {T : Tab} {N : List Str} {k : Nat} {C : Cfg}

/-! ### o.m(e) of a built-in, its type told by the value -/
theorem pe_mtD {X : Cx} {o e : Expr} {to tp : TE} {name : Str} {apos cpos : Pos} (ho : PE X o to) (hp : PE X e tp) (hbase : attributeBase o name X.env (eval o X.env) = eval o X.env) (hline : (apos.endLine == cpos.line) = true)
    (hs : isStar e = false) : PE X (.Call (.Attribute o name apos) [e] [] cpos) (fun σ H Q => to σ H fun x H1 => ∃ (T id : String), PlainAttrs T ∧ Slot T name id ∧ typeOf (.builtin id) = pure (.type "method_descriptor") ∧
      (∀ (pins : List (Addr × Obj)) (s : Shared) (v : Value), Inv X pins σ H1 s → RelV x v → s.TypeIs v T ∧ ∀ a, v = .ref a → ∃ ob, s.heap.get? a = some ob ∧ ob.dict = none) ∧
      tp σ H1 fun y H2 => ∃ r, MtR X id r ∧ r x [y] H2 Q) := by
  refine ⟨fun pins s σ H Q I h => ?_⟩
  have hst : starEach [e] X.env = (false, eval e X.env) :: starEach [] X.env := star_cons hs
  have hfew : ((backTo cpos (starEach [e] X.env)).all (fun x => !x.1) && (backToKw cpos (keywordEach [] X.env)).all (fun x => x.1.isSome)
      && decide ([e].length + ([] : List Keyword).length + (if ([] : List Keyword).isEmpty then 0 else 1) < 30)) = true := by
    rw [hst]; rfl
  refine wpAny_Call_method_late hbase hfew hline rfl (thn (ho.run pins s σ H _ I h) fun v s1 ⟨x, H1, I1, r1, T, id, pa, slot, hty, ty, q1⟩ => ?_)
  obtain ⟨h1, h2⟩ := ty pins s1 v I1 r1
  refine ⟨T, id, pa, slot, hty, h1, h2, ?_⟩
  have hA := (pa_cons hp pa_nil hst).run cpos pins s1 σ H1 (fun vs H2 => match vs with
    | [y] => ∃ r, MtR X id r ∧ r x [y] H2 Q
    | _ => False) I1 q1
  rw [hst] at hA ⊢
  refine Calls.callWith_builtin rfl (Calls.evalArgs_plain ?_)
  exact thn hA fun us s2 ⟨vs, H2, I2, r2, q2⟩ => by
    cases r2 with
    | nil => exact q2.elim
    | cons ry rt =>
      cases rt with
      | cons _ _ => exact q2.elim
      | nil =>
        obtain ⟨r, hr, q3⟩ := q2
        exact hr pins s2 σ H2 x _ v _ Q I2 r1 (.cons ry .nil) q3
theorem se_mt {m : Mt} {a b : Ex} (ha : SE T N k C a) (hb : SE T N k C b) : SE T N k C (.mt m a b) := by
  intro sc X W e ok h
  cases e with
  | Call fn args kws pos =>
    cases fn with
    | Attribute o x apos =>
      match args, kws, h with
      | [q], [], h =>
        have h : (mtOk m && decide (x = mtStr m) && lineB apos pos && !isCall0 o && !isStar q && chkE T N a sc o && chkE T N b sc q) = true := h
        simp only [Bool.and_eq_true, decide_eq_true_eq, Bool.not_eq_true'] at h
        obtain ⟨⟨⟨⟨⟨⟨h1, rfl⟩, h2⟩, h3⟩, h4⟩, h5⟩, h6⟩ := h
        refine PE.imp (pe_mtD (ha sc X W o ok h5) (hb sc X W q ok h6) (base_ix h3) h2 h4) fun σ H Q ⟨F, ρ, rel, hp⟩ => ?_
        refine tE_bind rel hp fun r1 x F1 H1 _ e1 rel1 v1 hp0 => ?_
        obtain ⟨_, g0, hp1⟩ := opt_post hp0
        obtain ⟨g0, _⟩ := grd_ok g0
        have rv := v1.rv rel1
        cases m with
        | index =>
          cases q : r1.2 with
          | dat d =>
            rw [q] at rv g0
            have rd := rv.rd
            cases d with
            | list xs =>
              refine ⟨"list", "list.index", PySem.F.plainAttrs_list, PySem.F.slot_list_index, PySem.F.type_list_index, fun pins s v I r => ?_, tE_bind rel1 hp1 fun r2 y F2 H2 _ e2 rel2 v2 hp2 => ?_⟩
              · obtain ⟨p, vs, rfl, t1, _⟩ := rd.list rel1.sub
                exact tyV_is I r (.inl ⟨rfl, vs, .inl t1⟩)
              · obtain ⟨d2, q2, hp3⟩ := opt_post hp2
                obtain ⟨z, q3, hp4⟩ := opt_post hp3
                rw [q] at q3
                obtain ⟨g, q3⟩ := grd_ok q3
                rw [Bool.and_eq_true] at g
                obtain ⟨n, q4, q5⟩ := bind_ok q3
                cases ok_inj q5
                obtain ⟨j, z, rfl, f1, f2, f3⟩ := findIx_some q4
                rw [Nat.zero_add] at hp4
                have rd2 := RD.mono e2 rd
                obtain ⟨p, vs, rfl, t1, r1⟩ := rd2.list rel2.sub
                exact ⟨_, mt_indexD ok.hu, p, y, d2, xs, j, z, rfl, rfl, Dq.dp _ _ (rd2.data rel2.sub), Dq.dp _ _ ((v2.rd rel2 q2).data rel2.sub), g.1, g.2, f1, f2, f3, ret_post hp4 _ F2 H2 (Ext.refl rel2.sub) (.int _)⟩
            | tuple xs =>
              refine ⟨"tuple", "tuple.index", PySem.F.plainAttrs_tuple, PySem.F.slot_tuple_index, PySem.F.type_tuple_index, fun pins s v I r => ?_, tE_bind rel1 hp1 fun r2 y F2 H2 _ e2 rel2 v2 hp2 => ?_⟩
              · obtain ⟨p, vs, rfl, t1, t2, _⟩ := rd.tup rel1.sub
                cases r
                exact tupG_is I (t2.mono rel1.sub)
              · obtain ⟨d2, q2, hp3⟩ := opt_post hp2
                obtain ⟨z, q3, hp4⟩ := opt_post hp3
                rw [q] at q3
                obtain ⟨g, q3⟩ := grd_ok q3
                rw [Bool.and_eq_true] at g
                obtain ⟨n, q4, q5⟩ := bind_ok q3
                cases ok_inj q5
                obtain ⟨j, z, rfl, f1, f2, f3⟩ := findIx_some q4
                rw [Nat.zero_add] at hp4
                have rd2 := RD.mono e2 rd
                obtain ⟨p, vs, rfl, t1, _, r1⟩ := rd2.tup rel2.sub
                exact ⟨_, mt_tupIndex ok.hu, p, y, d2, xs, vs, j, z, rfl, rfl, t1, DqAll.dp _ _ (DqAll.mono rel2.sub _ _ r1), Dq.dp _ _ ((v2.rd rel2 q2).data rel2.sub), g.1, g.2, f1, f2, f3, ret_post hp4 _ F2 H2 (Ext.refl rel2.sub) (.int _)⟩
            | _ => exact no g0
          | _ => rw [q] at g0; exact no g0
        | _ => exact no h1
      | [], _, h => exact no h
      | [_], _ :: _, h => exact no h
      | _ :: _ :: _, _, h => exact no h
    | _ => exact no h
  | _ => exact no h
end
end RL
/-! RLComp: comprehensions. -/
namespace RL
open PySem PySem.Spec PyProof.Rows L2
section
variable {T : Tab} {N : List Str} {k : Nat} {C : Cfg}
theorem bNone_ok {b : Ex} (h : bNone b = true) : b = .con .none := by
  cases b with
  | con d => cases d <;> first | rfl | exact no h
  | _ => exact no h
/-- what is walked -/
theorem src_ok {sc : Scope} {X : Cx} {W : WX} {a b : Ex} {many : Bool} {kk : Sk} {iter : Expr} {tg : Expr} (ok : Ok T N k C sc X W) (ha : SE T N k C a) (hb : SE T N k C b)
    (h : srcC sc (chkE T N a sc) (chkE T N b sc) (bNone b) many kk iter = true) (hm : many = true → ∃ es k p, tg = .Tuple es k p) : PI X tg iter (tS T X C W kk a b) ∧ (isZip kk = true → many = true) := by
  cases kk with
  | items =>
    have h : (chkE T N a sc iter && bNone b) = true := h
    rw [Bool.and_eq_true] at h
    have := bNone_ok h.2
    subst this
    exact ⟨pi_items (ha sc X W iter ok h.1), fun z => no z⟩
  | rg1 =>
    cases iter with
    | Call fn args kws pos =>
      cases fn with
      | Name x np =>
        match args, kws, h with
        | [p], [], h =>
          have h : (decide (x = ("range" : Str)) && glB sc x && !isStar p && chkE T N a sc p && bNone b) = true := h
          simp only [Bool.and_eq_true, decide_eq_true_eq, Bool.not_eq_true'] at h
          obtain ⟨⟨⟨⟨rfl, h2⟩, h3⟩, h4⟩, h5⟩ := h
          have := bNone_ok h5
          subst this
          exact ⟨pi_rg1 ok h2 h3 (ha sc X W p ok h4), fun z => no z⟩
        | [], _, h => exact no h
        | [_], _ :: _, h => exact no h
        | _ :: _ :: _, _, h => exact no h
      | _ => exact no h
    | _ => exact no h
  | rg2 =>
    cases iter with
    | Call fn args kws pos =>
      cases fn with
      | Name x np =>
        match args, kws, h with
        | [p, q], [], h =>
          have h : (decide (x = ("range" : Str)) && glB sc x && !isStar p && !isStar q && chkE T N a sc p && chkE T N b sc q) = true := h
          simp only [Bool.and_eq_true, decide_eq_true_eq, Bool.not_eq_true'] at h
          obtain ⟨⟨⟨⟨⟨rfl, h2⟩, h3⟩, h4⟩, h5⟩, h6⟩ := h
          exact ⟨pi_rg2 ok h2 h3 h4 (ha sc X W p ok h5) (hb sc X W q ok h6), fun z => no z⟩
        | [], _, h => exact no h
        | [_], _, h => exact no h
        | [_, _], _ :: _, h => exact no h
        | _ :: _ :: _ :: _, _, h => exact no h
      | _ => exact no h
    | _ => exact no h
  | zip =>
    cases iter with
    | Call fn args kws pos =>
      cases fn with
      | Name x np =>
        match args, kws, h with
        | [p, q], [], h =>
          have h : (decide (x = ("zip" : Str)) && glB sc x && !isStar p && !isStar q && chkE T N a sc p && chkE T N b sc q && many) = true := h
          simp only [Bool.and_eq_true, decide_eq_true_eq, Bool.not_eq_true'] at h
          obtain ⟨⟨⟨⟨⟨⟨rfl, h2⟩, h3⟩, h4⟩, h5⟩, h6⟩, h7⟩ := h
          obtain ⟨es, kt, pt, rfl⟩ := hm h7
          exact ⟨pi_zipG ok h2 h3 h4 (ha sc X W p ok h5) (hb sc X W q ok h6), fun _ => h7⟩
        | [], _, h => exact no h
        | [_], _, h => exact no h
        | [_, _], _ :: _, h => exact no h
        | _ :: _ :: _ :: _, _, h => exact no h
      | _ => exact no h
    | _ => exact no h
  | enm => exact no (show false = true by
      unfold srcC at h
      split at h <;> first | exact h | (rename_i e; cases e))
theorem tg_many {N : List Str} {sc : Scope} {st : Bool} {t : Tg} {e : Expr} (h : chkTg N sc st t e = true) (hm : isMany t = true) : ∃ es k p, e = .Tuple es k p := by
  cases t with
  | one _ => exact no hm
  | many l =>
    cases e with
    | Tuple es k p => exact ⟨es, k, p, rfl⟩
    | _ => exact no h
theorem Ifor.item {K : W.Frag} {F F' H : Hp} {x : V} {d : D} {t : Tg} {z : Bool} (s : Same F F') (h : Dq K F x d ∨ z = true ∧ Iw K F H x d) (hz : z = true → isMany t = true) : Ifor K F' H x d t := by
  rcases h with h | ⟨e, h⟩
  · exact Ifor.of t (Dq.mono s _ _ h)
  · cases t with
    | one _ => exact no (hz e)
    | many l =>
      rcases h with h | ⟨a, vs, ds, e1, e2, e3, e4⟩
      · exact .inl (Dq.mono s _ _ h)
      · exact .inr ⟨a, vs, ds, e1, e2, e3, DqAll.mono s _ _ e4⟩
theorem Ext.put {F H F' H' : Hp} {p : Addr} {o : HO} (e : Ext F H F' H') (n : H p = none) (n' : F' p = none) : Ext F H F' (upd H' p o) :=
  ⟨e.ff, fun b u q => by rw [upd_ne (ne_of_none q n)]; exact e.hh b u q, fun b u q => by rw [upd_ne (ne_of_none q n')]; exact e.sub b u q, e.new⟩
theorem Ext.grow {F H H' : Hp} (s : Same F H) (g : Same H H') : Ext F H F H' := ⟨Same.refl F, g, s.trans g, fun _ _ h => .inl h⟩
theorem Ext.not {F H F' H' : Hp} {a : Addr} {o : HO} (e : Ext F H F' H') (h : F a = none) (h2 : H a = some o) : F' a = none := by
  cases q : F' a with
  | none => rfl
  | some u =>
    rcases e.new a u q with z | z
    · rw [h] at z; cases z
    · rw [h2] at z; cases z
theorem noX_ok {a : Type} {r : Res a} {x : a} (h : noX r = .ok x) : r = .ok x := by
  cases r with
  | ok y => exact h
  | exc _ _ => cases h
  | bad => cases h
theorem noX_bad {a : Type} {r : Res a} (h : ∀ x, r ≠ .ok x) : noX r = .bad := by
  cases r with
  | ok y => exact absurd rfl (h y)
  | exc _ _ => rfl
  | bad => rfl
def W0 : WX := fun _ _ _ _ => False
/-- the block's context -/
theorem Ok.blk {sc scope : Scope} {X : Cx} {W : WX} (ok : Ok T N k C sc X W) (s : Shared) (H : Hp) (A : Addr) (cl : List (Str × Addr)) (fp : List Addr) : Ok T N k C (relS scope sc) (X.blk s H scope (compEnvC scope cl A X.env) fp) W0 where
  n := ok.n
  nd := ok.nd
  sc := by rw [← ok.sc]; rfl
  calm := ok.calm
  room := ok.room
  tk := takes_none5
  wd := ok.wd
theorem mapC_cons {b : D → Option Env} {c : Env → Res Bool} {e : Env → Res D} {x : D} {r : List D} {ys : List D} (h : mapC b c e (x :: r) = .ok ys) :
    ∃ m, b x = some m ∧ ((c m = .ok true ∧ ∃ y zs, e m = .ok y ∧ mapC b c e r = .ok zs ∧ ys = y :: zs) ∨ (c m = .ok false ∧ mapC b c e r = .ok ys)) := by
  unfold mapC at h
  obtain ⟨m, h1, h⟩ := opt_ok h
  obtain ⟨kk, h2, h⟩ := res_bind_ok h
  refine ⟨m, h1, ?_⟩
  cases kk with
  | true =>
    obtain ⟨y, h3, h⟩ := res_bind_ok h
    obtain ⟨zs, h4, h⟩ := res_bind_ok h
    cases h
    exact .inl ⟨h2, y, zs, h3, h4, rfl⟩
  | false => exact .inr ⟨h2, h⟩
/-- the reading of a comprehension by the evaluator -/
theorem lc_read {X : Cx} {W : WX} {sc : Scope} {own : List Nat} {tg : Tg} {kk : Sk} {a b : Ex} {elt : Ex} {cnd : Env → Res Bool} {tt : TT} (ok : Ok T N k C sc X W) (hown : tgIn own tg = true) (hz : isZip kk = true → isMany tg = true)
    (htt : ∀ (F H : Hp) (σ : L2.St) (ρ : Env) (bb : Bool) (Q : Bool → Hp → Prop), Rel X.K F σ H ρ → cnd ρ = .ok bb → (∀ F' H', Ext F H F' H' → Q bb H') → tt σ H Q)
    {σ : L2.St} {H : Hp} {Q : VK} {F : Hp} {ρ : Env} (rel : Rel X.K F σ H ρ)
    (h : match (ev C ρ a).bind (fun x => (ev C ρ b).bind fun y => opt (itemsOf kk x.2 y.2) fun its =>
        (noX (mapC (fun d => bindTg (wipe ρ own) d tg) cnd (fun m => (ev C m elt).bind fun z => opt (dat z) .ok) its)).bind fun ys => opt (grdO (szOk its.length) (some (.list ys))) ret) with
      | .ok r => ∃ v, r = (false, v) ∧ ∀ p o F' H', Ext F H F' H' → H p = none → F' p = none → H' p = some o → Cnt X.K F' o v → Q (.ref p) H'
      | .exc c p => ∀ F' H' cls d, Ext F H F' H' → Xr T X.K X.mg c p cls d H' → W cls d σ H'
      | .bad => False) :
    tLc (tS T X C W kk a b) (tG X tg) tt (tE T X C W0 elt) own σ H Q := by
  generalize hE : (fun m => (ev C m elt).bind fun z => opt (dat z) .ok) = eE at h
  refine ⟨F, ρ, rel, ?_⟩
  cases ea : ev C ρ a with
  | bad => rw [ea] at h; exact h.elim
  | exc c p => rw [ea] at h; exact h
  | ok x =>
    rw [ea] at h
    cases eb : ev C ρ b with
    | bad => simp only [Res.bind] at h; rw [eb] at h; exact h.elim
    | exc c p =>
      simp only [Res.bind] at h ⊢
      rw [eb] at h; exact h
    | ok y =>
      simp only [Res.bind] at h ⊢
      rw [eb] at h
      cases ei : itemsOf kk x.2 y.2 with
      | none => simp only [Res.bind] at h ⊢; rw [ei] at h; exact h.elim
      | some its =>
        simp only [Res.bind] at h ⊢
        rw [ei] at h
        simp only [opt] at h ⊢
        cases em : mapC (fun d => bindTg (wipe ρ own) d tg) cnd eE its with
        | bad => rw [em] at h; exact h.elim
        | exc c p => rw [em] at h; exact h.elim
        | ok ys =>
          rw [em] at h
          cases eg : szOk its.length with
          | false => rw [eg] at h; exact h.elim
          | true =>
            rw [eg] at h
            obtain ⟨v, e1, hq⟩ := h
            cases e1
            have hsz := szOk_le eg
            intro F1 H1 ex1 J jok D nD
            have rel1 := rel.ext ex1
            have fD : F1 D = none := rel1.sub.free nD
            refine ⟨fun i m Hi => m = its.length - i ∧ i ≤ its.length ∧ ∃ Fi acc ds rest, Ext F1 H1 Fi Hi ∧ Fi D = none ∧ Hi D = some (.lst acc) ∧ DqAll X.K Fi acc ds ∧ acc.length ≤ i ∧
                mapC (fun d => bindTg (wipe ρ own) d tg) cnd eE (its.drop i) = .ok rest ∧ ds ++ rest = ys, ⟨its.length, by simp, Nat.zero_le _, F1, [], [], ys, Ext.put (Ext.refl rel1.sub) nD fD, fD, upd_same, .nil, Nat.le_refl _, em, rfl⟩, ?_⟩
            rintro i m Hi ⟨rfl, hi, Fi, acc, ds, rest, exi, fDi, hDi, hacc, hal, emi, hys⟩
            have sB : Same (if (x.1 || y.1) = true then H1 else F1) Hi := by
              split
              · exact exi.hh
              · exact exi.ff.trans exi.sub
            by_cases hlt : i < its.length
            · refine .inr ⟨jok.go i Hi sB hlt, fun H' => i + 1 ≤ its.length ∧ ∃ Fi acc ds rest, Ext F1 H1 Fi H' ∧ Fi D = none ∧ H' D = some (.lst acc) ∧ DqAll X.K Fi acc ds ∧ acc.length ≤ i + 1 ∧
                mapC (fun d => bindTg (wipe ρ own) d tg) cnd eE (its.drop (i + 1)) = .ok rest ∧ ds ++ rest = ys, fun H' p' => ⟨its.length - (i + 1), by omega, rfl, p'⟩, fun v Hy yy => ?_⟩
              obtain ⟨d, ed, sy, iw⟩ := jok.yld i Hi v Hy sB hlt yy
              have exy : Ext F1 H1 Fi Hy := exi.trans (Ext.grow exi.sub sy)
              have hdrop : its.drop i = d :: its.drop (i + 1) := by
                obtain ⟨hl, hd⟩ := List.getElem?_eq_some_iff.mp ed
                rw [List.drop_eq_getElem_cons hl, hd]
              rw [hdrop] at emi
              obtain ⟨mρ, bd, hc⟩ := mapC_cons emi
              refine ⟨Fi, wipe ρ own, d, mρ, (rel1.ext exy).wiped own, Ifor.item exi.ff iw hz, bd, fun σ2 rel2 tp => ⟨?_, ?_⟩⟩
              · refine wipe_eq (by rw [tp.len, L2.wipe_length]) fun j hj => ?_
                rw [tp.keep j (fun hm => hj ?_), wipeV_out hj]
                have := List.all_eq_true.mp hown j hm
                simpa using this
              · rcases hc with ⟨hc, yv, zs, he, hm, rfl⟩ | ⟨hc, hm⟩
                · refine htt Fi Hy σ2 mρ true _ rel2 hc fun F3 H3 ex3 => ?_
                  show tE T X C W0 elt σ2 H3 _
                  have rel3 := rel2.ext ex3
                  refine ⟨F3, mρ, rel3, ?_⟩
                  obtain ⟨r, he1, he2⟩ := res_bind_ok (show (ev C mρ elt).bind (fun z => opt (dat z) .ok) = .ok yv by rw [← hE] at he; exact he)
                  obtain ⟨dd, he3, he4⟩ := opt_ok he2
                  cases he4
                  rw [he1]
                  intro F4 H4 ex4 xv hv
                  have exa : Ext F1 H1 F4 H4 := exy.trans (ex3.trans ex4)
                  have f4 : F4 D = none := (ex3.trans ex4).not fDi (sy _ _ hDi)
                  have h4 : H4 D = some (.lst acc) := (ex3.trans ex4).hh _ _ (sy _ _ hDi)
                  exact ⟨acc, h4, by omega, hlt, F4, _, _, zs, exa.put nD f4, f4, upd_same, (DqAll.mono (ex3.trans ex4).ff _ _ hacc).snoc (hv.dp he3), by simp; omega, hm, by rw [← hys]; simp⟩
                · refine htt Fi Hy σ2 mρ false _ rel2 hc fun F3 H3 ex3 => ?_
                  exact ⟨hlt, F3, acc, ds, rest, exy.trans ex3, ex3.not fDi (sy _ _ hDi), ex3.hh _ _ (sy _ _ hDi), DqAll.mono ex3.ff _ _ hacc, by omega, hm, hys⟩
            · have hie : i = its.length := by omega
              refine .inl ⟨jok.stop i Hi sB (show its.length ≤ i by omega), ?_⟩
              subst hie
              rw [List.drop_length] at emi
              cases emi
              rw [List.append_nil] at hys
              subst hys
              exact hq D (.lst acc) Fi Hi (ex1.trans exi) (ex1.hh.free nD) fDi hDi hacc
theorem own_map (own : List Nat) : (ownP N own).map (·.2) = own := by
  unfold ownP; rw [List.map_map]; simp [Function.comp_def]
theorem chk_cpr {own : List Nat} {tg : Tg} {kk : Sk} {a b elt : Ex} {sc : Scope} {e : Expr} (h : chkE T N (.cpr own tg kk a b elt) sc e = true) : ∃ e' t iter scope p, e = .ListComp e' [⟨t, iter, [], 0⟩] scope p ∧
    (blkC N sc scope (ownP N own) && chkTg N (relS scope sc) true tg t && tgIn own tg && !isSet iter && srcC sc (chkE T N a sc) (chkE T N b sc) (bNone b) (isMany tg) kk iter && chkE T N elt (relS scope sc) e') = true := by
  unfold chkE at h
  split at h <;> first | exact no h | skip
  all_goals first | (rename_i q; cases q; exact ⟨_, _, _, _, _, rfl, h⟩) | (rename_i q _; cases q; exact ⟨_, _, _, _, _, rfl, h⟩) | (simp_all; done)
theorem chk_cpi {own : List Nat} {tg : Tg} {kk : Sk} {a b c elt : Ex} {sc : Scope} {e : Expr} (h : chkE T N (.cpi own tg kk a b c elt) sc e = true) : ∃ e' t iter i scope p, e = .ListComp e' [⟨t, iter, [i], 0⟩] scope p ∧
    (blkC N sc scope (ownP N own) && chkTg N (relS scope sc) true tg t && tgIn own tg && !isSet iter && srcC sc (chkE T N a sc) (chkE T N b sc) (bNone b) (isMany tg) kk iter && chkE T N elt (relS scope sc) e' && chkE T N c (relS scope sc) i) = true := by
  unfold chkE at h
  split at h <;> first | exact no h | skip
  all_goals first | (rename_i q; cases q; exact ⟨_, _, _, _, _, _, rfl, h⟩) | (rename_i q _; cases q; exact ⟨_, _, _, _, _, _, rfl, h⟩) | (simp_all; done)
theorem sn_cpr {own : List Nat} {tg : Tg} {kk : Sk} {a b elt : Ex} (ha : SE T N k C a) (hb : SE T N k C b) (he : SE T N k C elt) : SN T N k C (.cpr own tg kk a b elt) := by
  intro sc X W e ok h
  obtain ⟨e, t, iter, scope, p, he0, h0⟩ := chk_cpr h
  clear h; subst he0; have h := h0
  simp only [Bool.and_eq_true, Bool.not_eq_true'] at h
  obtain ⟨⟨⟨⟨⟨h1, h2⟩, h3⟩, h4⟩, h5⟩, h6⟩ := h
  obtain ⟨pi, hz⟩ := src_ok (tg := t) ok ha hb h5 (tg_many h2)
  have P := pe_lc (pos := p) (own := ownP N own) (scope := scope) (g := tG X tg) (tt := tYes) (te := tE T X C W0 elt) ok.calm (by rw [ok.n]; exact ok.nd) pi (blkOk_by (by rw [ok.n, ok.sc]; exact h1))
    (fun s H A cl fp => pg_ok (X := X.blk s H scope (compEnvC scope cl A X.env) fp) ok.n ok.nd (ok.blk s H A cl fp).sc ok.calm (fun z => by cases z) tg t h2) (fun s H A cl fp => pts_nil)
    (fun s H A cl fp => he _ _ _ e (ok.blk s H A cl fp) h6) (fold_ix h4)
  rw [own_map] at P
  exact PE.imp P fun σ H Q ⟨F, ρ, rel, hp⟩ => lc_read (cnd := fun _ => .ok true) ok h3 hz (fun F H σ ρ bb Q rel e1 q => by cases e1; exact q F H (Ext.refl rel.sub)) rel hp
theorem sn_cpi {own : List Nat} {tg : Tg} {kk : Sk} {a b c elt : Ex} (ha : SE T N k C a) (hb : SE T N k C b) (hc : ST T N k C c) (he : SE T N k C elt) : SN T N k C (.cpi own tg kk a b c elt) := by
  intro sc X W e ok h
  obtain ⟨e, t, iter, i, scope, p, he0, h0⟩ := chk_cpi h
  clear h; subst he0; have h := h0
  simp only [Bool.and_eq_true, Bool.not_eq_true'] at h
  obtain ⟨⟨⟨⟨⟨⟨h1, h2⟩, h3⟩, h4⟩, h5⟩, h6⟩, h7⟩ := h
  obtain ⟨pi, hz⟩ := src_ok (tg := t) ok ha hb h5 (tg_many h2)
  have P := pe_lc (pos := p) (own := ownP N own) (scope := scope) (g := tG X tg) (tt := tT T X C W0 c) (te := tE T X C W0 elt) ok.calm (by rw [ok.n]; exact ok.nd) pi (blkOk_by (by rw [ok.n, ok.sc]; exact h1))
    (fun s H A cl fp => pg_ok (X := X.blk s H scope (compEnvC scope cl A X.env) fp) ok.n ok.nd (ok.blk s H A cl fp).sc ok.calm (fun z => by cases z) tg t h2) (fun s H A cl fp => pts_one (hc _ _ _ i (ok.blk s H A cl fp) h7))
    (fun s H A cl fp => he _ _ _ e (ok.blk s H A cl fp) h6) (fold_ix h4)
  rw [own_map] at P
  refine PE.imp P fun σ H Q ⟨F, ρ, rel, hp⟩ => lc_read (cnd := fun m => evT C m c) ok h3 hz (fun F H σ ρ bb Q rel e1 q => ⟨F, ρ, rel, ?_⟩) rel hp
  rw [show evT C ρ c = .ok bb from e1]
  exact q
theorem sn_dc1 {kx v : Ex} (hv : SE T N k C v) : SN T N k C (.dc1 kx v) := by
  intro sc X W e ok h
  cases e with
  | Dict ks vs p =>
    cases kx with
    | con d =>
      cases d with
      | int i =>
        match ks, vs, h with
        | [some q], [w], h =>
          cases q with
          | Constant cc a1 a2 =>
            cases cc with
            | int j =>
              have h : (decide (i = j) && chkE T N v sc w) = true := h
              simp only [Bool.and_eq_true, decide_eq_true_eq] at h
              obtain ⟨rfl, hc⟩ := h
              refine PE.imp (pe_disp (pps_cons pe_int (hv sc X W w ok hc) pps_nil) rfl rfl (by simp) (by simp)) fun σ H Q ⟨F, ρ, rel, hp⟩ => ?_
              intro p np
              have e0 : Ext F H F (upd H p (.dK [])) := Ext.free rel.sub np
              show tE T X C W v σ (upd H p (.dK [])) _
              refine ⟨F, ρ, rel.ext e0, ?_⟩
              have hp : (match (ev C ρ v).bind fun v => opt (dat v) fun v => opt (dicD (.int i) v) fun z => Res.ok (false, z) with
                | .ok r => ∃ v, r = (false, v) ∧ ∀ p o F' H', Ext F H F' H' → H p = none → F' p = none → H' p = some o → Cnt X.K F' o v → Q (.ref p) H'
                | .exc c p => ∀ F' H' cls d, Ext F H F' H' → Xr T X.K X.mg c p cls d H' → W cls d σ H'
                | .bad => False) := hp
              cases e1 : ev C ρ v with
              | bad => rw [e1] at hp; exact hp.elim
              | exc c p => rw [e1] at hp; exact fun F' H' cls d ex => hp F' H' cls d (e0.trans ex)
              | ok r =>
                rw [e1] at hp
                intro F1 H1 ex1 y hy
                have fp : F1 p = none := (ex1.not (rel.sub.free np) upd_same)
                refine ⟨ex1.hh _ _ upd_same, [(.inl i, y)], rfl, by simp, ?_⟩
                cases e2 : dat r with
                | none => simp only [Res.bind] at hp; rw [e2] at hp; exact hp.elim
                | some dd =>
                  simp only [Res.bind] at hp
                  rw [e2] at hp
                  obtain ⟨v, e3, hp⟩ := hp
                  cases e3
                  exact hp p _ F1 _ ((e0.trans ex1).put np fp) np fp upd_same (.cons ⟨rfl, hy.dp e2⟩ .nil)
            | _ => exact no h
          | _ => exact no h
        | [some (.Constant (.int _) _ _)], [], h => exact no h
        | [], _, h => exact no h
        | [none], _, h => exact no h
        | _ :: _ :: _, _, h => exact no (show false = true by
            unfold chkE at h
            split at h <;> first | exact h | (simp_all; done))
        | [some _], [], h => exact no (show false = true by
            unfold chkE at h
            split at h <;> first | exact h | (simp_all; done))
        | [some _], _ :: _ :: _, h => exact no (show false = true by
            unfold chkE at h
            split at h <;> first | exact h | (simp_all; done))
      | _ => exact no h
    | _ => exact no h
  | _ => cases kx with
    | con d => cases d <;> exact no h
    | _ => exact no h
theorem plain_of {e : Ex} (he : SE T N k C e) (hp : ∀ sc a, chkE T N e sc a = true → plainT a = true) : SE T N k C e ∧ ST T N k C e := ⟨he, st_plain he hp⟩
theorem chk_plain {e : Ex} {sc : Scope} {a : Expr} (h : chkE T N e sc a = true) (hn : plainT a = false) : (∃ x, e = .not x) ∨ (∃ x y, e = .and x y) ∨ (∃ x y, e = .or x y) ∨ (∃ x y z, e = .ite x y z) ∨ (∃ o x y, e = .cmp o x y) ∨ (∃ o p x y z, e = .chn o p x y z) ∨ ∃ p x, e = .isn p x := by
  unfold chkE at h
  split at h <;> first | exact no h | exact no hn.symm | (simp [plainT] at hn; done) | simp
  all_goals (exact no hn.symm)
end
end RL
/-! RLAll: every expression that passes the check is read as the evaluator tells. -/
namespace RL
open PySem PySem.Spec PyProof.Rows L2
section
variable {T : Tab} {N : List Str} {k : Nat} {C : Cfg}
def plainEx : Ex → Bool
  | .not _ => false
  | .and _ _ => false
  | .or _ _ => false
  | .ite _ _ _ => false
  | .cmp _ _ _ => false
  | .chn _ _ _ _ _ => false
  | .isn _ _ => false
  | _ => true
theorem pl {e : Ex} (he : SE T N k C e) (hp : plainEx e = true) : SE T N k C e ∧ ST T N k C e := plain_of he fun sc a h => by
  cases q : plainT a with
  | true => rfl
  | false =>
    rcases chk_plain h q with ⟨_, e⟩ | ⟨_, _, e⟩ | ⟨_, _, e⟩ | ⟨_, _, _, e⟩ | ⟨_, _, _, e⟩ | ⟨_, _, _, _, _, e⟩ | ⟨_, _, e⟩ <;> (subst e; exact no hp)
theorem of_n {e : Ex} (h : SN T N k C e) (hv : ∀ (ρ : Env) r, ev C ρ e = .ok r → r.1 = false) (hp : plainEx e = true) : SE T N k C e ∧ ST T N k C e := pl (se_of_sn h hv) hp
theorem frz_cp {ρ : Env} {own : List Nat} {tg : Tg} {kk : Sk} {a b : Ex} {cnd : Env → Res Bool} {eE : Env → Res D} {r : Bool × Vl}
    (h : (ev C ρ a).bind (fun x => (ev C ρ b).bind fun y => opt (itemsOf kk x.2 y.2) fun its => (noX (mapC (fun d => bindTg (wipe ρ own) d tg) cnd eE its)).bind fun ys => opt (grdO (szOk its.length) (some (.list ys))) ret) = .ok r) : r.1 = false := by
  obtain ⟨x, _, h⟩ := res_bind_ok h
  obtain ⟨y, _, h⟩ := res_bind_ok h
  obtain ⟨its, _, h⟩ := opt_ok h
  obtain ⟨ys, _, h⟩ := res_bind_ok h
  obtain ⟨d, _, h⟩ := opt_ok h
  cases h; rfl
mutual
theorem sound : ∀ e : Ex, SE T N k C e ∧ ST T N k C e
  | .var i => pl se_var rfl
  | .con d => pl se_con rfl
  | .glo g => pl se_glo rfl
  | .bin o a b => pl (se_bin (sound a).1 (sound b).1) rfl
  | .neg a => pl (se_neg (sound a).1) rfl
  | .cmp o a b => ⟨se_cmp (sound a).1 (sound b).1, st_cmp (sound a).1 (sound b).1⟩
  | .chn o p a b c => se_chn (sound a).1 (sound b).1 (sound c).1
  | .isn p a => isn_both (sound a).1
  | .and a b => and_both (sound a).1 (sound a).2 (sound b).1 (sound b).2
  | .or a b => or_both (sound a).1 (sound a).2 (sound b).1 (sound b).2
  | .not a => not_both (sound a).1 (sound a).2
  | .ite c a b => ite_both (sound c).2 (sound a).1 (sound a).2 (sound b).1 (sound b).2
  | .tup es => pl (se_tup (soundL es)) rfl
  | .lst es => of_n (sn_lst (soundL es)) (fun ρ r h => by
      obtain ⟨x, _, h⟩ := res_bind_ok h
      obtain ⟨y, _, h⟩ := opt_ok h
      cases h; rfl) rfl
  | .idx a i => pl (se_idx (sound a).1 (sound i).1) rfl
  | .slf a lo => pl (se_slf (sound a).1 (sound lo).1) rfl
  | .slt a hi => pl (se_slt (sound a).1 (sound hi).1) rfl
  | .slb a lo hi => pl (se_slb (sound a).1 (sound lo).1 (sound hi).1) rfl
  | .rev a => pl (se_rev (sound a).1) rfl
  | .cpr own tg kk a b elt => of_n (sn_cpr (sound a).1 (sound b).1 (sound elt).1) (fun ρ r h => frz_cp h) rfl
  | .cpi own tg kk a b c elt => of_n (sn_cpi (sound a).1 (sound b).1 (sound c).2 (sound elt).1) (fun ρ r h => frz_cp h) rfl
  | .call f es => pl (se_call (soundL es)) rfl
  | .fn1 f a => pl (se_fn1 (sound a).1) rfl
  | .fn2 f a b => pl (se_fn2 (sound a).1 (sound b).1) rfl
  | .mt m a b => pl (se_mt (sound a).1 (sound b).1) rfl
  | .isi a t => pl (se_isi (sound a).1) rfl
  | .dc0 => pl (fun sc X W a ok h => no h) rfl
  | .dc1 a v => of_n (sn_dc1 (sound v).1) (fun ρ r h => by
      obtain ⟨x, _, h⟩ := res_bind_ok h
      obtain ⟨y, _, h⟩ := res_bind_ok h
      obtain ⟨k1, _, h⟩ := opt_ok h
      obtain ⟨k2, _, h⟩ := opt_ok h
      obtain ⟨k3, _, h⟩ := opt_ok h
      cases h; rfl) rfl
  | .fst es => pl (fun sc X W a ok h => no h) rfl
  | .fld a => pl (fun sc X W a ok h => no h) rfl
theorem soundL : ∀ es : List Ex, SEs T N k C es
  | [] => ses_nil
  | e :: es => ses_cons (sound e).1 (soundL es)
end
/-- what a new name may hold alone -/
theorem soundN : ∀ e : Ex, fresh e = true → SN T N k C e := by
  intro e h
  cases e with
  | lst es => exact sn_lst (soundL es)
  | dc1 a v => exact sn_dc1 (sound v).1
  | cpr own tg kk a b elt => exact sn_cpr (sound a).1 (sound b).1 (sound elt).1
  | cpi own tg kk a b c elt => exact sn_cpi (sound a).1 (sound b).1 (sound c).2 (sound elt).1
  | fn1 f a =>
    cases f with
    | list => exact sn_list (sound a).1
    | listRange => exact fun sc X W a ok h => no (show false = true by
        unfold chkE at h
        split at h <;> first | exact h | (rename_i q; cases q; done) | (rename_i q; cases q; simpa [f1Ok] using h))
    | _ => exact no h
  | dc0 => exact fun sc X W a ok h => no h
  | _ => exact no h
end
end RL
/-! RLStm: how a statement's reading follows the evaluator. -/
namespace RL
open PySem PySem.Spec PyProof.Rows L2

/-- slots and heaps since a def's start (F0, H0) -/
structure Rl (K : W.Frag) (F0 H0 F : Hp) (σ : L2.St) (H : Hp) (ρ : Env) : Prop where
  rel : Rel K F σ H ρ
  ext : Ext F0 H0 F H
  nw : ∀ (i : Nat) v a, ρ[i]? = some (some (.own v)) → σ[i]? = some (some (.ref a)) → H0 a = none
section
variable {K : W.Frag} {F0 H0 F H F' H' : Hp} {σ : L2.St} {ρ : Env} {i : Nat} {x : V} {v w : Vl} {a : Addr} {o o' : HO}
theorem Rl.mono (r : Rl K F0 H0 F σ H ρ) (e : Ext F H F' H') : Rl K F0 H0 F' σ H' ρ := ⟨r.rel.ext e, r.ext.trans e, r.nw⟩
theorem Rl.setVal (r : Rl K F0 H0 F σ H ρ) (h : Frep K F x v) (i : Nat) : Rl K F0 H0 F (σ.set i (some x)) H (ρ.set i (some (.val v))) :=
  ⟨r.rel.setVal h i, r.ext, fun j u a hj ha => by
    rcases get_set hj with ⟨rfl, e, hl⟩ | ⟨hne, e⟩
    · cases e
    · rw [List.getElem?_set_ne (fun z => hne z.symm)] at ha
      exact r.nw j u a e ha⟩
/-- a slot forgotten -/
theorem Rl.setNone (r : Rl K F0 H0 F σ H ρ) (i : Nat) : Rl K F0 H0 F (σ.set i none) H (ρ.set i none) :=
  ⟨⟨r.rel.sub, by simp [r.rel.len], fun j u hj => by
      rcases get_set hj with ⟨rfl, e, hl⟩ | ⟨hne, e⟩
      · cases e
      · rw [List.getElem?_set_ne (fun z => hne z.symm)]
        exact r.rel.val j u e, fun j u hj => by
      rcases get_set hj with ⟨rfl, e, hl⟩ | ⟨hne, e⟩
      · cases e
      · rw [List.getElem?_set_ne (fun z => hne z.symm)]
        exact r.rel.own j u e, fun j k u w a hjk hj hk h1 => by
      rcases get_set hj with ⟨rfl, e, hl⟩ | ⟨hne, e⟩
      · cases e
      · rcases get_set hk with ⟨rfl, e2, hl⟩ | ⟨hne2, e2⟩
        · cases e2
        · rw [List.getElem?_set_ne (fun z => hne z.symm)] at h1
          rw [List.getElem?_set_ne (fun z => hne2 z.symm)]
          exact r.rel.dis j k u w a hjk e e2 h1⟩, r.ext, fun j u a hj ha => by
    rcases get_set hj with ⟨rfl, e, hl⟩ | ⟨hne, e⟩
    · cases e
    · rw [List.getElem?_set_ne (fun z => hne z.symm)] at ha
      exact r.nw j u a e ha⟩
/-- a new thing that the slot alone holds -/
theorem Rl.setOwn (r : Rl K F0 H0 F σ H ρ) (e : Ext F H F' H') (n : H a = none) (n' : F' a = none) (h : H' a = some o) (c : Cnt K F' o v) (i : Nat) : Rl K F0 H0 F' (σ.set i (some (.ref a))) H' (ρ.set i (some (.own v))) := by
  have r' := r.mono e
  have far : ∀ (j : Nat) u, ρ[j]? = some (some (.own u)) → σ[j]? ≠ some (some (.ref a)) := fun j u hj z => by
    obtain ⟨b, ob, h1, h2, h3, _⟩ := r.rel.own j u hj
    rw [z] at h1
    cases h1
    rw [n] at h3; cases h3
  refine ⟨⟨r'.rel.sub, by simp [r.rel.len], fun j u hj => ?_, fun j u hj => ?_, fun j k u w b hjk hj hk h1 => ?_⟩, r'.ext, fun j u b hj hb => ?_⟩
  · rcases get_set hj with ⟨rfl, e, hl⟩ | ⟨hne, e⟩
    · cases e
    · rw [List.getElem?_set_ne (fun z => hne z.symm)]
      exact r'.rel.val j u e
  · rcases get_set hj with ⟨rfl, e, hl⟩ | ⟨hne, e⟩
    · cases e
      exact ⟨a, o, by rw [List.getElem?_set_self (by rw [r.rel.len]; exact hl)], n', h, c⟩
    · rw [List.getElem?_set_ne (fun z => hne z.symm)]
      exact r'.rel.own j u e
  · rcases get_set hj with ⟨rfl, e, hl⟩ | ⟨hne, e⟩
    · rcases get_set hk with ⟨rfl, e2, hl2⟩ | ⟨hne2, e2⟩
      · exact absurd rfl hjk
      · rw [List.getElem?_set_self (by rw [r.rel.len]; exact hl)] at h1
        cases h1
        rw [List.getElem?_set_ne (fun z => hne2 z.symm)]
        exact far k w e2
    · rw [List.getElem?_set_ne (fun z => hne z.symm)] at h1
      rcases get_set hk with ⟨rfl, e2, hl2⟩ | ⟨hne2, e2⟩
      · rw [List.getElem?_set_self (by rw [r.rel.len]; exact hl2)]
        intro z
        cases z
        exact far j u e h1
      · rw [List.getElem?_set_ne (fun z => hne2 z.symm)]
        exact r.rel.dis j k u w b hjk e e2 h1
  · rcases get_set hj with ⟨rfl, e, hl⟩ | ⟨hne, e⟩
    · rw [List.getElem?_set_self (by rw [r.rel.len]; exact hl)] at hb
      cases hb
      exact r.ext.hh.free n
    · rw [List.getElem?_set_ne (fun z => hne z.symm)] at hb
      exact r.nw j u b e hb
/-- what a slot alone holds, changed -/
theorem Rl.putOwn (r : Rl K F0 H0 F σ H ρ) (hi : ρ[i]? = some (some (.own v))) (ha : σ[i]? = some (some (.ref a))) (hn : F a = none) (c : Cnt K F o' w) : Rl K F0 H0 F σ (upd H a o') (ρ.set i (some (.own w))) := by
  have hl : i < ρ.length := (List.getElem?_eq_some_iff.mp hi).1
  have z0 := r.nw i v a hi ha
  refine ⟨⟨fun b u q => by rw [upd_ne (ne_of_none q hn)]; exact r.rel.sub b u q, by simp [r.rel.len], fun j u hj => ?_, fun j u hj => ?_, fun j k u w b hjk hj hk h1 => ?_⟩, r.ext.put z0 hn, fun j u b hj hb => ?_⟩
  · rcases get_set hj with ⟨rfl, e, hl⟩ | ⟨hne, e⟩
    · cases e
    · exact r.rel.val j u e
  · rcases get_set hj with ⟨rfl, e, hl⟩ | ⟨hne, e⟩
    · cases e
      exact ⟨a, o', ha, hn, upd_same, c⟩
    · obtain ⟨b, ob, h1, h2, h3, h4⟩ := r.rel.own j u e
      have hb : b ≠ a := fun z => by subst z; exact r.rel.dis j i u v b hne e hi h1 ha
      exact ⟨b, ob, h1, h2, by rw [upd_ne hb]; exact h3, h4⟩
  · have hj' : ∃ u', ρ[j]? = some (some (.own u')) := by
      rcases get_set hj with ⟨rfl, e, hl⟩ | ⟨hne, e⟩
      · exact ⟨v, hi⟩
      · exact ⟨u, e⟩
    have hk' : ∃ u', ρ[k]? = some (some (.own u')) := by
      rcases get_set hk with ⟨rfl, e, hl⟩ | ⟨hne, e⟩
      · exact ⟨v, hi⟩
      · exact ⟨w, e⟩
    obtain ⟨u1, q1⟩ := hj'
    obtain ⟨u2, q2⟩ := hk'
    exact r.rel.dis j k u1 u2 b hjk q1 q2 h1
  · rcases get_set hj with ⟨rfl, e, hl⟩ | ⟨hne, e⟩
    · exact r.nw _ v b hi hb
    · exact r.nw j u b e hb
/-- a slot's own thing frozen -/
theorem Rl.frz1 (r : Rl K F0 H0 F σ H ρ) (i : Nat) : ∃ F', Same F F' ∧ Rl K F0 H0 F' σ H (frz1 ρ i) := by
  unfold RL.frz1
  split
  · rename_i v hi
    obtain ⟨a, o, h1, h2, h3, h4⟩ := r.rel.own i v hi
    have s1 : Same F (upd F a o) := same_upd h2
    refine ⟨upd F a o, s1, ⟨⟨fun b u q => ?_, by simp [r.rel.len], fun j u hj => ?_, fun j u hj => ?_, fun j k u w b hjk hj hk hb => ?_⟩, ⟨r.ext.ff.trans s1, r.ext.hh, fun b u q => ?_, fun b u q => ?_⟩, fun j u b hj hb => ?_⟩⟩
    · by_cases hb : b = a
      · subst hb; rw [upd_same] at q; rw [← q]; exact h3
      · rw [upd_ne hb] at q; exact r.rel.sub b u q
    · rcases get_set hj with ⟨rfl, e, hl⟩ | ⟨hne, e⟩
      · cases e
        exact ⟨.ref a, h1, h4.frep h2⟩
      · obtain ⟨x, q1, q2⟩ := r.rel.val j u e
        exact ⟨x, q1, q2.mono s1⟩
    · rcases get_set hj with ⟨rfl, e, hl⟩ | ⟨hne, e⟩
      · cases e
      · obtain ⟨b, ob, q1, q2, q3, q4⟩ := r.rel.own j u e
        have hb : b ≠ a := fun z => by subst z; exact r.rel.dis j i u v b hne e hi q1 h1
        exact ⟨b, ob, q1, by rw [upd_ne hb]; exact q2, q3, q4.mono s1⟩
    · rcases get_set hj with ⟨rfl, e, hl⟩ | ⟨hne, e⟩
      · cases e
      · rcases get_set hk with ⟨rfl, e2, hl⟩ | ⟨hne2, e2⟩
        · cases e2
        · exact r.rel.dis j k u w b hjk e e2 hb
    · by_cases hb : b = a
      · subst hb; rw [upd_same] at q; rw [← q]; exact h3
      · rw [upd_ne hb] at q; exact r.ext.sub b u q
    · by_cases hb : b = a
      · subst hb; exact .inr (r.nw i v b hi h1)
      · rw [upd_ne hb] at q; exact r.ext.new b u q
    · rcases get_set hj with ⟨rfl, e, hl⟩ | ⟨hne, e⟩
      · cases e
      · exact r.nw j u b e hb
  · exact ⟨F, Same.refl F, r⟩
theorem Rl.frzAll : ∀ {l : List Nat} {ρ : Env} {F : Hp}, Rl K F0 H0 F σ H ρ → ∃ F', Same F F' ∧ Rl K F0 H0 F' σ H (frzAll ρ l)
  | [], ρ, F, r => ⟨F, Same.refl F, r⟩
  | i :: l, ρ, F, r => by
    obtain ⟨F1, s1, r1⟩ := r.frz1 i
    obtain ⟨F2, s2, r2⟩ := Rl.frzAll (l := l) r1
    exact ⟨F2, s1.trans s2, r2⟩
/-- a target's store -/
theorem Rl.stored {σ' : L2.St} {ρ' : Env} {sl : List Nat} (r : Rl K F0 H0 F σ H ρ) (h : Rel K F σ' H ρ') (t : TgP sl σ ρ σ' ρ') : Rl K F0 H0 F σ' H ρ' :=
  ⟨h, r.ext, fun j u b hj hb => by
    obtain ⟨q1, q2⟩ := t.own j u hj
    rw [q2] at hb
    exact r.nw j u b q1 hb⟩
end

/-! ### ends -/
section
variable {T : Tab} {X : Cx} {C : Cfg} {W : WX} {σ : L2.St} {ρ : Env} {F0 H0 F H F' H' : Hp} {D : Ends}
def SPo (T : Tab) (X : Cx) (W : WX) (F0 H0 : Hp) (D : Ends) (F : Hp) : SR → Prop
  | .nx ρ' => ∀ σ' F' H', Same F F' → Rl X.K F0 H0 F' σ' H' ρ' → D.nx σ' H'
  | .rt v => ∀ x F' H', Same F F' → Ext F0 H0 F' H' → Frep X.K F' x v → D.rt x H'
  | .ex c p ρ' => ∀ σ' F' H' cls d, Same F F' → Rl X.K F0 H0 F' σ' H' ρ' → Xr T X.K X.mg c p cls d H' → W cls d σ' H'
  | .bad => False
theorem SPo.mono {r : SR} (s : Same F F') (h : SPo T X W F0 H0 D F r) : SPo T X W F0 H0 D F' r := by
  cases r with
  | nx ρ' => exact fun σ2 F2 H2 s2 => h σ2 F2 H2 (s.trans s2)
  | rt v => exact fun x F2 H2 s2 => h x F2 H2 (s.trans s2)
  | ex c p ρ' => exact fun σ2 F2 H2 cls d s2 => h σ2 F2 H2 cls d (s.trans s2)
  | bad => exact h
theorem of_post {β : Type} {r : Res β} {f : β → SR} (rl : Rl X.K F0 H0 F σ H ρ) (h : SPo T X W F0 H0 D F (SR.of ρ r f)) : Post T X W σ F H (fun F' _ b => SPo T X W F0 H0 D F' (f b)) r := by
  cases r with
  | ok b => exact fun F' H' e => SPo.mono e.ff h
  | exc c p => exact fun F' H' cls d e xr => h σ F' H' cls d e.ff (rl.mono e) xr
  | bad => exact h
theorem sopt {a : Type} {o : Option a} {f : a → SR} (h : SPo T X W F0 H0 D F (SR.opt o f)) : ∃ x, o = some x ∧ SPo T X W F0 H0 D F (f x) := by
  cases o with
  | none => exact h.elim
  | some x => exact ⟨x, rfl, h⟩
def tSt (T : Tab) (X : Cx) (C : Cfg) (W : WX) (F0 H0 : Hp) (s : Stm) : TS := fun D σ H => ∃ F ρ, Rl X.K F0 H0 F σ H ρ ∧ SPo T X W F0 H0 D F (exec C ρ s)
def tSts (T : Tab) (X : Cx) (C : Cfg) (W : WX) (F0 H0 : Hp) (l : List Stm) : TS := fun D σ H => ∃ F ρ, Rl X.K F0 H0 F σ H ρ ∧ SPo T X W F0 H0 D F (execs C ρ l)
theorem PS.imp {st : Stmt} {t t' : TS} (h : PS X st t) (hi : ∀ D σ H, t' D σ H → t D σ H) : PS X st t' := ⟨fun pins s σ H D I hw => h.run pins s σ H D I (hi D σ H hw)⟩
theorem PSs.imp {st : List Stmt} {t t' : TS} (h : PSs X st t) (hi : ∀ D σ H, t' D σ H → t D σ H) : PSs X st t' := ⟨fun pins s σ H D I hw => h.run pins s σ H D I (hi D σ H hw)⟩
/-- an expression whose value is frozen -/
theorem F_bind {e : Ex} {f : Vl → SR} {Q : VK} (rl : Rl X.K F0 H0 F σ H ρ) (h : SPo T X W F0 H0 D F (SR.of ρ (evF C ρ e) f))
    (k : ∀ v x F1 H1, Ext F H F1 H1 → Rl X.K F0 H0 F1 σ H1 ρ → Frep X.K F1 x v → SPo T X W F0 H0 D F1 (f v) → Q x H1) : tE T X C W e σ H Q := by
  refine tE_bind rl.rel (of_post rl h) fun r x F1 H1 er e1 rel1 v1 hp => ?_
  obtain ⟨v, q, hp⟩ := opt_post hp
  have w := hp F1 H1 (Ext.refl rel1.sub)
  obtain ⟨b, u⟩ := r
  cases b with
  | true => cases q
  | false => cases q; exact k _ x F1 H1 e1 (rl.mono e1) v1 w
theorem D_bind {e : Ex} {f : RL.D → SR} {Q : VK} (rl : Rl X.K F0 H0 F σ H ρ) (h : SPo T X W F0 H0 D F (SR.of ρ (evD C ρ e) f))
    (k : ∀ d x F1 H1, Ext F H F1 H1 → Rl X.K F0 H0 F1 σ H1 ρ → Dq X.K F1 x d → SPo T X W F0 H0 D F1 (f d) → Q x H1) : tE T X C W e σ H Q := by
  refine tE_bind rl.rel (of_post rl h) fun r x F1 H1 er e1 rel1 v1 hp => ?_
  obtain ⟨v, q, hp⟩ := opt_post hp
  exact k _ x F1 H1 e1 (rl.mono e1) (v1.dp q) (hp F1 H1 (Ext.refl rel1.sub))
theorem R_bind {e : Ex} {f : RL.D → SR} {Q : VK} (rl : Rl X.K F0 H0 F σ H ρ) (h : SPo T X W F0 H0 D F (SR.of ρ (evR C ρ e) f))
    (k : ∀ d x F1 H1, Ext F H F1 H1 → Rl X.K F0 H0 F1 σ H1 ρ → RD X.K F1 H1 x d → SPo T X W F0 H0 D F1 (f d) → Q x H1) : tE T X C W e σ H Q := by
  refine tE_bind rl.rel (of_post rl h) fun r x F1 H1 er e1 rel1 v1 hp => ?_
  obtain ⟨v, q, hp⟩ := opt_post hp
  exact k _ x F1 H1 e1 (rl.mono e1) (v1.rd rel1 q) (hp F1 H1 (Ext.refl rel1.sub))
theorem E_bind {e : Ex} {f : Bool × Vl → SR} {Q : VK} (rl : Rl X.K F0 H0 F σ H ρ) (h : SPo T X W F0 H0 D F (SR.of ρ (ev C ρ e) f))
    (k : ∀ r x F1 H1, Ext F H F1 H1 → Rl X.K F0 H0 F1 σ H1 ρ → VR X.K F1 σ ρ x r → SPo T X W F0 H0 D F1 (f r) → Q x H1) : tE T X C W e σ H Q := by
  have p := of_post rl h
  refine ⟨F, ρ, rl.rel, ?_⟩
  cases e1 : ev C ρ e with
  | ok r => rw [e1] at p; exact fun F1 H1 ex x v => k r x F1 H1 ex (rl.mono ex) v (p F1 H1 ex)
  | exc c q => rw [e1] at p; exact p
  | bad => rw [e1] at p; exact p
theorem T_bind {e : Ex} {f : Bool → SR} {Q : Bool → Hp → Prop} (rl : Rl X.K F0 H0 F σ H ρ) (h : SPo T X W F0 H0 D F (SR.of ρ (evT C ρ e) f))
    (k : ∀ b F1 H1, Ext F H F1 H1 → Rl X.K F0 H0 F1 σ H1 ρ → SPo T X W F0 H0 D F1 (f b) → Q b H1) : tT T X C W e σ H Q := by
  have p := of_post rl h
  refine ⟨F, ρ, rl.rel, ?_⟩
  cases e1 : evT C ρ e with
  | ok r => rw [e1] at p; exact fun F1 H1 ex => k r F1 H1 ex (rl.mono ex) (p F1 H1 ex)
  | exc c q => rw [e1] at p; exact p
  | bad => rw [e1] at p; exact p
theorem As_bind {es : List Ex} {f : List RL.D → SR} {Q : List V → Hp → Prop} (rl : Rl X.K F0 H0 F σ H ρ) (h : SPo T X W F0 H0 D F (SR.of ρ (evs C ρ es) f))
    (k : ∀ ds vs F1 H1, Ext F H F1 H1 → Rl X.K F0 H0 F1 σ H1 ρ → DqAll X.K F1 vs ds → SPo T X W F0 H0 D F1 (f ds) → Q vs H1) : tEs T X C W es σ H Q := by
  have p := of_post rl h
  refine ⟨F, ρ, rl.rel, ?_⟩
  cases e1 : evs C ρ es with
  | ok r => rw [e1] at p; exact fun F1 H1 ex vs v => k r vs F1 H1 ex (rl.mono ex) v (p F1 H1 ex)
  | exc c q => rw [e1] at p; exact p
  | bad => rw [e1] at p; exact p
/-- a new thing -/
theorem N_bind {e : Ex} {f : Vl → SR} {Q : VK} (rl : Rl X.K F0 H0 F σ H ρ) (h : SPo T X W F0 H0 D F (SR.of ρ (evF C ρ e) f)) (hv : ∀ r, ev C ρ e = .ok r → r.1 = false)
    (k : ∀ v p o F1 H1, Ext F H F1 H1 → H p = none → F1 p = none → H1 p = some o → Cnt X.K F1 o v → SPo T X W F0 H0 D F1 (f v) → Q (.ref p) H1) : tN T X C W e σ H Q := by
  have p := of_post rl h
  refine ⟨F, ρ, rl.rel, ?_⟩
  unfold evF at p
  cases e1 : ev C ρ e with
  | ok r =>
    obtain ⟨b, v⟩ := r
    have hb : b = false := hv _ e1
    subst hb
    rw [e1] at p
    exact ⟨v, rfl, fun q o F1 H1 ex n1 n2 h1 c => k v q o F1 H1 ex n1 n2 h1 c (p F1 H1 ex)⟩
  | exc c q => rw [e1] at p; exact p
  | bad => rw [e1] at p; exact p
end
end RL
/-! RLStm2: statements against the text; the plain ones. -/
namespace RL
open PySem PySem.Spec PyProof.Rows L2

/-- a name that the def may store -/
def stoB (sc : Scope) (x : Str) : Bool := locB sc x || celB sc x
/-- not a tuple's display, or one of constants -/
def unpC : Expr → Bool
  | .Tuple vs _ _ => vs.all (foldedForSure 8)
  | _ => true
def isComp : Expr → Bool
  | .ListComp _ _ _ _ => true
  | .SetComp _ _ _ _ => true
  | .DictComp _ _ _ _ _ => true
  | _ => false
def isNoneTest : Expr → Bool
  | _ => false
/-- the suites of this program's except clauses: return d if isinstance(e, A) and not isinstance(e, B) else d2 -/
def chkSuite (T : Tab) (N : List Str) (i : Nat) : List Stm → Scope → List Stmt → Bool
  | [.ret (.ite (.and (.isi (.var j) (.cls a)) (.not (.isi (.var j2) (.cls b)))) (.con d) (.con d2))], sc,
    [.Return (some (.IfExp (.BoolOp .And [.Call (.Name f1 _) [.Name e1 _, .Name A _] [] _, .UnaryOp .Not (.Call (.Name f2 _) [.Name e2 _, .Name B _] [] _) _] _) (.Constant c1 _ _) (.Constant c2 _ _) _)) _] =>
      decide (j = i) && decide (j2 = i) && decide (N[i]? = some e1) && decide (e2 = e1) && locB sc e1 && nmB e1 && decide (f1 = ("isinstance" : Str)) && decide (f2 = ("isinstance" : Str)) && glB sc f1
        && decide (T.cls[a]? = some (some A)) && decide (T.cls[b]? = some (some B)) && glB sc A && glB sc B && nmB A && nmB B && constB d c1 && constB d2 c2
  | _, _, _ => false
def parC (sc : Scope) (xs : List (Str × Pos)) (vs : List Expr) : Bool :=
  (match xs with | (_, p) :: _ => xs.all fun q => q.2.line == p.line | [] => false) && xs.all (fun q => locB sc q.1) && !(vs.any isStar) && !(vs.all (foldedForSure 8)) && !(vs.all (constantsAlone 8))
/-- o.name(..), the receiver a slot's -/
def rcvB (N : List Str) (i : Nat) (sc : Scope) (x : Str) (apos pos : Pos) : Bool := decide (N[i]? = some x) && visB sc x && nmB x && lineB apos pos
mutual
def chkS (T : Tab) (N : List Str) : Stm → Scope → Stmt → Bool
  | .asg i e, sc, .Assign [.Name x _] v _ => decide (N[i]? = some x) && stoB sc x && chkE T N e sc v
  | .new i e, sc, .Assign [.Name x _] v _ => fresh e && decide (N[i]? = some x) && stoB sc x && chkE T N e sc v
  | .unp l e, sc, .Assign [.Tuple ts _ _] v _ => unpC v && chkTgs N sc false l ts && chkE T N e sc v
  | .par [i, j] es, sc, .Assign [.Tuple [.Name x px, .Name y py] _ _] (.Tuple [a, b] _ _) _ =>
      decide (N[i]? = some x) && decide (N[j]? = some y) && decide (i ≠ j) && decide (x ≠ y) && parC sc [(x, px), (y, py)] [a, b] && chkEs T N es sc [a, b]
  | .set i k e, sc, .Assign [.Subscript (.Name x _) kx _] v _ => decide (N[i]? = some x) && visB sc x && nmB x && !isSlice kx && !isComp v && chkE T N k sc kx && chkE T N e sc v
  | .app i e, sc, .Expr (.Call (.Attribute (.Name x _) m apos) [v] [] pos) _ => decide (m = ("append" : Str)) && rcvB N i sc x apos pos && !isStar v && chkE T N e sc v
  | .exp e, sc, .Expr v _ => !isComp v && chkE T N e sc v
  | .ite c a b, sc, .If t x y _ => chkE T N c sc t && chkSs T N a sc x && chkSs T N b sc y
  | .for_ tg k a b body, sc, .For t iter bd [] _ => chkTg N sc false tg t && !isSet iter && srcC sc (chkE T N a sc) (chkE T N b sc) (bNone b) (isMany tg) k iter && chkSs T N body sc bd
  | .whl c body, sc, .While t bd [] _ => chkE T N c sc t && chkSs T N body sc bd
  | .ret e, sc, .Return (some v) _ => chkE T N e sc v
  | .raise c, sc, .Raise (some (.Call (.Name x _) [.Constant (.str _) _ _] [] _)) none _ => decide (c ≠ 1) && decide (T.cls[c]? = some (some x)) && glB sc x && nmB x
  | .try_ body h, sc, .Try bd (h0 :: hs) [] [] _ => chkSs T N body sc bd && chkH T N h sc (h0 :: hs)
  | _, _, _ => false
def chkSs (T : Tab) (N : List Str) : List Stm → Scope → List Stmt → Bool
  | [], _, [] => true
  | s :: ss, sc, l => match s, l with
    | .frz _, l => chkSs T N ss sc l
    | s, a :: as => chkS T N s sc a && chkSs T N ss sc as
    | _, [] => false
  | [], _, _ :: _ => false
def chkH (T : Tab) (N : List Str) : Hs → Scope → List ExceptHandler → Bool
  | .nil, _, [] => true
  | .cons c i su r, sc, .ExceptHandler (some (.Name x _)) (some n) (b0 :: bs) _ :: hs => decide (T.cls[c]? = some (some x)) && glB sc x && nmB x && decide (N[i]? = some n) && locB sc n && chkSuite T N i su sc (b0 :: bs) && chkH T N r sc hs
  | _, _, _ => false
end
end RL
/-! RLStm3: the plain statements. -/
namespace RL
open PySem PySem.Spec PyProof.Rows L2
/-- a def's body, or a try's -/
structure OkS (T : Tab) (N : List Str) (k : Nat) (C : Cfg) (sc : Scope) (X : Cx) (W : WX) : Prop extends Ok T N k C sc X W where
  fn : ∀ x, X.fn x = true
  stk : X.stack = X.env :: X.outer
  frm : X.env.frame = some X.env.locals
  po : PassesOwn (model X.prog X.w) X.A X.env X.xe
  kd : X.env.scope.kind = .function
section
variable {T : Tab} {N : List Str} {k : Nat} {C : Cfg}
def SS (T : Tab) (N : List Str) (k : Nat) (C : Cfg) (s : Stm) : Prop := ∀ (sc : Scope) (X : Cx) (W : WX) (a : Stmt), OkS T N k C sc X W → chkS T N s sc a = true → ∀ F0 H0, PS X a (tSt T X C W F0 H0 s)
def SSs (T : Tab) (N : List Str) (k : Nat) (C : Cfg) (l : List Stm) : Prop := ∀ (sc : Scope) (X : Cx) (W : WX) (as : List Stmt), OkS T N k C sc X W → chkSs T N l sc as = true → ∀ F0 H0, PSs X as (tSts T X C W F0 H0 l)

theorem stoB_ok {sc : Scope} {x : Str} (h : stoB sc x = true) : Loc sc x := by
  unfold stoB at h
  rw [Bool.or_eq_true] at h
  exact h.imp locB_ok celB_ok
theorem bk_fn {env : PySem.Env} (h : env.scope.kind = .function) : env.blockKind = .function := by
  unfold PySem.Env.blockKind
  rw [h]; rfl
theorem sw_no {v : Expr} {x : Str} {p : Pos} {l : Nat} {env : PySem.Env} (h : isComp v = false) : swapsWith v (some (.Name x p)) l env = pure false := by
  cases v <;> first | rfl | cases h
theorem sw_sub {v t : Expr} {l : Nat} {env : PySem.Env} (ht : ∀ x p, t ≠ .Name x p) : swapsWith v (some t) l env = pure false := by
  cases v <;> first | rfl | (cases t <;> first | rfl | exact absurd rfl (ht _ _))
theorem sw_none {v : Expr} {l : Nat} {env : PySem.Env} (h : isComp v = false) : swapsWith v none l env = pure false := by
  cases v <;> first | rfl | cases h
def swB (sc : Scope) (x : Str) (p q : Pos) (s : Scope) : Bool := locB sc x && p.line == q.line && !(s.names.any fun (n, k) => n == x && (k == .local || k == .cell))
theorem sw_lc {e : Expr} {g : List Comprehension} {s : Scope} {q p : Pos} {x : Str} {l : Nat} {env : PySem.Env} (h : env.scope.kind = .function) :
    swapsWith (.ListComp e g s q) (some (.Name x p)) l env = pure (swB env.scope x p q s) := by
  have e1 : swapsWith (.ListComp e g s q) (some (.Name x p)) l env = pure (env.blockKind == .function && env.kindOf x == some .local && p.line == q.line && !(s.names.any fun (n, k) => n == x && (k == .local || k == .cell))) := rfl
  rw [e1, bk_fn h]
  have e2 : (env.kindOf x == some NameKind.local) = locB env.scope x := by
    show (env.scope.names.lookup x == some NameKind.local) = locB env.scope x
    unfold locB
    cases q : env.scope.names.lookup x with
    | none => rfl
    | some kk => cases kk <;> rfl
  rw [e2]
  unfold swB
  rfl
/-- name = e -/
theorem set_plain {e : Ex} {sc : Scope} {X : Cx} {W : WX} {i : Nat} {x : Str} {p pos : Pos} {v : Expr} {te : TE} (ok : OkS T N k C sc X W) (hi : N[i]? = some x) (hx : stoB sc x = true) (hp : PE X v te) (hs : swapsWith v (some (.Name x p)) pos.line X.env = pure false) :
    PS X (.Assign [.Name x p] v pos) (tAsg te (gName i)) :=
  ps_set (by rw [ok.n]; exact ok.nd) (by rw [ok.n]; exact hi) (by rw [ok.toOk.sc]; exact stoB_ok hx) hp hs (.inl (ok.fn x))
theorem tN_imp {X : Cx} {W : WX} {e : Ex} (hv : ∀ (ρ : Env) r, ev C ρ e = .ok r → r.1 = false) : ∀ σ H Q, tE T X C W e σ H Q → tN T X C W e σ H Q := fun σ H Q ⟨F, ρ, rel, hp⟩ => ⟨F, ρ, rel, by
  cases e1 : ev C ρ e with
  | ok r =>
    rw [e1] at hp
    obtain ⟨b, v⟩ := r
    have : b = false := hv ρ _ e1
    subst this
    refine ⟨v, rfl, fun p o F' H' ex hn fn hs c => ?_⟩
    have ex2 : Ext F H (upd F' p o) H' := ⟨ex.ff.trans (same_upd fn), ex.hh, fun b u q => by
      by_cases hb : b = p
      · subst hb; rw [upd_same] at q; rw [← q]; exact hs
      · rw [upd_ne hb] at q; exact ex.sub b u q, fun b u q => by
      by_cases hb : b = p
      · subst hb; exact .inr hn
      · rw [upd_ne hb] at q; exact ex.new b u q⟩
    exact hp _ _ ex2 (.ref p) (c.frep fn)
  | exc c p => rw [e1] at hp; exact hp
  | bad => rw [e1] at hp; exact hp⟩
/-- name = [..] on one line -/
theorem set_cpr {own : List Nat} {tg : Tg} {kk : Sk} {a b elt : Ex} {sc : Scope} {X : Cx} {W : WX} {i : Nat} {y : Str} {py spos : Pos} {v : Expr} (ok : OkS T N k C sc X W) (hy : N[i]? = some y) (hyl : locB sc y = true)
    (h : chkE T N (.cpr own tg kk a b elt) sc v = true) (hsw : swapsWith v (some (.Name y py)) spos.line X.env = pure true) : PS X (.Assign [.Name y py] v spos) (tAsg (tN T X C W (.cpr own tg kk a b elt)) (gName i)) := by
  obtain ⟨e, t, iter, scope, p, he0, h0⟩ := chk_cpr h
  clear h; subst he0; have h := h0
  simp only [Bool.and_eq_true, Bool.not_eq_true'] at h
  obtain ⟨⟨⟨⟨⟨h1, h2⟩, h3⟩, h4⟩, h5⟩, h6⟩ := h
  obtain ⟨pi, hz⟩ := src_ok (tg := t) ok.toOk (sound a).1 (sound b).1 h5 (tg_many h2)
  have P := ps_setLc (i := i) (own := ownP N own) (scope := scope) (g := tG X tg) (tt := tYes) (te := tE T X C W0 elt) ok.calm (by rw [ok.n]; exact ok.nd) (by rw [ok.n]; exact hy) (by rw [ok.toOk.sc]; exact locB_ok hyl) hsw pi (blkOk_by (by rw [ok.n, ok.toOk.sc]; exact h1))
    (fun s H A cl fp => pg_ok (X := X.blk s H scope (compEnvC scope cl A X.env) fp) ok.n ok.nd (ok.toOk.blk s H A cl fp).sc ok.calm (fun z => by cases z) tg t h2) (fun s H A cl fp => pts_nil)
    (fun s H A cl fp => (sound elt).1 _ _ _ e (ok.toOk.blk s H A cl fp) h6) (fold_ix h4)
  rw [own_map] at P
  exact PS.imp P fun D σ H ⟨F, ρ, rel, hp⟩ => lc_read (cnd := fun _ => .ok true) ok.toOk h3 hz (fun F H σ ρ bb Q rel e1 q => by cases e1; exact q F H (Ext.refl rel.sub)) rel hp
theorem set_cpi {own : List Nat} {tg : Tg} {kk : Sk} {a b c elt : Ex} {sc : Scope} {X : Cx} {W : WX} {i : Nat} {y : Str} {py spos : Pos} {v : Expr} (ok : OkS T N k C sc X W) (hy : N[i]? = some y) (hyl : locB sc y = true)
    (h : chkE T N (.cpi own tg kk a b c elt) sc v = true) (hsw : swapsWith v (some (.Name y py)) spos.line X.env = pure true) : PS X (.Assign [.Name y py] v spos) (tAsg (tN T X C W (.cpi own tg kk a b c elt)) (gName i)) := by
  obtain ⟨e, t, iter, cx, scope, p, he0, h0⟩ := chk_cpi h
  clear h; subst he0; have h := h0
  simp only [Bool.and_eq_true, Bool.not_eq_true'] at h
  obtain ⟨⟨⟨⟨⟨⟨h1, h2⟩, h3⟩, h4⟩, h5⟩, h6⟩, h7⟩ := h
  obtain ⟨pi, hz⟩ := src_ok (tg := t) ok.toOk (sound a).1 (sound b).1 h5 (tg_many h2)
  have P := ps_setLc (i := i) (own := ownP N own) (scope := scope) (g := tG X tg) (tt := tT T X C W0 c) (te := tE T X C W0 elt) ok.calm (by rw [ok.n]; exact ok.nd) (by rw [ok.n]; exact hy) (by rw [ok.toOk.sc]; exact locB_ok hyl) hsw pi (blkOk_by (by rw [ok.n, ok.toOk.sc]; exact h1))
    (fun s H A cl fp => pg_ok (X := X.blk s H scope (compEnvC scope cl A X.env) fp) ok.n ok.nd (ok.toOk.blk s H A cl fp).sc ok.calm (fun z => by cases z) tg t h2) (fun s H A cl fp => pts_one ((sound c).2 _ _ _ cx (ok.toOk.blk s H A cl fp) h7))
    (fun s H A cl fp => (sound elt).1 _ _ _ e (ok.toOk.blk s H A cl fp) h6) (fold_ix h4)
  rw [own_map] at P
  refine PS.imp P fun D σ H ⟨F, ρ, rel, hp⟩ => lc_read (cnd := fun m => evT C m c) ok.toOk h3 hz (fun F H σ ρ bb Q rel e1 q => ⟨F, ρ, rel, ?_⟩) rel hp
  rw [show evT C ρ c = .ok bb from e1]
  exact q
theorem comp_is {e : Ex} {sc : Scope} {v : Expr} (h : chkE T N e sc v = true) (hc : isComp v = true) : (∃ el g s q, v = .ListComp el g s q) ∧ ((∃ own tg kk a b elt, e = .cpr own tg kk a b elt) ∨ ∃ own tg kk a b c elt, e = .cpi own tg kk a b c elt) := by
  unfold chkE at h
  split at h <;> first | exact no h | exact no hc | skip
  · exact ⟨⟨_, _, _, _, rfl⟩, .inl ⟨_, _, _, _, _, _, rfl⟩⟩
  · exact ⟨⟨_, _, _, _, rfl⟩, .inr ⟨_, _, _, _, _, _, _, rfl⟩⟩
theorem fresh_ok {e : Ex} (h : fresh e = true) (ρ : Env) (r : Bool × Vl) (hr : ev C ρ e = .ok r) : r.1 = false := by
  cases e with
  | lst es =>
    obtain ⟨x, _, h⟩ := res_bind_ok hr
    obtain ⟨y, _, h⟩ := opt_ok h
    cases h; rfl
  | dc0 => cases hr; rfl
  | dc1 a b =>
    obtain ⟨x, _, h⟩ := res_bind_ok hr
    obtain ⟨y, _, h⟩ := res_bind_ok h
    obtain ⟨k1, _, h⟩ := opt_ok h
    obtain ⟨k2, _, h⟩ := opt_ok h
    obtain ⟨k3, _, h⟩ := opt_ok h
    cases h; rfl
  | cpr own tg kk a b elt => exact frz_cp hr
  | cpi own tg kk a b c elt => exact frz_cp hr
  | fn1 f a =>
    obtain ⟨x, _, h⟩ := res_bind_ok hr
    obtain ⟨y, _, h⟩ := opt_ok h
    cases h; rfl
  | _ => exact no h
/-- name = e, by any road -/
theorem set_new {e : Ex} {sc : Scope} {X : Cx} {W : WX} {i : Nat} {x : Str} {p pos : Pos} {v : Expr} (ok : OkS T N k C sc X W) (hf : fresh e = true) (hi : N[i]? = some x) (hx : stoB sc x = true) (h : chkE T N e sc v = true) :
    PS X (.Assign [.Name x p] v pos) (tAsg (tN T X C W e) (gName i)) := by
  cases hc : isComp v with
  | false => exact set_plain (e := e) ok hi hx (soundN e hf sc X W v ok.toOk h) (sw_no hc)
  | true =>
    obtain ⟨⟨el, g, s, q, rfl⟩, hw⟩ := comp_is h hc
    have hs := sw_lc (e := el) (g := g) (s := s) (q := q) (p := p) (x := x) (l := pos.line) (env := X.env) ok.kd
    cases hb : swB X.env.scope x p q s with
    | false => rw [hb] at hs; exact set_plain (e := e) ok hi hx (soundN e hf sc X W _ ok.toOk h) hs
    | true =>
      rw [hb] at hs
      have hl : locB sc x = true := by
        unfold swB at hb
        simp only [Bool.and_eq_true] at hb
        rw [← ok.toOk.sc]; exact hb.1.1
      rcases hw with ⟨own, tg, kk, a, b, elt, rfl⟩ | ⟨own, tg, kk, a, b, c, elt, rfl⟩
      · exact set_cpr ok hi hl h hs
      · exact set_cpi ok hi hl h hs
theorem set_any {e : Ex} {sc : Scope} {X : Cx} {W : WX} {i : Nat} {x : Str} {p pos : Pos} {v : Expr} (ok : OkS T N k C sc X W) (hi : N[i]? = some x) (hx : stoB sc x = true) (h : chkE T N e sc v = true) :
    PS X (.Assign [.Name x p] v pos) (tAsg (tE T X C W e) (gName i)) := by
  cases hc : isComp v with
  | false => exact set_plain (e := e) ok hi hx ((sound e).1 sc X W v ok.toOk h) (sw_no hc)
  | true =>
    obtain ⟨_, hw⟩ := comp_is h hc
    have hf : fresh e = true := by
      rcases hw with ⟨own, tg, kk, a, b, elt, rfl⟩ | ⟨own, tg, kk, a, b, c, elt, rfl⟩ <;> rfl
    exact PS.imp (set_new ok hf hi hx h) fun D σ H q => tN_imp (fun ρ r hr => fresh_ok hf ρ r hr) σ H _ q

theorem inv_asg {i : Nat} {e : Ex} {sc : Scope} {st : Stmt} (h : chkS T N (.asg i e) sc st = true) : ∃ x p v pos, st = .Assign [.Name x p] v pos ∧ (decide (N[i]? = some x) && stoB sc x && chkE T N e sc v) = true := by
  unfold chkS at h
  split at h <;> first | exact no h | skip
  all_goals first | contradiction | (injections; subst_vars; exact ⟨_, _, _, _, rfl, h⟩)
theorem ss_asg {i : Nat} {e : Ex} : SS T N k C (.asg i e) := by
  intro sc X W st ok h F0 H0
  obtain ⟨x, p, v, pos, he, h'⟩ := inv_asg h
  subst he
  simp only [Bool.and_eq_true, decide_eq_true_eq] at h'
  refine PS.imp (set_any ok h'.1.1 h'.1.2 h'.2) fun D σ H ⟨F, ρ, rl, hp⟩ => ?_
  refine F_bind rl hp fun u x F1 H1 ex rl1 fr hq => ?_
  exact hq _ F1 H1 (Same.refl _) (rl1.setVal fr i)
theorem inv_new {i : Nat} {e : Ex} {sc : Scope} {st : Stmt} (h : chkS T N (.new i e) sc st = true) : ∃ x p v pos, st = .Assign [.Name x p] v pos ∧ (fresh e && decide (N[i]? = some x) && stoB sc x && chkE T N e sc v) = true := by
  unfold chkS at h
  split at h <;> first | exact no h | skip
  all_goals first | contradiction | (injections; subst_vars; exact ⟨_, _, _, _, rfl, h⟩)
theorem ss_new {i : Nat} {e : Ex} : SS T N k C (.new i e) := by
  intro sc X W st ok h F0 H0
  obtain ⟨x, p, v, pos, he, h'⟩ := inv_new h
  subst he
  simp only [Bool.and_eq_true, decide_eq_true_eq] at h'
  obtain ⟨⟨⟨h1, h2⟩, h3⟩, h4⟩ := h'
  refine PS.imp (set_new ok h1 h2 h3 h4) fun D σ H ⟨F, ρ, rl, hp⟩ => ?_
  obtain ⟨_, _, hp⟩ := sopt hp
  refine N_bind rl hp (fun r hr => fresh_ok h1 ρ r hr) fun v p o F1 H1 ex n1 n2 h5 c hq => ?_
  exact hq _ F1 H1 (Same.refl _) (rl.setOwn ex n1 n2 h5 c i)
theorem inv_ret {e : Ex} {sc : Scope} {st : Stmt} (h : chkS T N (.ret e) sc st = true) : ∃ v pos, st = .Return (some v) pos ∧ (chkE T N e sc v) = true := by
  unfold chkS at h
  split at h <;> first | exact no h | skip
  all_goals first | contradiction | (injections; subst_vars; exact ⟨_, _, rfl, h⟩)
theorem ss_ret {e : Ex} : SS T N k C (.ret e) := by
  intro sc X W st ok h F0 H0
  obtain ⟨v, pos, he, h'⟩ := inv_ret h
  subst he
  refine PS.imp (ps_ret ((sound e).1 sc X W v ok.toOk h')) fun D σ H ⟨F, ρ, rl, hp⟩ => ?_
  exact F_bind rl hp fun u x F1 H1 ex rl1 fr hq => hq x F1 H1 (Same.refl _) rl1.ext fr
theorem inv_exp {e : Ex} {sc : Scope} {st : Stmt} (h : chkS T N (.exp e) sc st = true) : ∃ v pos, st = .Expr v pos ∧ (!isComp v && chkE T N e sc v) = true := by
  unfold chkS at h
  split at h <;> first | exact no h | skip
  all_goals first | contradiction | (injections; subst_vars; exact ⟨_, _, rfl, h⟩)
theorem ss_exp {e : Ex} : SS T N k C (.exp e) := by
  intro sc X W st ok h F0 H0
  obtain ⟨v, pos, he, h'⟩ := inv_exp h
  subst he
  simp only [Bool.and_eq_true, Bool.not_eq_true'] at h'
  refine PS.imp (ps_expr ((sound e).1 sc X W v ok.toOk h'.2) (sw_none h'.1)) fun D σ H ⟨F, ρ, rl, hp⟩ => ?_
  exact E_bind rl hp fun r x F1 H1 ex rl1 vr hq => hq σ F1 H1 (Same.refl _) rl1
theorem inv_ite {c : Ex} {a b : List Stm} {sc : Scope} {st : Stmt} (h : chkS T N (.ite c a b) sc st = true) : ∃ t x y pos, st = .If t x y pos ∧ (chkE T N c sc t && chkSs T N a sc x && chkSs T N b sc y) = true := by
  unfold chkS at h
  split at h <;> first | exact no h | skip
  all_goals first | contradiction | (injections; subst_vars; exact ⟨_, _, _, _, rfl, h⟩)
theorem ss_ite {c : Ex} {a b : List Stm} (ha : SSs T N k C a) (hb : SSs T N k C b) : SS T N k C (.ite c a b) := by
  intro sc X W st ok h F0 H0
  obtain ⟨t, x, y, pos, he, h'⟩ := inv_ite h
  subst he
  simp only [Bool.and_eq_true] at h'
  refine PS.imp (ps_if ((sound c).2 sc X W t ok.toOk h'.1.1) (ha sc X W x ok h'.1.2 F0 H0) (hb sc X W y ok h'.2 F0 H0)) fun D σ H ⟨F, ρ, rl, hp⟩ => ?_
  refine T_bind rl hp fun z F1 H1 ex rl1 hq => ?_
  cases z with
  | true => exact iteT ⟨F1, ρ, rl1, hq⟩
  | false => exact iteF ⟨F1, ρ, rl1, hq⟩
theorem inv_raise {c : Nat} {sc : Scope} {st : Stmt} (h : chkS T N (.raise c) sc st = true) : ∃ x p m j p2 p3 pos, st = .Raise (some (.Call (.Name x p) [.Constant (.str m) j p2] [] p3)) none pos ∧ (decide (c ≠ 1) && decide (T.cls[c]? = some (some x)) && glB sc x && nmB x) = true := by
  unfold chkS at h
  split at h <;> first | exact no h | skip
  all_goals first | contradiction | (injections; subst_vars; exact ⟨_, _, _, _, _, _, _, rfl, h⟩)
theorem raises_cls {X : Cx} {a : Addr} {own : Bool} (h : ClsK X.K a own) : Raises X (.ref a) := raises_own h.exc.hs h.ty
theorem ss_raise {c : Nat} : SS T N k C (.raise c) := by
  intro sc X W st ok h F0 H0
  obtain ⟨x, p, m, j, p2, p3, pos, he, h'⟩ := inv_raise h
  subst he
  simp only [Bool.and_eq_true, decide_eq_true_eq] at h'
  obtain ⟨⟨⟨hc, h1⟩, h2⟩, h3⟩ := h'
  obtain ⟨a, m1, m2⟩ := ok.wd.cls c x h1
  obtain ⟨n1, _, _⟩ := nmB_ok h3
  refine PS.imp (L2.ps_raise ok.calm ok.tk (L2.pmk_own PySem.F.excBase_ValueError (m2.raw (by simp [hc])) m1 m2.kp (raises_cls m2) (glB_ok ok.toOk.sc h2) n1)) fun D σ H ⟨F, ρ, rl, hp⟩ => ?_
  exact hp σ F H _ _ (Same.refl _) rl ⟨x, a, h1, m1, rfl, rfl⟩
theorem inv_app {i : Nat} {e : Ex} {sc : Scope} {st : Stmt} (h : chkS T N (.app i e) sc st = true) : ∃ x p m apos v pos q, st = .Expr (.Call (.Attribute (.Name x p) m apos) [v] [] pos) q ∧ (decide (m = ("append" : Str)) && rcvB N i sc x apos pos && !isStar v && chkE T N e sc v) = true := by
  unfold chkS at h
  split at h <;> first | exact no h | skip
  all_goals first | contradiction | (injections; subst_vars; exact ⟨_, _, _, _, _, _, _, rfl, h⟩)
theorem pe_slot {X : Cx} {sc : Scope} {W : WX} {i : Nat} {x : Str} {p : Pos} (ok : Ok T N k C sc X W) (h1 : N[i]? = some x) (h2 : visB sc x = true) (h3 : nmB x = true) : PE X (.Name x p) (fun σ H Q => ∃ v, σ[i]? = some (some v) ∧ Q v H) := by
  obtain ⟨n1, n2, _⟩ := nmB_ok h3
  exact pe_var (i := i) (by rw [ok.n]; exact h1) (by rw [ok.sc]; exact visB_ok h2) n1 n2
theorem ownL_at {K : W.Frag} {F0 H0 F H : Hp} {σ : L2.St} {ρ : Env} {i : Nat} {xs : List D} (rl : Rl K F0 H0 F σ H ρ) (h : ownL ρ i = some xs) :
    ∃ a vs, ρ[i]? = some (some (.own (.dat (.list xs)))) ∧ σ[i]? = some (some (.ref a)) ∧ F a = none ∧ H a = some (.lst vs) ∧ DqAll K F vs xs := by
  unfold ownL at h
  split at h
  · rename_i ys e
    cases h
    obtain ⟨a, o, h1, h2, h3, h4⟩ := rl.rel.own i _ e
    cases o with
    | lst vs => exact ⟨a, vs, e, h1, h2, h3, h4⟩
    | _ => exact h4.elim
  · cases h
theorem ss_app {i : Nat} {e : Ex} : SS T N k C (.app i e) := by
  intro sc X W st ok h F0 H0
  obtain ⟨x, p, m, apos, v, pos, q, he, h'⟩ := inv_app h
  subst he
  unfold rcvB at h'
  simp only [Bool.and_eq_true, decide_eq_true_eq, Bool.not_eq_true'] at h'
  obtain ⟨⟨⟨rfl, ⟨⟨h1, h2⟩, h3⟩, h4⟩, h5⟩, h6⟩ := h'
  have P := pe_bm (cpos := pos) (apos := apos) PySem.F.plainAttrs_list PySem.slot_list_append PySem.F.type_list_append mt_append (pe_slot (p := p) ok.toOk h1 h2 h3) (pa_cons ((sound e).1 sc X W v ok.toOk h6) pa_nil (star_cons h5)) rfl (by rw [star_cons h5]; rfl) h4 (star_cons h5)
  refine PS.imp (ps_expr P rfl) fun D σ H ⟨F, ρ, rl, hp⟩ => ?_
  obtain ⟨xs, hx, hp⟩ := sopt hp
  obtain ⟨a, vs, e1, e2, e3, e4, e5⟩ := ownL_at rl hx
  refine ⟨.ref a, e2, .inl ⟨rfl, vs, .inl (Rd.of e4)⟩, ?_⟩
  refine D_bind rl hp fun d y F1 H1 ex rl1 hd hq => ?_
  obtain ⟨w, g, hq⟩ := sopt hq
  obtain ⟨g1, g2⟩ := grd_ok g
  cases ok_inj g2
  have e6 : vs.length = xs.length := e5.length
  have z := szOk_le g1
  refine ⟨a, vs, y, rfl, rfl, ex.hh _ _ e4, by rw [e6]; omega, ?_⟩
  exact hq σ F1 _ (Same.refl _) (rl1.putOwn e1 e2 (ex.not e3 e4) (show Cnt X.K F1 (.lst (vs ++ [y])) (.dat (.list (xs ++ [d]))) from (DqAll.mono ex.ff _ _ e5).snoc hd))
end
end RL
/-! RLStm4: item stores, unpacking, loops. -/
namespace RL
open PySem PySem.Spec PyProof.Rows L2
section
variable {T : Tab} {N : List Str} {k : Nat} {C : Cfg}
theorem set_both {X : Cx} (hu : X.A.units + 1 < cLine) : PSet X (fun o i v H Q => rSetL o i v H Q ∨ ∃ a H4, o = .ref a ∧ DPut H a i v H4 ∧ Q H4) := by
  intro pins s σ H o i v ov iv u Q I ro ri rv h
  rcases h with h | ⟨a, H4, rfl, g, q⟩
  · exact set_list pins s σ H o i v ov iv u Q I ro ri rv h
  · obtain rfl : ov = Value.ref a := ro
    exact d_setItem hu I g ri rv fun s4 I4 => ⟨H4, I4, q⟩
theorem put_any {K : W.Frag} {F : Hp} {k : Int} : ∀ {ks : List (Key × V)} {kvs : List (Int × D)}, Paired (fun (p : Key × V) (q : Int × D) => p.1 = Sum.inl q.1 ∧ Dq K F p.2 q.2) ks kvs →
    (ks.any fun kv => decide (kv.1 = Sum.inl k)) = (kvs.any fun p => decide (p.1 = k))
  | _, _, .nil => rfl
  | _, _, .cons (a := a) (b := b) r t => by
    rw [List.any_cons, List.any_cons, put_any t, r.1]
    congr 1
    simp
theorem put_map {K : W.Frag} {F : Hp} {k : Int} {v : V} {d : D} (hv : Dq K F v d) : ∀ {ks : List (Key × V)} {kvs : List (Int × D)}, Paired (fun (p : Key × V) (q : Int × D) => p.1 = Sum.inl q.1 ∧ Dq K F p.2 q.2) ks kvs →
    Paired (fun (p : Key × V) (q : Int × D) => p.1 = Sum.inl q.1 ∧ Dq K F p.2 q.2) (ks.map fun kv => if kv.1 = Sum.inl k then (kv.1, v) else kv) (kvs.map fun p => if p.1 = k then (p.1, d) else p)
  | _, _, .nil => .nil
  | _, _, .cons (a := a) (b := b) r t => by
    rw [List.map_cons, List.map_cons]
    refine .cons ?_ (put_map hv t)
    obtain ⟨r1, r2⟩ := r
    by_cases e : b.1 = k
    · have e' : a.1 = Sum.inl k := by rw [r1, e]
      rw [if_pos e, if_pos e']; exact ⟨r1, hv⟩
    · have e' : ¬ a.1 = Sum.inl k := by rw [r1]; intro z; exact e (Sum.inl.inj z)
      rw [if_neg e, if_neg e']; exact ⟨r1, r2⟩
theorem paired_snoc {α β : Type} {P : α → β → Prop} {a : α} {b : β} (h : P a b) : ∀ {l : List α} {m : List β}, Paired P l m → Paired P (l ++ [a]) (m ++ [b])
  | _, _, .nil => .cons h .nil
  | _, _, .cons r t => .cons r (paired_snoc h t)
theorem put_ok {K : W.Frag} {F : Hp} {k : Int} {v : V} {d : D} {ks : List (Key × V)} {kvs : List (Int × D)} (hv : Dq K F v d) (h : Paired (fun (p : Key × V) (q : Int × D) => p.1 = Sum.inl q.1 ∧ Dq K F p.2 q.2) ks kvs) :
    Paired (fun (p : Key × V) (q : Int × D) => p.1 = Sum.inl q.1 ∧ Dq K F p.2 q.2) (putK ks (Sum.inl k) v) (putI k d kvs) := by
  unfold putK putI
  rw [put_any h]
  split
  · exact put_map hv h
  · exact paired_snoc ⟨rfl, hv⟩ h
theorem paired_len {α β : Type} {P : α → β → Prop} : ∀ {l : List α} {m : List β}, Paired P l m → l.length = m.length
  | _, _, .nil => rfl
  | _, _, .cons _ t => by simp [paired_len t]
theorem inv_set {i : Nat} {kx e : Ex} {sc : Scope} {st : Stmt} (h : chkS T N (.set i kx e) sc st = true) : ∃ x p y p2 v pos, st = .Assign [.Subscript (.Name x p) y p2] v pos ∧ (decide (N[i]? = some x) && visB sc x && nmB x && !isSlice y && !isComp v && chkE T N kx sc y && chkE T N e sc v) = true := by
  unfold chkS at h
  split at h <;> first | exact no h | skip
  all_goals first | contradiction | (injections; subst_vars; exact ⟨_, _, _, _, _, _, rfl, h⟩)
theorem ss_set {i : Nat} {kx e : Ex} : SS T N k C (.set i kx e) := by
  intro sc X W st ok h F0 H0
  obtain ⟨x, p, y, p2, v, pos, he, h'⟩ := inv_set h
  subst he
  simp only [Bool.and_eq_true, decide_eq_true_eq, Bool.not_eq_true'] at h'
  obtain ⟨⟨⟨⟨⟨⟨h1, h2⟩, h3⟩, h4⟩, h5⟩, h6⟩, h7⟩ := h'
  have G := pg_sub (pos := p2) (pe_slot (p := p) ok.toOk h1 h2 h3) ((sound kx).1 sc X W y ok.toOk h6) (set_both (by have := ok.toOk.hu; omega)) (by intro u; cases y <;> first | rfl | cases h4)
  refine PS.imp (ps_asg ((sound e).1 sc X W v ok.toOk h7) G (by unfold swapsWithSole; exact sw_sub (by intro _ _ z; cases z)) (by cases v <;> rfl) rfl) fun D σ H ⟨F, ρ, rl, hp⟩ => ?_
  obtain ⟨w, hw, hp⟩ := sopt hp
  have hw' : ρ[i]? = some (some (.own w)) := by
    unfold ownAt at hw
    split at hw
    · rename_i z e; cases hw; exact e
    · cases hw
  obtain ⟨a, o, e2, e3, e4, e5⟩ := rl.rel.own i w hw'
  refine D_bind rl hp fun d u F1 H1 ex rl1 hd hq => ?_
  refine ⟨.ref a, e2, ?_⟩
  refine R_bind rl1 hq fun dk z F2 H2 ex2 rl2 hk hq => ?_
  obtain ⟨w2, g, hq⟩ := sopt hq
  have exx := ex.trans ex2
  have n2 := exx.not e3 e4
  have hd2 := Dq.mono ex2.ff _ _ hd
  have fin : ∀ o2, Cnt X.K F2 o2 w2 → D.nx σ (upd H2 a o2) := fun o2 c => hq σ F2 _ (Same.refl _) (rl2.putOwn hw' e2 n2 c)
  have e5' := e5.mono exx.ff
  have e4' := exx.hh _ _ e4
  cases w with
  | dat dd =>
    cases o with
    | lst vs =>
      cases dd with
      | list xs =>
        cases dk with
        | int kk =>
          obtain ⟨j, g1, g2⟩ := bind_ok g
          cases ok_inj g2
          have := hk.int
          subst this
          refine .inl ⟨a, vs, kk, j, rfl, rfl, e4', ?_, fin _ (DqAll.set j e5' hd2)⟩
          rw [show vs.length = xs.length from DqAll.length e5']; exact g1
        | _ => cases g
      | _ => exact e5.elim
    | _ => exact e5.elim
  | dI kvs =>
    cases o with
    | dK ks =>
      cases dk with
      | int kk =>
        obtain ⟨g1, g2⟩ := grd_ok g
        cases ok_inj g2
        have := hk.int
        subst this
        have l1 := paired_len e5'
        have l2 := szOk_le g1
        exact .inr ⟨a, _, rfl, DPut.k (k := Sum.inl kk) e4' (by omega), fin _ (put_ok hd2 e5')⟩
      | _ => cases g
    | _ => exact e5.elim
  | dT kvs => cases o <;> exact e5.elim
  | exn _ _ => cases o <;> exact e5.elim
end
end RL
/-! RLStm5: unpacking, loops, lists of statements. -/
namespace RL
open PySem PySem.Spec PyProof.Rows L2
section
variable {T : Tab} {N : List Str} {k : Nat} {C : Cfg}

theorem inv_unp {l : List Tg} {e : Ex} {sc : Scope} {st : Stmt} (h : chkS T N (.unp l e) sc st = true) : ∃ ts kt pt v pos, st = .Assign [.Tuple ts kt pt] v pos ∧ (unpC v && chkTgs N sc false l ts && chkE T N e sc v) = true := by
  unfold chkS at h
  split at h <;> first | exact no h | skip
  all_goals first | contradiction | (injections; subst_vars; exact ⟨_, _, _, _, _, rfl, h⟩)
theorem inv_par {l : List Nat} {es : List Ex} {sc : Scope} {st : Stmt} (h : chkS T N (.par l es) sc st = true) : ∃ i j x px y py kt pt a b k2 pt2 pos, st = .Assign [.Tuple [.Name x px, .Name y py] kt pt] (.Tuple [a, b] k2 pt2) pos ∧ l = [i, j] ∧
    (decide (N[i]? = some x) && decide (N[j]? = some y) && decide (i ≠ j) && decide (x ≠ y) && parC sc [(x, px), (y, py)] [a, b] && chkEs T N es sc [a, b]) = true := by
  unfold chkS at h
  split at h <;> first | exact no h | skip
  all_goals first | contradiction | (injections; subst_vars; exact ⟨_, _, _, _, _, _, _, _, _, _, _, _, _, rfl, rfl, h⟩)
theorem locB_eq {env : PySem.Env} {x : Str} (h : locB env.scope x = true) : env.kindOf x = some .local := locB_ok h
theorem par_sw {X : Cx} {x y : Str} {px py : Pos} {a b : Expr} {kt k2} {pt pt2 : Pos} (hk : X.env.scope.kind = .function) (hxy : x ≠ y) (h : parC X.env.scope [(x, px), (y, py)] [a, b] = true) :
    swappedStores [.Tuple [.Name x px, .Name y py] kt pt] (.Tuple [a, b] k2 pt2) X.env = pure (some [x, y]) := by
  unfold parC at h
  simp only [Bool.and_eq_true, List.all_cons, List.all_nil, Bool.and_true, Bool.not_eq_true', beq_iff_eq] at h
  obtain ⟨⟨⟨⟨⟨h1, h1'⟩, h2, h3⟩, h4⟩, h5⟩, h6⟩ := h
  have l1 := locB_eq h2
  have l2 := locB_eq h3
  have s1 : ([a, b].any fun | .Starred .. => true | _ => false) = false := by
    have : ([a, b].any isStar) = false := h4
    simp only [List.any_cons, List.any_nil, Bool.or_false, Bool.or_eq_false_iff] at this ⊢
    constructor
    · cases a <;> first | rfl | exact this.1
    · cases b <;> first | rfl | exact this.2
  have n1 : ((x == y) = false) := by simpa using hxy
  have n2 : ((y == x) = false) := by simpa using fun z => hxy z.symm
  have b1 := bk_fn hk
  unfold swappedStores
  dsimp only
  rw [b1]
  rw [if_neg (by simp)]
  rw [if_neg (by intro z; exact Bool.false_ne_true (s1.symm.trans z))]
  have f1 : ([Expr.Name x px, Expr.Name y py].filterMap fun
    | .Name id pos => if (X.env.kindOf id == some .local && pos.line == (([Expr.Name x px, Expr.Name y py].head?.map (·.pos.line)).getD 0)) = true then some id else none
    | _ => none) = [x, y] := by
    have e1 : ([Expr.Name x px, Expr.Name y py].head?.map (·.pos.line)).getD 0 = px.line := rfl
    rw [e1]
    simp only [List.filterMap_cons, l1, l2, List.filterMap_nil]
    simp [h1']
  have key : ∀ nm : List Str, nm = [x, y] → (if (nm.length != [Expr.Name x px, Expr.Name y py].length || nm.eraseDups.length != nm.length) = true then (pure none : Sem (Option (List Str))) else
      if [a, b].all (foldedForSure 8) = true then pure none else
        if [a, b].all (constantsAlone 8) = true then do
          let _ ← (unsupported "assign.tuple-of-constant-expressions:order-of-the-stores" : Sem PUnit)
          pure (some nm)
        else pure (some nm)) = pure (some [x, y]) := by
    rintro nm rfl
    have d1 : [x, y].eraseDups = [x, y] := by
      simp [List.eraseDups_cons, n2]
    rw [if_neg (by rw [d1]; simp), if_neg (by simpa using h5), if_neg (by simpa using h6)]
  exact key _ f1
theorem ss_par {l : List Nat} {es : List Ex} : SS T N k C (.par l es) := by
  intro sc X W st ok h F0 H0
  obtain ⟨i, j, x, px, y, py, kt, pt, a, b, k2, pt2, pos, he, hl, h'⟩ := inv_par h
  subst he hl
  simp only [Bool.and_eq_true, decide_eq_true_eq] at h'
  obtain ⟨⟨⟨⟨⟨h1, h2⟩, h3⟩, hxy⟩, h4⟩, h5⟩ := h'
  have hp := h4
  unfold parC at hp
  simp only [Bool.and_eq_true, List.all_cons, List.all_nil, Bool.and_true] at hp
  refine PS.imp (ps_par (kt := kt) (pt := pt) (k2 := k2) (pt2 := pt2) (pos := pos) ok.calm (by rw [ok.n]; exact ok.nd) (by rw [ok.n]; exact h1) (by rw [ok.n]; exact h2) h3 (by rw [ok.toOk.sc]; exact locB_ok hp.1.1.1.2.1) (by rw [ok.toOk.sc]; exact locB_ok hp.1.1.1.2.2)
    (soundL es sc X W [a, b] ok.toOk h5) (par_sw ok.kd hxy (by rw [ok.toOk.sc]; exact h4)) rfl) fun D σ H ⟨F, ρ, rl, hq⟩ => ?_
  refine As_bind rl hq fun ds vs F1 H1 ex rl1 hd hq => ?_
  obtain ⟨ρ', g, hq⟩ := sopt hq
  match ds, hd, g with
  | [d1, d2], .cons q1 (.cons q2 .nil), g =>
    cases ok_inj (show some ((ρ.set i (some (.val (.dat d1)))).set j (some (.val (.dat d2)))) = some ρ' from g)
    exact ⟨_, _, rfl, hq _ F1 H1 (Same.refl _) ((rl1.setVal (v := .dat d1) q1 i).setVal (v := .dat d2) q2 j)⟩
  | [], .nil, g => cases g
  | [_], .cons _ .nil, g => cases g
  | _ :: _ :: _ :: _, .cons _ (.cons _ (.cons _ _)), g => cases g
theorem PG.or {X : Cx} {e : Expr} {t u : TG} (h : PG X e t) (h2 : PG X e u) : PG X e (fun v σ H Q => t v σ H Q ∨ u v σ H Q) := ⟨fun pins s σ H v w Q I r hw => hw.elim (h.run pins s σ H v w Q I r) (h2.run pins s σ H v w Q I r)⟩
theorem unp_sw {ts vs : List Expr} {kt k2} {pt pt2 : Pos} {env : PySem.Env} (h : vs.all (foldedForSure 8) = true) : swappedStores [.Tuple ts kt pt] (.Tuple vs k2 pt2) env = pure none := by
  unfold swappedStores
  dsimp only
  rw [if_pos h]
  repeat' split
  all_goals rfl
theorem ss_unp {l : List Tg} {e : Ex} : SS T N k C (.unp l e) := by
  intro sc X W st ok h F0 H0
  obtain ⟨ts, kt, pt, v, pos, he, h'⟩ := inv_unp h
  subst he
  simp only [Bool.and_eq_true] at h'
  obtain ⟨⟨h1, h2⟩, h3⟩ := h'
  obtain ⟨g1, g2, g3⟩ := pgs_ok (X := X) ok.n ok.nd ok.toOk.sc ok.calm (fun _ => ok.fn) l ts h2
  have G := PG.or (pg_tup (pos := pt) ok.calm g1 g2 g3) (pg_unl (pos := pt) (k := kt) ok.calm g1 g2 g3)
  refine PS.imp (ps_asg ((sound e).1 sc X W v ok.toOk h3) G (by unfold swapsWithSole; exact sw_sub (by intro _ _ z; cases z)) (by cases v <;> first | rfl | exact unp_sw h1) rfl) fun D σ H ⟨F, ρ, rl, hp⟩ => ?_
  refine R_bind rl hp fun d x F1 H1 ex rl1 hd hq => ?_
  obtain ⟨ρ', g, hq2⟩ := sopt hq
  cases d with
  | list xs =>
    obtain ⟨p, vs, rfl, t1, r1⟩ := hd.list rl1.rel.sub
    have hl := bindTgs_len (show bindTgs ρ xs l = some ρ' from g)
    refine .inr ⟨p, vs, rfl, .inl t1, by rw [r1.length]; exact hl, F1, ρ, xs, ρ', rl1.rel, r1, g, fun σ' rel' tp => hq2 σ' F1 H1 (Same.refl _) (rl1.stored rel' tp)⟩
  | tuple xs =>
    obtain ⟨p, vs, rfl, t1, _, r1⟩ := hd.tup rl1.rel.sub
    have hl := bindTgs_len (show bindTgs ρ xs l = some ρ' from g)
    refine .inl ⟨p, vs, rfl, t1, by rw [r1.length]; exact hl, F1, ρ, xs, ρ', rl1.rel, r1, g, fun σ' rel' tp => hq2 σ' F1 H1 (Same.refl _) (rl1.stored rel' tp)⟩
  | _ => cases g
end
end RL
/-! RLStm6: loops, lists of statements. -/
namespace RL
open PySem PySem.Spec PyProof.Rows L2
section
variable {T : Tab} {N : List Str} {k : Nat} {C : Cfg}
theorem seq_post {X : Cx} {W : WX} {F0 H0 F : Hp} {r : SR} {f : Env → SR} {D D' : Ends} (hr : D'.rt = D.rt) (hn : ∀ ρ' σ' F' H', Same F F' → Rl X.K F0 H0 F' σ' H' ρ' → SPo T X W F0 H0 D F' (f ρ') → D'.nx σ' H') (h : SPo T X W F0 H0 D F (r.seq f)) :
    SPo T X W F0 H0 D' F r := by
  cases r with
  | nx ρ' => exact fun σ' F' H' s rl => hn ρ' σ' F' H' s rl (SPo.mono s h)
  | rt v => intro x F' H' s e fr; rw [hr]; exact h x F' H' s e fr
  | ex c p ρ' => exact h
  | bad => exact h
theorem inv_for {tg : Tg} {kk : Sk} {a b : Ex} {body : List Stm} {sc : Scope} {st : Stmt} (h : chkS T N (.for_ tg kk a b body) sc st = true) : ∃ t iter bd pos, st = .For t iter bd [] pos ∧
    (chkTg N sc false tg t && !isSet iter && srcC sc (chkE T N a sc) (chkE T N b sc) (bNone b) (isMany tg) kk iter && chkSs T N body sc bd) = true := by
  unfold chkS at h
  split at h <;> first | exact no h | skip
  all_goals first | contradiction | (injections; subst_vars; exact ⟨_, _, _, _, rfl, h⟩)
theorem inv_whl {c : Ex} {body : List Stm} {sc : Scope} {st : Stmt} (h : chkS T N (.whl c body) sc st = true) : ∃ t bd pos, st = .While t bd [] pos ∧ (chkE T N c sc t && chkSs T N body sc bd) = true := by
  unfold chkS at h
  split at h <;> first | exact no h | skip
  all_goals first | contradiction | (injections; subst_vars; exact ⟨_, _, _, rfl, h⟩)
theorem ss_for {tg : Tg} {kk : Sk} {a b : Ex} {body : List Stm} (hb : SSs T N k C body) : SS T N k C (.for_ tg kk a b body) := by
  intro sc X W st ok h F0 H0
  obtain ⟨t, iter, bd, pos, he, h'⟩ := inv_for h
  subst he
  simp only [Bool.and_eq_true, Bool.not_eq_true'] at h'
  obtain ⟨⟨⟨h1, h2⟩, h3⟩, h4⟩ := h'
  obtain ⟨pi, hz⟩ := src_ok (tg := t) ok.toOk (sound a).1 (sound b).1 h3 (tg_many h1)
  refine PS.imp (ps_for ok.po ok.calm pi (pg_ok (X := X) ok.n ok.nd ok.toOk.sc ok.calm (fun _ => ok.fn) tg t h1) (hb sc X W bd ok h4 F0 H0) (fold_ix h2)) fun D σ H ⟨F, ρ, rl, hp⟩ => ?_
  refine ⟨F, ρ, rl.rel, ?_⟩
  have hp : SPo T X W F0 H0 D F (SR.of ρ (ev C ρ a) fun x => SR.of ρ (ev C ρ b) fun y => SR.opt (grdO (!x.1 && !y.1) (itemsOf kk x.2 y.2)) fun its => forL (fun r d => SR.opt (bindTg r d tg) fun r => execs C r body) its ρ) := hp
  generalize hst : (fun (r : Env) (d : RL.D) => SR.opt (bindTg r d tg) fun r => execs C r body) = step at hp
  cases ea : ev C ρ a with
  | bad => rw [ea] at hp; exact hp.elim
  | exc c p => rw [ea] at hp; exact fun F' H' cls d ex xr => hp σ F' H' cls d ex.ff (rl.mono ex) xr
  | ok x =>
    rw [ea] at hp
    simp only [SR.of] at hp
    simp only [Res.bind]
    cases eb : ev C ρ b with
    | bad => rw [eb] at hp; exact hp.elim
    | exc c p => rw [eb] at hp; exact fun F' H' cls d ex xr => hp σ F' H' cls d ex.ff (rl.mono ex) xr
    | ok y =>
      rw [eb] at hp
      simp only at hp ⊢
      obtain ⟨its, g, hp⟩ := sopt hp
      obtain ⟨g1, g2⟩ := grd_ok g
      rw [g2]
      simp only [Bool.and_eq_true, Bool.not_eq_true'] at g1
      simp only [opt]
      intro F1 H1 ex J jok
      have jok : JOk X.K (isZip kk) J F1 F1 its := by
        have : (if (x.1 || y.1) = true then H1 else F1) = F1 := by rw [g1.1, g1.2]; rfl
        rw [this] at jok; exact jok
      refine ⟨fun i m σ' H' => m = its.length - i ∧ i ≤ its.length ∧ ∃ Fi ρi, Same F1 Fi ∧ Rl X.K F0 H0 Fi σ' H' ρi ∧ SPo T X W F0 H0 D Fi (forL step (its.drop i) ρi), ⟨its.length, by simp, Nat.zero_le _, F1, ρ, Same.refl _, rl.mono ex, SPo.mono ex.ff hp⟩, ?_⟩
      rintro i m σi Hi ⟨rfl, hi, Fi, ρi, si, rli, hpi⟩
      have sB : Same F1 Hi := si.trans rli.rel.sub
      by_cases hlt : i < its.length
      · refine .inr ⟨jok.go i Hi sB hlt, fun σ' H' => i + 1 ≤ its.length ∧ ∃ Fi ρi, Same F1 Fi ∧ Rl X.K F0 H0 Fi σ' H' ρi ∧ SPo T X W F0 H0 D Fi (forL step (its.drop (i + 1)) ρi), fun σ' H' p' => ⟨its.length - (i + 1), by omega, rfl, p'⟩, fun v Hy yy => ?_⟩
        obtain ⟨d, ed, sy, iw⟩ := jok.yld i Hi v Hy sB hlt yy
        have rly := rli.mono (Ext.grow rli.rel.sub sy)
        have hdrop : its.drop i = d :: its.drop (i + 1) := by
          obtain ⟨hl, hd⟩ := List.getElem?_eq_some_iff.mp ed
          rw [List.drop_eq_getElem_cons hl, hd]
        rw [hdrop] at hpi
        have hpi : SPo T X W F0 H0 D Fi ((step ρi d).seq fun r => forL step (its.drop (i + 1)) r) := hpi
        rw [← hst] at hpi
        cases bd : bindTg ρi d tg with
        | none => simp only [SR.opt, bd, SR.seq] at hpi; exact hpi.elim
        | some ρ' =>
          simp only [SR.opt, bd] at hpi
          refine ⟨Fi, ρi, d, ρ', rly.rel, Ifor.item si iw hz, bd, fun σ2 rel2 tp => ⟨Fi, ρ', rly.stored rel2 tp, ?_⟩⟩
          refine seq_post (D := D) rfl (fun ρ3 σ3 F3 H3 s3 rl3 h3 => ⟨hlt, F3, ρ3, si.trans s3, rl3, ?_⟩) hpi
          rw [← hst]; exact h3
      · have hie : i = its.length := by omega
        refine .inl ⟨jok.stop i Hi sB (by omega), ?_⟩
        subst hie
        rw [List.drop_length] at hpi
        exact hpi σi Fi Hi (Same.refl _) rli
theorem ss_whl {c : Ex} {body : List Stm} (hb : SSs T N k C body) : SS T N k C (.whl c body) := by
  intro sc X W st ok h F0 H0
  obtain ⟨t, bd, pos, he, h'⟩ := inv_whl h
  subst he
  simp only [Bool.and_eq_true] at h'
  refine PS.imp (ps_while ok.po ((sound c).2 sc X W t ok.toOk h'.1) (hb sc X W bd ok h'.2 F0 H0)) fun D σ H ⟨F, ρ, rl, hp⟩ => ?_
  refine ⟨fun m σ H => ∃ F ρ, Rl X.K F0 H0 F σ H ρ ∧ SPo T X W F0 H0 D F (whlL (fun r => evT C r c) (fun r => execs C r body) m ρ), ⟨iterMax, F, ρ, rl, hp⟩, ?_⟩
  rintro m σ H ⟨F, ρ, rl, hp⟩
  cases m with
  | zero => exact hp.elim
  | succ m =>
    refine T_bind rl hp fun z F1 H1 ex rl1 hq => ?_
    cases z with
    | false => exact iteF (hq σ F1 H1 (Same.refl _) rl1)
    | true =>
      refine iteT ⟨fun σ H => ∃ F ρ, Rl X.K F0 H0 F σ H ρ ∧ SPo T X W F0 H0 D F (whlL (fun r => evT C r c) (fun r => execs C r body) m ρ), fun σ' H' q => ⟨m, Nat.lt_succ_self m, q⟩, F1, ρ, rl1, ?_⟩
      exact seq_post (D := D) rfl (fun ρ3 σ3 F3 H3 s3 rl3 h3 => ⟨F3, ρ3, rl3, h3⟩) hq
theorem sss_nil : SSs T N k C [] := by
  intro sc X W as ok h F0 H0
  cases as with
  | nil => exact PSs.imp pss_nil fun D σ H ⟨F, ρ, rl, hp⟩ => hp σ F H (Same.refl _) rl
  | cons _ _ => exact no h
def isFrz : Stm → Bool
  | .frz _ => true
  | _ => false
theorem chkSs_cons {s : Stm} {ss : List Stm} {sc : Scope} {l : List Stmt} (hf : isFrz s = false) (h : chkSs T N (s :: ss) sc l = true) : ∃ a as, l = a :: as ∧ chkS T N s sc a = true ∧ chkSs T N ss sc as = true := by
  cases l with
  | nil => cases s <;> first | exact no h | exact no hf.symm
  | cons a as =>
    refine ⟨a, as, rfl, ?_⟩
    have : (chkS T N s sc a && chkSs T N ss sc as) = true := by cases s <;> first | exact h | exact no hf.symm
    rw [Bool.and_eq_true] at this
    exact this
theorem sss_frz {l : List Nat} {ss : List Stm} (hs : SSs T N k C ss) : SSs T N k C (.frz l :: ss) := by
  intro sc X W as ok h F0 H0
  refine PSs.imp (hs sc X W as ok h F0 H0) fun D σ H ⟨F, ρ, rl, hp⟩ => ?_
  obtain ⟨F', s', rl'⟩ := rl.frzAll (l := l)
  exact ⟨F', _, rl', SPo.mono s' (show SPo T X W F0 H0 D F (execs C (frzAll ρ l) ss) from hp)⟩
theorem sss_cons {s : Stm} {ss : List Stm} (hf : isFrz s = false) (h1 : SS T N k C s) (hs : SSs T N k C ss) : SSs T N k C (s :: ss) := by
  intro sc X W as ok h F0 H0
  obtain ⟨a, as', e, q1, q2⟩ := chkSs_cons hf h
  subst e
  refine PSs.imp (pss_cons (h1 sc X W a ok q1 F0 H0) (hs sc X W as' ok q2 F0 H0)) fun D σ H ⟨F, ρ, rl, hp⟩ => ?_
  exact ⟨F, ρ, rl, seq_post (D := D) rfl (fun ρ3 σ3 F3 H3 s3 rl3 h3 => ⟨F3, ρ3, rl3, h3⟩) (show SPo T X W F0 H0 D F ((exec C ρ s).seq fun r => execs C r ss) from hp)⟩
end
end RL
/-! RLTry: try with several clauses 'except X as e'. The walk follows HandS.Exc's ps_try_as and HandS.TryMany's ps_try_many. -/
namespace RL
open PySem PySem.Spec PyProof.Rows L2

abbrev Clause := Value × Nat × (Addr → Value → Option Addr → TS)
def endsAt (i : Nat) (D : Ends) : Ends := { nx := fun σ' H' => D.nx (σ'.set i none) H', rt := D.rt, bk := fun σ' H' => D.bk (σ'.set i none) H', ct := fun σ' H' => D.ct (σ'.set i none) H' }
/-- what the clauses wish of an exception, one after the other -/
def wMA (K : PySem.W.Frag) (Wout : WX) (D : Ends) : List Clause → WX
  | [] => Wout
  | (c, i, ts) :: r => fun cls d σ H => ∃ b, PySem.W.exmOne K cls c = some b ∧ (b = true → ∀ a, H a = none → ts a cls d (endsAt i D) (σ.set i (some (.ref a))) H) ∧ (b = false → wMA K Wout D r cls d σ H)
inductive HdA (X : Cx) : List ExceptHandler → List Clause → Prop
  | nil : HdA X [] []
  | cons {x n : Str} {c : Value} {i : Nat} {ts : Addr → Value → Option Addr → TS} {b₀ : Stmt} {suite : List Stmt} {np pos' : Pos} {hds : List ExceptHandler} {l : List Clause} (hc : Names X x c) (hi : X.N[i]? = some n) (hln : X.env.kindOf n = some .local)
      (hsu : ∀ (a : Addr) (oe : Obj) (cls : Value) (d : Option Addr) (pn : List (Addr × Obj)), Zc cls d oe → (∃ vs, oe.data = .fields vs) → PSs (X.suite a ((a, oe) :: pn)) (b₀ :: suite) (ts a cls d)) (r : HdA X hds l) :
      HdA X (.ExceptHandler (some (.Name x np)) (some n) (b₀ :: suite) pos' :: hds) ((c, i, ts) :: l)
section
variable {X : Cx} {body : List Stmt} {h₀ : ExceptHandler} {hds : List ExceptHandler} {l : List Clause} {pos : Pos} {tb : WX → TS} {Wout : WX}
theorem ps_tryA (hs : X.stack = X.env :: X.outer) (hf : X.env.frame = some X.env.locals) (hN : X.N.Nodup) (tk : Takes X Wout)
    (hb : ∀ (W : WX) (pn : List (Addr × Obj)) (xe : Value → Shared → Prop), Takes (X.tr pn xe) W → PassesOwn (model X.prog X.w) X.A X.env xe → PSs (X.tr pn xe) body (tb W))
    (hh : HdA X (h₀ :: hds) l) : PS X (.Try body (h₀ :: hds) [] [] pos) (fun D σ H => tb (wMA X.K Wout D l) D σ H) := by
  refine ⟨fun pins s σ H D I h => ?_⟩
  have ok := I.ok
  have hfr : X.A.frames = some (X.env :: X.outer) := by rw [ok.frames, hs]
  refine wpAny_Try_except ?_
  refine wpAny_mono ((hb (wMA X.K Wout D l) (X.pn ++ pins) (fun e s₁ => wpAny (model X.prog X.w) X.A (noteFrame e X.env) (fun _ s₂ => wpAny (model X.prog X.w) X.A (setFlight e none) (fun _ s₃ =>
    wpAny (model X.prog X.w) X.A (handleBy e X.env (h₀ :: hds)) (SP X pins D) X.xe s₃) X.xe s₂) X.xe s₁) (fun u s' xx => ?_) PassesOwn.looking).run [] s σ H D (I.toTry _) h) (fun f s1 hsp => ?_) (fun e s1 he => he)
  · obtain ⟨a, B, sI, pins', σ', H', cls, d, rfl, J', nb, up, sky, na, os, ag, w⟩ := xx
    have J : Inv X pins σ' H' sI := J'.ofTry ok
    have sky' : Sky B (X.env :: X.outer) a (Zc cls d) X.env.locals s'.heap := by rw [← hs]; exact sky
    show wpAny (model X.prog X.w) X.A (noteFrame (.ref a) X.env) _ _ _
    refine Sky.land Zc.steady hfr hf sky' fun h3 fl3 up3 => ?_
    have J3 : Inv X pins σ' H' { s' with heap := h3 } := J.landed nb fl3.1 (up.trans up3) os ag
    obtain ⟨oe3, vs3, he3, hz3, hd3⟩ := fl3.there
    have notFr : ∀ {h : Heap} {o : Obj} {vs : Array Value}, h.FunFrames B (X.env :: X.outer) → h.get? a = some o → o.data = .fields vs → a ∉ frs (X.env :: X.outer) := fun {h o vs} ff e dd hm => by
      obtain ⟨_, o', e', hnf⟩ := ff.mem hm
      rw [e] at e'; cases e'
      exact hnf _ dd
    have nfr := notFr fl3.2.2.1 he3 hd3
    have nL : a ≠ X.env.locals := fun z => nfr (List.mem_filterMap.mpr ⟨X.env, List.mem_cons_self, by rw [hf, z]⟩)
    have nF : a ∉ X.fs := fun hm => by
      obtain ⟨e, he, q⟩ := List.mem_filterMap.mp hm
      exact nfr (List.mem_filterMap.mpr ⟨e, List.mem_cons_of_mem _ he, q⟩)
    have S3 := J3.suite he3 hd3 na nL nF
    have go : ∀ {hds' : List ExceptHandler} {l' : List Clause}, HdA X hds' l' → wMA X.K Wout D l' cls d σ' H' →
        wpAny (model X.prog X.w) X.A (handleBy (.ref a) X.env hds') (SP X pins D) X.xe { s' with heap := h3 } := by
      intro hds' l' hk
      induction hk with
      | nil =>
        intro w
        refine wpAny_handleBy_nil ?_
        obtain ⟨k1, k2, k3, oe, vs, T, oT, ts', he, hz, hd, h1, hr⟩ := id fl3
        unfold PySem.passOn
        refine wpAny_bind (wpAny_field he hd h1 ?_)
        rw [if_neg (show ¬ ((Value.ref T == Value.none) = true) from by simp)]
        have fin : wpAny (model X.prog X.w) X.A (setFlight (.ref a) X.env.frame) (fun _ s4 => wpAny (model X.prog X.w) X.A (throw (.ref a) : Sem Flow) (SP X pins D) X.xe s4) X.xe { s' with heap := h3 } := by
          rw [hf]
          refine HandSPX.setFlight_upZ fl3 fun h4 hh4 up4 => wpAny_throw (tk _ _ ?_)
          exact ⟨a, B, sI, pins, σ', H', cls, d, rfl, J, nb, (up.trans up3).trans up4, .inr (.inr (by rw [hs]; exact hh4)), na, os, ag, w⟩
        first
          | exact wpAny_bind (wpAny_pure (wpAny_bind fin))
          | exact wpAny_bind fin
      | @cons x n c i ts b₀ suite np pos' hds2 l2 hc hi hln hsu r ih =>
        intro w
        obtain ⟨b, hb1, hyes, hno⟩ := w
        have hloc : L2.Loc X.env.scope n := .inl hln
        refine wpAny_handleBy_cons (codeAny_handlers_test ?_) (by intro q; cases q)
        have LT : PySem.W.Looks (model X.prog X.w) h3 (typeOf (.ref a)) cls := fun A Q E s k q => wpAny_typeOf_ref (k _ _ he3) (by rw [hz3.1]; exact q)
        have LM := PySem.W.exm_one (M := model X.prog X.w) (J3.kIn) LT hb1
        have test : ∀ {Q : Value → Shared → Prop} {E : Value → Shared → Prop}, Q c { s' with heap := h3 } → wpAny (model X.prog X.w) (X.A.mark (some (.ref a))) (eval (.Name x np) X.env) Q E { s' with heap := h3 } := fun {Q E} q => by
          obtain ⟨hg, hdbg, hm | ⟨hm, hv, hnn⟩⟩ := hc
          · exact ld_glob (X := X.suite a ((a, oe3) :: (X.pn ++ pins))) S3 hg hm q hdbg
          · exact ld_blt (X := X.suite a ((a, oe3) :: (X.pn ++ pins))) S3 hg hm hv q hnn hdbg
        refine test (LM.here ?_)
        cases b with
        | true =>
          refine codeAny_handlers_suite_as ?_
          refine HandSPX.lands_againZ fl3 fun h4 fl4 up4 => ?_
          have J4 : Inv X pins σ' H' { s' with heap := h4 } := J.landed nb fl4.1 ((up.trans up3).trans up4) os ag
          obtain ⟨oe4, vs4, he4, hz4, hd4⟩ := fl4.there
          have S4 := J4.suite he4 hd4 na nL nF
          refine store_ok (X := X.suite a ((a, oe4) :: (X.pn ++ pins))) (v := .ref a) S4 hN hi hloc rfl (fun s5 S5 => ?_) (.inr hln)
          refine wpAny_mono ((hsu a oe4 cls d (X.pn ++ pins) hz4 ⟨_, hd4⟩).run [] s5 _ H' _ S5 (hyes rfl a na)) (fun f s6 hsp => ?_) (fun _ _ z => False.elim z)
          have end_ : ∀ {σ6 : L2.St} {H6 : Hp} {Q : Shared → Prop}, Inv (X.suite a ((a, oe4) :: (X.pn ++ pins))) [] σ6 H6 s6 → (∀ s7, Inv X pins (σ6.set i none) H6 s7 → Q s7) →
              wpAny (model X.prog X.w) X.A (do bindName X.env n .none; unbindBehindTheSuite X.env n pos') (fun _ s7 => Q s7) X.xe s6 := fun {σ6 H6 Q} S6 hq => gone_ok (S6.unsuite ok) hN hi hln hq
          cases f with
          | next =>
            obtain ⟨σ6, H6, S6, q6⟩ := hsp
            exact end_ S6 fun s7 J7 => ⟨_, _, J7, q6⟩
          | brk =>
            obtain ⟨σ6, H6, S6, q6⟩ := hsp
            exact end_ S6 fun s7 J7 => ⟨_, _, J7, q6⟩
          | cont =>
            obtain ⟨σ6, H6, S6, q6⟩ := hsp
            exact end_ S6 fun s7 J7 => ⟨_, _, J7, q6⟩
          | ret u =>
            obtain ⟨v6, σ6, H6, S6, r6, q6⟩ := hsp
            exact end_ S6 fun s7 J7 => ⟨_, _, _, J7, r6, q6⟩
        | false =>
          show wpAny _ X.A (handleBy (.ref a) X.env hds2) _ _ _
          exact ih (hno rfl)
    exact go hh w
  · cases f with
    | next =>
      obtain ⟨σ', H', J', q⟩ := hsp
      exact wpAny_execs_nil ⟨σ', H', J'.ofTry ok, q⟩
    | brk =>
      obtain ⟨σ', H', J', q⟩ := hsp
      exact ⟨σ', H', J'.ofTry ok, q⟩
    | cont =>
      obtain ⟨σ', H', J', q⟩ := hsp
      exact ⟨σ', H', J'.ofTry ok, q⟩
    | ret u =>
      obtain ⟨v, σ', H', J', r, q⟩ := hsp
      exact ⟨v, σ', H', J'.ofTry ok, r, q⟩
end
end RL
/-! RLTry2: this program's suites; every statement. -/
namespace RL
open PySem PySem.Spec PyProof.Rows L2
section
variable {T : Tab} {N : List Str} {k : Nat} {C : Cfg}
theorem con_pe {K : W.Frag} {d : D} {c : Const} (h : constB d c = true) : ∃ v : V, (∀ (Y : Cx) (j : Nat) (p : Pos), PE Y (.Constant c j p) (tC v)) ∧ ∀ F, Dq K F v d := by
  cases d with
  | none => cases c <;> first | exact ⟨.non, fun _ _ _ => pe_non, fun _ => .non⟩ | exact no h
  | bool b =>
    cases c with
    | bool b' =>
      have e : b = b' := eq_of_beq h
      subst e
      exact ⟨.bl b, fun _ _ _ => pe_bl, fun _ => .bl b⟩
    | _ => exact no h
  | int i =>
    cases c with
    | int i' =>
      have e : i = i' := of_decide_eq_true h
      subst e
      exact ⟨.int i, fun _ _ _ => pe_int, fun _ => .int i⟩
    | _ => exact no h
  | str i =>
    cases c with
    | str i' =>
      have e : i = i' := of_decide_eq_true h
      subst e
      exact ⟨.str i, fun _ _ _ => pe_str, fun _ => .str i⟩
    | _ => exact no h
  | _ => cases c <;> exact no h
/-- isinstance(e, A) in a suite -/
theorem pe_isS {X : Cx} {W : WX} {sc : Scope} {ae Dc vA : Addr} {oe : Obj} {pn : List (Addr × Obj)} {i : Nat} {e A : Str} {p1 p2 p3 p4 : Pos} (ok : Ok T N k C sc X W) (C1 : ExcC X.K Dc) (hz : Zc (.ref Dc) none oe) (hf : ∃ vs, oe.data = .fields vs)
    (hi : N[i]? = some e) (hl : locB sc e = true) (hn : nmB e = true) (hgi : glB sc "isinstance" = true) (hgA : glB sc A = true) (hnA : nmB A = true) (hmA : X.mg A = some (.ref vA)) :
    PE (X.suite ae ((ae, oe) :: pn)) (.Call (.Name "isinstance" p1) [.Name e p2, .Name A p3] [] p4) (fun σ H Q => σ[i]? = some (some (.ref ae)) ∧ ∃ b, PySem.W.kitOne X.K (.ref Dc) (.ref vA) = some b ∧ Q (.bl b) H) := by
  obtain ⟨n1, n2, _⟩ := nmB_ok hn
  obtain ⟨m1, m2, _⟩ := nmB_ok hnA
  have P1 : PE (X.suite ae ((ae, oe) :: pn)) (.Name e p2) (tVar i) := pe_var (i := i) (show X.N[i]? = some e by rw [ok.n]; exact hi) (show L2.Vis X.env.scope e by rw [ok.sc]; exact .inl (locB_ok hl)) n1 n2
  have P2 : PE (X.suite ae ((ae, oe) :: pn)) (.Name A p3) (tC (.ref vA)) := pe_glob (X := X.suite ae ((ae, oe) :: pn)) (v := .ref vA) (show Gl X A from glB_ok ok.sc hgA) hmA rfl m1
  refine PE.imp (pe_callB (X := X.suite ae ((ae, oe) :: pn)) (call_isE C1 hz hf) (show Gl X "isinstance" from glB_ok ok.sc hgi) (ok.wd.blt _ (by simp [bltNames])) (by decide +kernel) (pa_cons P1 (pa_cons P2 pa_nil rfl) rfl) (by decide) (by decide) rfl) fun σ H Q ⟨h1, b, h2, q⟩ => ?_
  exact ⟨.ref ae, h1, .ref vA, .ref vA, b, rfl, fun u r => r, h2, q⟩
theorem tru_bl {K : W.Frag} {H : Hp} {b : Bool} : TruV K (.bl b) H b := rfl
/-- the suite -/
theorem suite_ps {X : Cx} {W : WX} {sc : Scope} {ae Dc vA vB : Addr} {oe : Obj} {pn : List (Addr × Obj)} {i : Nat} {e A B : Str} {c1 c2 : Const} {v1 v2 : V} {j1 j2 : Nat} {p1 p2 p3 p4 q1 q2 q3 q4 r1 r2 r3 r4 r5 r6 : Pos} (ok : Ok T N k C sc X W) (C1 : ExcC X.K Dc)
    (hz : Zc (.ref Dc) none oe) (hf : ∃ vs, oe.data = .fields vs) (hi : N[i]? = some e) (hl : locB sc e = true) (hn : nmB e = true) (hgi : glB sc "isinstance" = true) (hgA : glB sc A = true) (hnA : nmB A = true) (hmA : X.mg A = some (.ref vA))
    (hgB : glB sc B = true) (hnB : nmB B = true) (hmB : X.mg B = some (.ref vB)) (hc1 : ∀ (Y : Cx) (j : Nat) (p : Pos), PE Y (.Constant c1 j p) (tC v1)) (hc2 : ∀ (Y : Cx) (j : Nat) (p : Pos), PE Y (.Constant c2 j p) (tC v2)) :
    PSs (X.suite ae ((ae, oe) :: pn)) [.Return (some (.IfExp (.BoolOp .And [.Call (.Name "isinstance" p1) [.Name e p2, .Name A p3] [] p4, .UnaryOp .Not (.Call (.Name "isinstance" q1) [.Name e q2, .Name B q3] [] q4) r1] r2) (.Constant c1 j1 r3) (.Constant c2 j2 r4) r5)) r6]
      (fun D σ H => σ[i]? = some (some (.ref ae)) ∧ ∃ bA bB, PySem.W.kitOne X.K (.ref Dc) (.ref vA) = some bA ∧ PySem.W.kitOne X.K (.ref Dc) (.ref vB) = some bB ∧ D.rt (if (bA && !bB) = true then v1 else v2) H) := by
  have T1 := pt_truth (pe_isS (ae := ae) (pn := pn) (p1 := p1) (p2 := p2) (p3 := p3) (p4 := p4) ok C1 hz hf hi hl hn hgi hgA hnA hmA) (plainT_ok rfl)
  have T2 := pt_truth (pe_isS (ae := ae) (pn := pn) (p1 := q1) (p2 := q2) (p3 := q3) (p4 := q4) ok C1 hz hf hi hl hn hgi hgB hnB hmB) (plainT_ok rfl)
  have TA := PW.pt (pw_and (pos := r2) T1 (pw_and1 (pos := r2) (pt_not (pos := r1) T2)))
  refine PSs.imp (pss_one (ps_ret (pos := r6) (pe_ifExp (pos := r5) TA (hc1 _ j1 r3) (hc2 _ j2 r4)))) fun D σ H ⟨h1, bA, bB, h2, h3, q⟩ => ?_
  refine ⟨h1, bA, h2, bA, rfl, ?_⟩
  cases bA with
  | false => exact iteF (iteF q)
  | true =>
    refine iteT ⟨h1, bB, h3, bB, rfl, ?_⟩
    cases bB with
    | true => exact iteF q
    | false => exact iteT q
theorem inv_suite {i : Nat} {su : List Stm} {sc : Scope} {bs : List Stmt} (h : chkSuite T N i su sc bs = true) : ∃ a b d d2 e A B c1 c2 j1 j2 p1 p2 p3 p4 q1 q2 q3 q4 r1 r2 r3 r4 r5 r6,
    su = [.ret (.ite (.and (.isi (.var i) (.cls a)) (.not (.isi (.var i) (.cls b)))) (.con d) (.con d2))] ∧
    bs = [.Return (some (.IfExp (.BoolOp .And [.Call (.Name "isinstance" p1) [.Name e p2, .Name A p3] [] p4, .UnaryOp .Not (.Call (.Name "isinstance" q1) [.Name e q2, .Name B q3] [] q4) r1] r2) (.Constant c1 j1 r3) (.Constant c2 j2 r4) r5)) r6] ∧
    N[i]? = some e ∧ locB sc e = true ∧ nmB e = true ∧ glB sc "isinstance" = true ∧ T.cls[a]? = some (some A) ∧ T.cls[b]? = some (some B) ∧ glB sc A = true ∧ glB sc B = true ∧ nmB A = true ∧ nmB B = true ∧ constB d c1 = true ∧ constB d2 c2 = true := by
  unfold chkSuite at h
  split at h
  · simp only [Bool.and_eq_true, decide_eq_true_eq] at h
    obtain ⟨⟨⟨⟨⟨⟨⟨⟨⟨⟨⟨⟨⟨⟨⟨⟨h1, h2⟩, h3⟩, h4⟩, h5⟩, h6⟩, h7⟩, h8⟩, h9⟩, h10⟩, h11⟩, h12⟩, h13⟩, h14⟩, h15⟩, h16⟩, h17⟩ := h
    subst h1 h2 h4 h7 h8
    exact ⟨_, _, _, _, _, _, _, _, _, _, _, _, _, _, _, _, _, _, _, _, _, _, _, _, _, rfl, rfl, h3, h5, h6, h9, h10, h11, h12, h13, h14, h15, h16, h17⟩
  · exact no h
theorem ev_isE {ρ : Env} {i c a : Nat} (h : ρ[i]? = some (some (.val (.exn c none)))) : ev C ρ (.isi (.var i) (.cls a)) = retB (C.sub c a) := by
  have e : ev C ρ (.var i) = .ok (false, .exn c none) := by
    show (match ρ[i]? with
      | some (some (.val v)) => (.ok (false, v) : Res (Bool × Vl))
      | some (some (.own v)) => .ok (true, v)
      | _ => .bad) = _
    rw [h]
  show (ev C ρ (.var i)).bind (fun x => opt (isiD C.sub x.2 (.cls a)) retB) = _
  rw [e]; rfl
theorem ev_isS {ρ : Env} {i c a : Nat} {q : D} (h : ρ[i]? = some (some (.val (.exn c (some q))))) : ev C ρ (.isi (.var i) (.cls a)) = .bad := by
  have e : ev C ρ (.var i) = .ok (false, .exn c (some q)) := by
    show (match ρ[i]? with
      | some (some (.val v)) => (.ok (false, v) : Res (Bool × Vl))
      | some (some (.own v)) => .ok (true, v)
      | _ => .bad) = _
    rw [h]
  show (ev C ρ (.var i)).bind (fun x => opt (isiD C.sub x.2 (.cls a)) retB) = _
  rw [e]; rfl
theorem ev_isN {ρ : Env} {i a : Nat} (h : ρ[i]? = none) : ev C ρ (.isi (.var i) (.cls a)) = .bad := by
  have e : ev C ρ (.var i) = .bad := by
    show (match ρ[i]? with
      | some (some (.val v)) => (.ok (false, v) : Res (Bool × Vl))
      | some (some (.own v)) => .ok (true, v)
      | _ => .bad) = _
    rw [h]
  show (ev C ρ (.var i)).bind (fun x => opt (isiD C.sub x.2 (.cls a)) retB) = _
  rw [e]; rfl
/-- the suite's end -/
theorem suite_ev {ρ : Env} {i c a b : Nat} {d d2 : D} {e1 : Res (Bool × Vl)} (h : ev C ρ (.isi (.var i) (.cls a)) = e1) :
    execs C ρ [.ret (.ite (.and (.isi (.var i) (.cls a)) (.not (.isi (.var i) (.cls b)))) (.con d) (.con d2))] = (SR.of ρ (((e1.bind fun x => opt (truthy x.2) fun k => match k with
      | true => (ev C ρ (.isi (.var i) (.cls b))).bind fun x => opt (truthy x.2) fun k => retB (!k)
      | false => .ok x).bind fun x => opt (truthy x.2) fun k => match k with
      | true => ret d
      | false => ret d2).bind fun x => opt (frozen x) .ok) fun v => .rt v).seq fun r => .nx r := by
  rw [← h]; rfl
theorem suite_val {ρ : Env} {i c a b : Nat} {d d2 : D} (h : ρ[i]? = some (some (.val (.exn c none)))) :
    execs C ρ [.ret (.ite (.and (.isi (.var i) (.cls a)) (.not (.isi (.var i) (.cls b)))) (.con d) (.con d2))] = .rt (.dat (if (C.sub c a && !C.sub c b) = true then d else d2)) := by
  rw [suite_ev (c := c) (ev_isE (a := a) h), ev_isE (a := b) h]
  cases C.sub c a <;> cases C.sub c b <;> rfl
theorem inv_H {cl i : Nat} {su : List Stm} {r : Hs} {sc : Scope} {hs : List ExceptHandler} (h : chkH T N (.cons cl i su r) sc hs = true) : ∃ x np n b0 bs pos' hs', hs = .ExceptHandler (some (.Name x np)) (some n) (b0 :: bs) pos' :: hs' ∧
    (decide (T.cls[cl]? = some (some x)) && glB sc x && nmB x && decide (N[i]? = some n) && locB sc n && chkSuite T N i su sc (b0 :: bs) && chkH T N r sc hs') = true := by
  unfold chkH at h
  split at h <;> first | exact no h | skip
  all_goals first | contradiction | (injections; subst_vars; exact ⟨_, _, _, _, _, _, _, rfl, h⟩)
theorem hands_ok {X : Cx} {W : WX} {sc : Scope} {F0 H0 : Hp} (ok : OkS T N k C sc X W) : ∀ (h : Hs) (hs : List ExceptHandler), chkH T N h sc hs = true → ∃ l, HdA X hs l ∧ ∀ (c : Nat) (p : Option D) (ρ : Env) (σ : L2.St) (F H : Hp) (cls : Value) (d : Option Addr) (D : Ends),
    SPo T X W F0 H0 D F (hands C ρ c p h) → Rl X.K F0 H0 F σ H ρ → Xr T X.K X.mg c p cls d H → wMA X.K W D l cls d σ H
  | .nil, hs, h => by
    cases hs with
    | nil => exact ⟨[], .nil, fun c p ρ σ F H cls d D hp rl xr => hp σ F H cls d (Same.refl _) rl xr⟩
    | cons _ _ => exact no h
  | .cons cl i su r, hs, h => by
      obtain ⟨x, np, n, b0, bs, pos', hs', e0, h'⟩ := inv_H h
      subst e0
      simp only [Bool.and_eq_true, decide_eq_true_eq] at h'
      obtain ⟨⟨⟨⟨⟨⟨h1, h2⟩, h3⟩, h4⟩, h5⟩, h6⟩, h7⟩ := h'
      obtain ⟨l, hl, hq⟩ := hands_ok ok r hs' h7
      obtain ⟨a, b, d, d2, e, A, B, c1, c2, j1, j2, p1, p2, p3, p4, q1, q2, q3, q4, r1, r2, r3, r4, r5, r6, e1, e2, s1, s2, s3, s4, s5, s6, s7, s8, s9, s10, s11, s12⟩ := inv_suite h6
      obtain ⟨xa, xm, xk⟩ := ok.wd.cls cl x h1
      obtain ⟨n1, _, _⟩ := nmB_ok h3
      obtain ⟨vA, mA, kA⟩ := ok.wd.cls a A s5
      obtain ⟨vB, mB, kB⟩ := ok.wd.cls b B s6
      obtain ⟨w1, k1, k1'⟩ := con_pe (K := X.K) s11
      obtain ⟨w2, k2, k2'⟩ := con_pe (K := X.K) s12
      let ts : Addr → Value → Option Addr → TS := fun ae cls dd D σ H => ∃ Dc, cls = .ref Dc ∧ dd = none ∧ ExcC X.K Dc ∧ σ[i]? = some (some (.ref ae)) ∧ ∃ bA bB, PySem.W.kitOne X.K (.ref Dc) (.ref vA) = some bA ∧ PySem.W.kitOne X.K (.ref Dc) (.ref vB) = some bB ∧ D.rt (if (bA && !bB) = true then w1 else w2) H
      refine ⟨(.ref xa, i, ts) :: l, .cons ⟨glB_ok ok.toOk.sc h2, n1, .inl xm⟩ (by rw [ok.n]; exact h4) (by show X.env.scope.names.lookup n = _; rw [ok.toOk.sc]; exact locB_ok h5) (fun ae oe cls dd pn hz hf => ⟨fun pins s σ H D I q => ?_⟩) hl, fun c p ρ σ F H cls dd D hp rl xr => ?_⟩
      · obtain ⟨Dc, rfl, rfl, C1, t1, t2⟩ := q
        rw [e2]
        exact (suite_ps ok.toOk C1 hz hf s1 s2 s3 s4 s7 s9 mA s8 s10 mB k1 k2).run pins s σ H D I ⟨t1, t2⟩
      · obtain ⟨y, ya, z1, z2, z3, z4⟩ := xr
        obtain ⟨sb1, sb2⟩ := ok.wd.sub c cl y x ya xa z1 h1 z2 xm
        refine ⟨C.sub c cl, by rw [z3]; exact sb1, fun hb ae hae => ?_, fun hb => ?_⟩
        · have hp : SPo T X W F0 H0 D F (match execs C (ρ.set i (some (.val (.exn c p)))) su with
            | .nx r => .nx (r.set i none)
            | s => s) := by
            have e3 : hands C ρ c p (.cons cl i su r) = (match C.sub c cl with
              | true => (match execs C (ρ.set i (some (.val (.exn c p)))) su with
                | .nx r => .nx (r.set i none)
                | s => s)
              | false => hands C ρ c p r) := rfl
            rw [e3, hb] at hp
            exact hp
          have hil : i < ρ.length := by
            by_cases hlt : i < ρ.length
            · exact hlt
            · exfalso
              have hn : (ρ.set i (some (.val (.exn c p))))[i]? = none := by
                rw [List.getElem?_eq_none]; rw [List.length_set]; omega
              rw [e1, suite_ev (c := c) (ev_isN hn)] at hp
              exact hp
          have hg : (ρ.set i (some (.val (.exn c p))))[i]? = some (some (.val (.exn c p))) := List.getElem?_set_self hil
          cases p with
          | some q =>
            exfalso
            rw [e1, suite_ev (c := c) (ev_isS hg)] at hp
            exact hp
          | none =>
            rw [e1, suite_val hg] at hp
            obtain ⟨u1, u2⟩ := ok.wd.sub c a y A ya vA z1 s5 z2 mA
            obtain ⟨u3, u4⟩ := ok.wd.sub c b y B ya vB z1 s6 z2 mB
            obtain ⟨xa', xm', xk'⟩ := ok.wd.cls c y z1
            have exa : xa' = ya := by rw [z2] at xm'; cases xm'; rfl
            subst exa
            refine ⟨xa', z3, z4, xk'.exc, List.getElem?_set_self (by rw [rl.rel.len]; exact hil), C.sub c a, C.sub c b, u2, u4, ?_⟩
            refine hp _ F H (Same.refl _) rl.ext ?_
            show Dq X.K F _ _
            split
            · exact k1' F
            · exact k2' F
        · have e3 : hands C ρ c p (.cons cl i su r) = (match C.sub c cl with
              | true => (match execs C (ρ.set i (some (.val (.exn c p)))) su with
                | .nx r => .nx (r.set i none)
                | s => s)
              | false => hands C ρ c p r) := rfl
          rw [e3, hb] at hp
          exact hq c p ρ σ F H cls dd D hp rl ⟨y, ya, z1, z2, z3, z4⟩
theorem inv_try {body : List Stm} {h : Hs} {sc : Scope} {st : Stmt} (hc : chkS T N (.try_ body h) sc st = true) : ∃ bd h0 hs pos, st = .Try bd (h0 :: hs) [] [] pos ∧ (chkSs T N body sc bd && chkH T N h sc (h0 :: hs)) = true := by
  unfold chkS at hc
  split at hc <;> first | exact no hc | skip
  all_goals first | contradiction | (injections; subst_vars; exact ⟨_, _, _, _, rfl, hc⟩)
theorem ss_try {body : List Stm} {h : Hs} (hb : SSs T N k C body) : SS T N k C (.try_ body h) := by
  intro sc X W st ok hc F0 H0
  obtain ⟨bd, h0, hs, pos, he, h'⟩ := inv_try hc
  subst he
  rw [Bool.and_eq_true] at h'
  obtain ⟨l, hl, hq⟩ := hands_ok (F0 := F0) (H0 := H0) ok h (h0 :: hs) h'.2
  refine PS.imp (ps_tryA (tb := fun W => tSts T X C W F0 H0 body) ok.stk ok.frm (by rw [ok.n]; exact ok.nd) ok.tk (fun W' pn xe tk po => hb sc (X.tr pn xe) W' bd ⟨⟨ok.n, ok.nd, ok.toOk.sc, ok.calm, ok.room, tk, ok.wd⟩, ok.fn, ok.stk, ok.frm, po, ok.kd⟩ h'.1 F0 H0) hl) fun D σ H ⟨F, ρ, rl, hp⟩ => ⟨F, ρ, rl, ?_⟩
  have hp : SPo T X W F0 H0 D F (match execs C ρ body with
    | .ex c p r => hands C r c p h
    | s => s) := hp
  cases e : execs C ρ body with
  | nx ρ' => rw [e] at hp; exact hp
  | rt v => rw [e] at hp; exact hp
  | ex c p ρ' =>
    rw [e] at hp
    exact fun σ' F' H' cls d s' rl' xr => hq c p ρ' σ' F' H' cls d D (SPo.mono s' hp) rl' xr
  | bad => rw [e] at hp; exact hp
mutual
theorem soundS : ∀ s : Stm, SS T N k C s
  | .asg i e => ss_asg
  | .new i e => ss_new
  | .unp l e => ss_unp
  | .par l es => ss_par
  | .set i kx e => ss_set
  | .aug i o e => fun sc X W a ok h => no h
  | .app i e => ss_app
  | .ext i e => fun sc X W a ok h => no h
  | .pop t i kx => fun sc X W a ok h => no h
  | .exp e => ss_exp
  | .ite c a b => ss_ite (soundSs a) (soundSs b)
  | .for_ t kk a b body => ss_for (soundSs body)
  | .whl c body => ss_whl (soundSs body)
  | .ret e => ss_ret
  | .raise c => ss_raise
  | .raise1 c e => fun sc X W a ok h => no h
  | .try_ body h => ss_try (soundSs body)
  | .frz l => fun sc X W a ok h => no h
  | .pass => fun sc X W a ok h => no h
theorem soundSs : ∀ l : List Stm, SSs T N k C l
  | [] => sss_nil
  | s :: l => by
    cases e : isFrz s with
    | true =>
      cases s with
      | frz l' => exact sss_frz (soundSs l)
      | _ => exact no e
    | false => exact sss_cons e (soundS s) (soundSs l)
end
end
end RL
/-! RLLev: every def keeps what the evaluator says of it, at every level. -/
namespace RL
open PySem PySem.Spec PyProof.Rows L2

/-- a def of the module: number f, name x -/
def DefOk (T : Tab) (Pg : Prg) (K : W.Frag) (mg : Str → Option Value) (f : Nat) (x : Str) : Prop :=
  ∃ a fd ps N fn params body scope, mg x = some (.ref a) ∧ W.keepIn K (.ref a) = true ∧ Binds K fd ps [] ∧ FunD K x x params body scope [] [] a fd ∧ FnScope N ps scope ∧ Pg.fn f = some fn ∧ fn.params = ps.length ∧ fn.slots = N.length ∧
    chkSs T N fn.body scope body = true
/-- what the module gives, but for the defs' promises -/
structure Mdl (T : Tab) (Pg : Prg) (K : W.Frag) (mg : Str → Option Value) : Prop where
  fns : ∀ (f : Nat) x, T.fns[f]? = some (some x) → DefOk T Pg K mg f x
  glo : ∀ (g : Nat) x, T.glo[g]? = some (some x) → ∃ u v, mg x = some u ∧ RelV v u ∧ ∀ d, Pg.gv g = some d → ∀ F, Dq K F v d
  blt : ∀ x ∈ bltNames, mg x = none
  cls : ∀ (c : Nat) x, T.cls[c]? = some (some x) → ∃ a, mg x = some (.ref a) ∧ ClsK K a (decide (c = 1))
  sub : ∀ (c d : Nat) x y a b, T.cls[c]? = some (some x) → T.cls[d]? = some (some y) → mg x = some (.ref a) → mg y = some (.ref b) → W.exmOne K (.ref a) (.ref b) = some (Pg.sub c d) ∧ W.kitOne K (.ref a) (.ref b) = some (Pg.sub c d)

theorem grd_ne {b : Bool} {r : Res Vl} (h : Res.grd b r ≠ .bad) : b = true := by
  cases b with
  | true => rfl
  | false => exact absurd rfl h
section
variable {T : Tab} {Pg : Prg} {P : Program} {w : World} {K : W.Frag} {mg : Str → Option Value} {base : Heap}
theorem enter_get {fn : Fn} {ds : List D} {i : Nat} {s : Sl} (h : (enter fn ds)[i]? = some (some s)) : ∃ d, ds[i]? = some d ∧ s = .val (.dat d) := by
  unfold enter at h
  by_cases hi : i < ds.length
  · rw [List.getElem?_append_left (by simpa using hi), List.getElem?_map, List.getElem?_eq_getElem hi] at h
    cases h
    exact ⟨ds[i], List.getElem?_eq_getElem hi, rfl⟩
  · rw [List.getElem?_append_right (by simpa using Nat.le_of_not_lt hi)] at h
    rw [List.getElem?_replicate] at h
    split at h <;> cases h
/-- the slots at a def's start -/
theorem start_rel {F H : Hp} {N ps : List Str} {vs : List V} {ds : List D} {fn : Fn} (sF : Same F H) (hd : DqAll K F vs ds) (h1 : ds.length = ps.length) (h2 : fn.params = ps.length) (h3 : fn.slots = N.length) (h4 : ps.length ≤ N.length) :
    Rl K F H F (L2.start N vs) H (enter fn ds) := by
  have hl : vs.length = ds.length := hd.length
  refine ⟨⟨sF, ?_, fun i v hv => ?_, fun i v hv => ?_, fun i j v u a _ hi => ?_⟩, Ext.refl sF, fun i v a hv => ?_⟩
  · unfold L2.start enter
    simp only [List.length_append, List.length_map, List.length_replicate]
    omega
  · obtain ⟨d, e1, e2⟩ := enter_get hv
    cases e2
    obtain ⟨x, e3, e4⟩ := hd.get e1
    refine ⟨x, ?_, e4⟩
    unfold L2.start
    have hi : i < vs.length := (List.getElem?_eq_some_iff.mp e3).1
    rw [List.getElem?_append_left (by simpa using hi), List.getElem?_map, e3]
    rfl
  · obtain ⟨d, e1, e2⟩ := enter_get hv
    cases e2
  · obtain ⟨d, e1, e2⟩ := enter_get hi
    cases e2
  · obtain ⟨d, e1, e2⟩ := enter_get hv
    cases e2
/-- a def at the next level -/
theorem fn_step {n f : Nat} {x : Str} {a : Addr} {fd : FuncData} {ps N : List Str} {fn : Fn} {params : Arguments} {body : List Stmt} {scope : Scope} (wd : Wd T n ⟨callN Pg n, Pg.gv, Pg.sub⟩ P w K mg base) (FD : FunD K x x params body scope [] [] a fd)
    (S : FnScope N ps scope) (hf : Pg.fn f = some fn) (hp : fn.params = ps.length) (hs : fn.slots = N.length) (hc : chkSs T N fn.body scope body = true) : FnOk P w K mg base (L2.CX P w) (n + 1) a fd ps (spF T K mg ps.length (callN Pg (n + 1) f)) := by
  have hpl : ps.length ≤ N.length := by have := congrArg List.length S.pre; rw [List.length_take] at this; omega
  refine FD.ok S (fun vs H Q E ⟨F, ds, _, hd, hl, _⟩ => by rw [hd.length]; exact hl) fun cdv A outer s H vs Q E hr ⟨F, ds, sF, hd, hl, hck⟩ => ?_
  have tk : L2.Takes (cxOf (L2.CX P w) P w K mg base N x scope a cdv A outer s H E) (fun cls d _ H => E cls d H) := takes_of rfl rfl rfl rfl
  have po := passes_of (X := cxOf (L2.CX P w) P w K mg base N x scope a cdv A outer s H E) rfl
  refine ⟨_, soundSs fn.body scope (cxOf (L2.CX P w) P w K mg base N x scope a cdv A outer s H E) (fun cls d _ H => E cls d H) body ⟨⟨rfl, S.nd, rfl, rfl, hr, tk, wd⟩, fun _ => rfl, rfl, rfl, po, S.kind⟩ hc F H, F, enter fn ds, start_rel sF hd hl hp hs hpl, ?_⟩
  have e : callN Pg (n + 1) f ds = outcome (execs ⟨callN Pg n, Pg.gv, Pg.sub⟩ (enter fn ds) fn.body) := by
    show (match Pg.fn f with
      | some fn => Res.grd (decide (ds.length = fn.params)) (outcome (execs ⟨callN Pg n, Pg.gv, Pg.sub⟩ (enter fn ds) fn.body))
      | none => .bad) = _
    rw [hf]
    show Res.grd (decide (ds.length = fn.params)) _ = _
    rw [decide_eq_true (show ds.length = fn.params by omega)]
    rfl
  rw [e] at hck
  cases q : execs ⟨callN Pg n, Pg.gv, Pg.sub⟩ (enter fn ds) fn.body with
  | nx ρ' => rw [q] at hck; exact fun σ' F' H' _ rl => hck .non F' H' rl.ext .non
  | rt v => rw [q] at hck; exact fun y F' H' _ ex fr => hck y F' H' ex fr
  | ex c p ρ' => rw [q] at hck; exact fun σ' F' H' cls d _ rl xr => hck F' H' cls d rl.ext xr
  | bad => rw [q] at hck; exact hck
theorem callN_len {n f : Nat} {fn : Fn} {ds : List D} (hf : Pg.fn f = some fn) (h : callN Pg n f ds ≠ .bad) : ds.length = fn.params := by
  cases n with
  | zero => exact absurd rfl h
  | succ n =>
    have e : callN Pg (n + 1) f ds = Res.grd (decide (ds.length = fn.params)) (outcome (execs ⟨callN Pg n, Pg.gv, Pg.sub⟩ (enter fn ds) fn.body)) := by
      show (match Pg.fn f with
        | some fn => Res.grd (decide (ds.length = fn.params)) (outcome (execs ⟨callN Pg n, Pg.gv, Pg.sub⟩ (enter fn ds) fn.body))
        | none => .bad) = _
      rw [hf]
    rw [e] at h
    exact of_decide_eq_true (grd_ne h)
/-- every level -/
theorem wd_all (M : Mdl T Pg K mg) : ∀ n, Wd T n ⟨callN Pg n, Pg.gv, Pg.sub⟩ P w K mg base
  | 0 => ⟨fun f x h => by
      obtain ⟨a, fd, ps, N, fn, params, body, scope, h1, h2, h3, h4, h5, h6, h7, h8, h9⟩ := M.fns f x h
      refine ⟨a, fd, ps, h1, h2, h3, ⟨fun vs H Q E ⟨F, ds, _, hd, hl, _⟩ => by rw [hd.length]; exact hl, fun A outer s H args us vs Q E _ _ _ _ ⟨F, ds, _, _, _, hck⟩ => False.elim hck⟩, fun ds hd => absurd rfl hd⟩, M.glo, M.blt, M.cls, M.sub⟩
  | n + 1 => ⟨fun f x h => by
      obtain ⟨a, fd, ps, N, fn, params, body, scope, h1, h2, h3, h4, h5, h6, h7, h8, h9⟩ := M.fns f x h
      exact ⟨a, fd, ps, h1, h2, h3, fn_step (wd_all M n) h4 h5 h6 h7 h8 h9, fun ds hd => by rw [callN_len (Pg := Pg) h6 hd]; exact h7⟩, M.glo, M.blt, M.cls, M.sub⟩
end
end RL
/-! RLFacts: the module's facts, read by one look at the heap behind the top. -/
namespace RL
open PySem PySem.Spec PyProof.Rows L2 He

mutual
/-- written data -/
def datB (K : W.Frag) : D → Value → Bool
  | .none, .none => true
  | .bool b, .bool c => b == c
  | .int i, .int j _ => decide (i = j)
  | .str x, .str y _ => decide (x = y)
  | .tuple ds, .ref a => (match K.lookup a with
    | some ⟨.type c, none, .seq its _, _⟩ => decide (c = "tuple") && (decide (its.size ≤ sizeLine) && datBs K ds its.toList)
    | _ => false)
  | _, _ => false
def datBs (K : W.Frag) : List D → List Value → Bool
  | [], [] => true
  | d :: ds, u :: us => datB K d u && datBs K ds us
  | _, _ => false
end
mutual
theorem datB_ok {K : W.Frag} : ∀ (d : D) (u : Value), datB K d u = true → ∃ v, RelV v u ∧ ∀ F, Dq K F v d
  | .none, u, h => by
    cases u <;> first | exact no h | exact ⟨.non, rfl, fun _ => .non⟩
  | .bool b, u, h => by
    cases u with
    | bool c =>
      have e : b = c := eq_of_beq h
      subst e
      exact ⟨.bl b, rfl, fun _ => .bl b⟩
    | _ => exact no h
  | .int i, u, h => by
    cases u with
    | int j t =>
      have e : i = j := of_decide_eq_true h
      subst e
      exact ⟨.int i, ⟨t, rfl⟩, fun _ => .int i⟩
    | _ => exact no h
  | .str x, u, h => by
    cases u with
    | str y t =>
      have e : x = y := of_decide_eq_true h
      subst e
      exact ⟨.str x, ⟨t, rfl⟩, fun _ => .str x⟩
    | _ => exact no h
  | .tuple ds, u, h => by
    cases u with
    | ref a =>
      have h : (match K.lookup a with
        | some ⟨.type c, none, .seq its _, _⟩ => decide (c = "tuple") && (decide (its.size ≤ sizeLine) && datBs K ds its.toList)
        | _ => false) = true := h
      cases q : K.lookup a with
      | none => rw [q] at h; cases h
      | some o =>
        obtain ⟨oc, od, dt, osl⟩ := o
        rw [q] at h
        cases oc with
        | type c =>
          cases od with
          | none =>
            cases dt with
            | seq its n =>
              obtain ⟨h1, h2⟩ := ba (show (decide (c = "tuple") && (decide (its.size ≤ sizeLine) && datBs K ds its.toList)) = true from h)
              obtain ⟨h3, h4⟩ := ba h2
              obtain ⟨vs, r, hd⟩ := datBs_ok ds its.toList h4
              exact ⟨.ref a, rfl, fun F => .tup (.inr ⟨_, its, n, q, congrArg Value.type (of_decide_eq_true h1), rfl, rfl, of_decide_eq_true h3, r⟩) (hd F)⟩
            | _ => cases h
          | some _ => cases dt <;> cases h
        | _ => cases od <;> cases dt <;> cases h
    | _ => exact no h
  | .list _, u, h => by cases u <;> exact no h
  | .dict _, u, h => by cases u <;> exact no h
theorem datBs_ok {K : W.Frag} : ∀ (ds : List D) (us : List Value), datBs K ds us = true → ∃ vs, Vals vs us ∧ ∀ F, DqAll K F vs ds
  | [], [], _ => ⟨[], .nil, fun _ => .nil⟩
  | [], _ :: _, h => no h
  | _ :: _, [], h => no h
  | d :: ds, u :: us, h => by
    obtain ⟨h1, h2⟩ := ba (show (datB K d u && datBs K ds us) = true from h)
    obtain ⟨v, r, q⟩ := datB_ok d u h1
    obtain ⟨vs, r2, q2⟩ := datBs_ok ds us h2
    exact ⟨v :: vs, .cons r r2, fun F => .cons (q F) (q2 F)⟩
end
def nsB (K : W.Frag) (x : Str) : Bool := eqO (W.nsIn K mainGlobals x) (some (some (.ref (ga K x))))
def gvB (K : W.Frag) (x : Str) (d : D) : Bool := match W.nsIn K mainGlobals x with
  | some (some u) => datB K d u
  | _ => false
def clsB (K : W.Frag) (a : Addr) (own : Bool) : Bool :=
  W.keepIn K (.ref a) && eqO (W.findIn K (.ref a) "__getattribute__") (some (some (.builtin "BaseException.__getattribute__"))) && eqO (W.findIn K (.ref a) "__getattr__") (some none) && decide (W.subIn K (.ref a) (.type "BaseException") = some true)
    && W.hasDictIn K a && eqO (W.findIn K (.ref a) "__class__") (some (some (.builtin "object.__class__"))) && eqO (W.specialIn K (.builtin "object.__class__") "__get__") (some (some (.builtin "getset_descriptor.__get__")))
    && decide (W.takesIn K (.builtin "object.__class__") = some true) && decide (W.mroIn K a (.type "object") = some true) && decide (W.typeIn K (.ref a) = some (.type "type")) && (own || W.excIn K a mroV "ValueError.__new__")
theorem clsB_ok {K : W.Frag} {a : Addr} {own : Bool} (h : clsB K a own = true) : ClsK K a own := by
  unfold clsB at h
  simp only [Bool.and_eq_true, decide_eq_true_eq, Bool.or_eq_true] at h
  obtain ⟨⟨⟨⟨⟨⟨⟨⟨⟨⟨h1, h2⟩, h3⟩, h4⟩, h5⟩, h6⟩, h7⟩, h8⟩, h9⟩, h10⟩, h11⟩ := h
  exact ⟨h1, ⟨eqO_ok h2, eqO_ok h3, h4, h5, eqO_ok h6, eqO_ok h7, h8, h9⟩, h10, fun z => by rw [z] at h11; exact h11.resolve_left (by simp)⟩
def noList (K : W.Frag) : Bool := K.all fun p => !(p.2.cls == .type "list")
/-- all numbers with their names -/
def each (l : List (Option Str)) (p : Nat → Str → Bool) : Bool := (List.range l.length).all fun i => match l[i]? with
  | some (some x) => p i x
  | _ => true
theorem each_ok {l : List (Option Str)} {p : Nat → Str → Bool} (h : each l p = true) {i : Nat} {x : Str} (e : l[i]? = some (some x)) : p i x = true := by
  have hi : i < l.length := (List.getElem?_eq_some_iff.mp e).1
  have := List.all_eq_true.mp h i (List.mem_range.mpr hi)
  rw [e] at this
  exact this
/-- one def: its number, its text, its names, its parameters, its evaluator's form -/
structure DefI where
  f : Nat
  x : Str
  st : Stmt
  N : List Str
  ps : List Str
  fn : Fn
def DefI.d (i : DefI) : He.DefD := ⟨(i.x, none), i.x, i.x, defArgs i.st, defBody i.st, defScope i.st, [], []⟩
def prg (defs : List DefI) (gv : Nat → Option D) (sub : Nat → Nat → Bool) : Prg := ⟨fun f => (defs.find? fun d => d.f == f).map (·.fn), gv, sub⟩
def exB (T : Tab) (gv : Nat → Option D) (sub : Nat → Nat → Bool) (K : W.Frag) : Bool :=
  noList K && (bltNames.all fun x => eqO (W.nsIn K mainGlobals x) (some none)) && each T.fns (fun _ x => nsB K x) && each T.glo (fun g x => match gv g with
    | some d => gvB K x d
    | none => false) && each T.cls (fun c x => nsB K x && clsB K (ga K x) (decide (c = 1))) &&
  each T.cls (fun c x => each T.cls fun d y => decide (W.exmOne K (.ref (ga K x)) (.ref (ga K y)) = some (sub c d)) && decide (W.kitOne K (.ref (ga K x)) (.ref (ga K y)) = some (sub c d)))
/-- the defs' texts -/
def stB (T : Tab) (defs : List DefI) : Bool :=
  defs.all (fun d => C8.scC d.N d.ps (defScope d.st) && (chkSs T d.N d.fn.body (defScope d.st) (defBody d.st) && (decide (d.fn.params = d.ps.length) && decide (d.fn.slots = d.N.length)))) &&
    each T.fns (fun f x => match defs.find? fun d => d.f == f with
      | some d => decide (d.x = x)
      | none => false)
def BindsQ (d : DefI) : Prop := ∀ (kV doc pm : Value) (an : Option Addr) (cdv ct : Value) (us : List Value), us.length = d.ps.length → bindArgs (W.fnOf d.x d.x (defArgs d.st) (defBody d.st) (defScope d.st) .none kV doc pm an cdv ct) ⟨us, []⟩ = pure (d.ps.zip us)
def AllB : List DefI → Prop
  | [] => True
  | d :: r => BindsQ d ∧ AllB r
theorem AllB.mem : ∀ {l : List DefI} {d : DefI}, AllB l → d ∈ l → BindsQ d
  | [], _, _, h => by cases h
  | e :: r, d, h, hm => by
    rcases List.mem_cons.mp hm with z | z
    · subst z; exact h.1
    · exact AllB.mem h.2 z
/-! ### the Hook -/
def obsR (n : Nat) (ex : W.Frag → Bool) (fn : List He.DefD) (g : Addr → Option Obj) : AlD := ((ex (frG g (asD g n))) && fn.all fun d => d.ok (frG g (asD g n)), fn.map fun d => fnW (frG g (asD g n)) d.at_)
def SaysR (ex : W.Frag → Bool) (fn : List He.DefD) (K : W.Frag) : Prop := (((ex K) && fn.all fun d => d.ok K, fn.map fun d => fnW K d.at_) : AlD) = valD fn
def hookR (n : Nat) (ex : W.Frag → Bool) (fn : List He.DefD) : W.Hook where
  α := AlD
  obs := fun s => obsR n ex fn s.heap.get?
  val := fun _ => valD fn
  says := fun _ h => ∃ K : W.Frag, K.In h ∧ SaysR ex fn K
  of := fun _ _ e => ⟨_, frG_in, e⟩
  keeps := fun _ _ _ ⟨K, hK, c⟩ k => ⟨K, W.Frag.In.keeps hK k, c⟩
theorem obsR_eq {n : Nat} {ex : W.Frag → Bool} {fn : List He.DefD} {g : Addr → Option Obj} {s : Shared} (h : ∀ a, g a = s.heap.get? a) : obsR n ex fn g = (hookR n ex fn).obs s := by
  have e : g = s.heap.get? := funext h
  rw [e] <;> rfl
theorem SaysR.ex {ex : W.Frag → Bool} {fn : List He.DefD} {K : W.Frag} (c : SaysR ex fn K) : ex K = true := (ba (show (ex K && fn.all fun d => d.ok K) = true from congrArg (fun z : AlD => z.1) c)).1
theorem SaysR.def_ {ex : W.Frag → Bool} {fn : List He.DefD} {K : W.Frag} (c : SaysR ex fn K) {d : He.DefD} (h : d ∈ fn) : ∃ fd, FunD K d.name d.qual d.params d.body d.scope (d.dvs K) (d.kws K) (fAd K d.at_) fd := by
  obtain ⟨i, hi, e⟩ := List.mem_iff_getElem.mp h
  have c2 := (ba (show (ex K && fn.all fun d => d.ok K) = true from congrArg (fun z : AlD => z.1) c)).2
  have e0 : fn.map (fun d => fnW K d.at_) = fn.map DefD.val := congrArg (fun z : AlD => z.2) c
  have e2 : (fn.map fun d => fnW K d.at_)[i]? = (fn.map DefD.val)[i]? := by rw [e0]
  have h' : fn[i]? = some d := by rw [List.getElem?_eq_getElem hi, e]
  rw [List.getElem?_map, List.getElem?_map, h'] at e2
  exact DefD.funD (Option.some.inj e2) (List.all_eq_true.mp c2 d h)
/-! ### the module -/
section
variable {T : Tab} {defs : List DefI} {gv : Nat → Option D} {sub : Nat → Nat → Bool} {K : W.Frag} {h : Heap} {mg : Str → Option Value}
theorem mdl_of (X : K.In h) (G : h.Ns mainGlobals mg) (c : SaysR (exB T gv sub) (defs.map DefI.d) K) (st : stB T defs = true) (bi : AllB defs) : Mdl T (prg defs gv sub) K mg := by
  have ex := c.ex
  unfold exB at ex
  simp only [Bool.and_eq_true] at ex
  obtain ⟨⟨⟨⟨⟨e1, e2⟩, e3⟩, e4⟩, e5⟩, e6⟩ := ex
  obtain ⟨s1, s2⟩ := ba st
  have gl : ∀ {x : Str}, nsB K x = true → mg x = some (.ref (ga K x)) := fun {x} q => W.mg_of X G (eqO_ok q)
  refine ⟨fun f x hf => ?_, fun g x hg => ?_, fun x hx => ?_, fun c x hc => ?_, fun c d x y a b hc hd ha hb => ?_⟩
  · have q1 := each_ok e3 hf
    have q2 := each_ok s2 hf
    cases q : defs.find? fun d => d.f == f with
    | none => rw [q] at q2; cases q2
    | some d =>
      rw [q] at q2
      have ex : d.x = x := of_decide_eq_true q2
      subst ex
      have hm := List.mem_of_find?_eq_some q
      obtain ⟨fd, FD⟩ := c.def_ (List.mem_map_of_mem (f := DefI.d) hm)
      obtain ⟨t1, t2⟩ := ba (List.all_eq_true.mp s1 d hm)
      obtain ⟨t3, t4⟩ := ba t2
      obtain ⟨t5, t6⟩ := ba t4
      have FD : FunD K d.x d.x (defArgs d.st) (defBody d.st) (defScope d.st) [] [] (ga K d.x) fd := FD
      exact ⟨ga K d.x, fd, d.ps, d.N, d.fn, defArgs d.st, defBody d.st, defScope d.st, gl q1, FD.kp, FD.bindsN (bi.mem hm), FD, C8.fnScope_by t1, by show (defs.find? fun d => d.f == f).map (·.fn) = _; rw [q]; rfl, of_decide_eq_true t5, of_decide_eq_true t6, t3⟩
  · have q1 := each_ok e4 hg
    show ∃ u v, mg x = some u ∧ RelV v u ∧ ∀ d, gv g = some d → ∀ F, Dq K F v d
    cases q : gv g with
    | none => rw [q] at q1; cases q1
    | some d =>
      rw [q] at q1
      have q1 : gvB K x d = true := q1
      unfold gvB at q1
      split at q1
      · rename_i u e
        obtain ⟨v, r, z⟩ := datB_ok d u q1
        exact ⟨u, v, W.mg_of X G e, r, fun d' e' => by cases e'; exact z⟩
      · cases q1
  · exact W.mg_none_of X G (eqO_ok (List.all_eq_true.mp e2 x hx))
  · obtain ⟨q1, q2⟩ := ba (each_ok e5 hc)
    exact ⟨ga K x, gl q1, clsB_ok q2⟩
  · obtain ⟨q1, _⟩ := ba (each_ok e5 hc)
    obtain ⟨q2, _⟩ := ba (each_ok e5 hd)
    rw [gl q1] at ha
    rw [gl q2] at hb
    cases ha
    cases hb
    obtain ⟨z1, z2⟩ := ba (each_ok (each_ok e6 hc) hd)
    exact ⟨of_decide_eq_true z1, of_decide_eq_true z2⟩
theorem noList_ok (h : noList K = true) {a : Addr} {o : Obj} (e : K.lookup a = some o) : o.cls ≠ .type "list" := by
  have hm : (a, o) ∈ K := by
    revert e
    induction K with
    | nil => intro e; cases e
    | cons p r ih =>
      intro e
      rw [List.lookup_cons] at e
      cases q : a == p.1 with
      | true =>
        rw [q] at e
        cases e
        have := beq_iff_eq.mp q
        subst this
        exact List.mem_cons_self
      | false =>
        rw [q] at e
        refine List.mem_cons_of_mem _ (ih ?_ e)
        unfold noList at h ⊢
        rw [List.all_cons] at h
        exact (ba h).2
  have := List.all_eq_true.mp h (a, o) hm
  simpa using this
/-- the script -/
theorem script_dq (e : noList K = true) {H : Hp} {a : Addr} {ns : List Int} (hS : SqL K H a (ns.map V.int)) : Dq K H (.ref a) (.list (ns.map PyData.int)) := by
  rcases hS with hS | ⟨o, its, n, h1, h2, _⟩
  · exact .lst hS (DqAll.ints ns)
  · exact absurd h2 (noList_ok e h1)
end
end RL
/-! RLEnd: a law by its evaluator's end. -/
namespace RL
open PySem PySem.Spec PyProof.Rows L2 He
theorem law_walk {l : PySem.W.OpenLaw} {n : Nat} {q : Program} {loose : List Str} {XP : (Str → Option Value) → Heap → Prop} {d : DefRec} {T : Tab} {defs : List DefI} {gv : Nat → Option D} {sub : Nat → Nat → Bool} {i : DefI}
    (hn : l.most = some 63) (hdf : d.params.defaults = []) (hname : d.name = ("law" : Str)) (st : stB T defs = true) (bi : AllB defs) (h0 : defs.find? (fun d => d.f == 0) = some i) (hx : i.x = ("law" : Str)) (hps : i.ps = [("script" : Str)]) (hfn : i.fn.params = 1) (hT : T.fns[0]? = some (some ("law" : Str)))
    (hr : Room (n + 1) callerA) (hev : ∀ ns : List Int, ns.length ≤ 63 → callN (prg defs gv sub) (n + 1) 0 [.list (ns.map .int)] = .ok (.dat (.bool true))) :
    PySem.W.WalkO q loose XP (hookR 5 (exB T gv sub) (defs.map DefI.d)).says l.row.toRowW d [] (fun f vs => PySem.call f vs) := by
  refine Att.attach_call hn hdf fun w s₀ s₁ mg mb fa o pm cd doc a vs ns G Y ho hd hcd hmg hobj hints hlen hg => ?_
  obtain ⟨K, KX, c⟩ := Y
  have M := mdl_of KX G.T.g c st bi
  have ex := c.ex
  have hnl : noList K = true := by
    unfold exB at ex
    simp only [Bool.and_eq_true] at ex
    exact ex.1.1.1.1.1
  have hm := List.mem_of_find?_eq_some h0
  obtain ⟨fd, FD⟩ := c.def_ (List.mem_map_of_mem (f := DefI.d) hm)
  have FD : FunD K i.x i.x (defArgs i.st) (defBody i.st) (defScope i.st) [] [] (ga K i.x) fd := FD
  obtain ⟨s1, s2⟩ := ba st
  obtain ⟨t1, t2⟩ := ba (List.all_eq_true.mp s1 i hm)
  obtain ⟨t3, t4⟩ := ba t2
  obtain ⟨t5, t6⟩ := ba t4
  have S := C8.fnScope_by t1
  have hga : mg i.x = some (.ref (ga K i.x)) := by
    have ex2 := ex
    unfold exB at ex2
    simp only [Bool.and_eq_true] at ex2
    rw [hx]
    exact PySem.W.mg_of KX G.T.g (eqO_ok (each_ok ex2.1.1.1.2 hT))
  have hfa : fa = ga K i.x := by
    rw [hname] at hmg
    rw [hx] at hga ⊢
    rw [hmg] at hga
    cases hga
    rfl
  subst hfa
  have hF : ∀ base : Heap, K.In base → base.Ns mainGlobals mg → FnOk l.prog w K mg base (L2.CX l.prog w) (n + 1) (ga K i.x) fd ["script"] (spF T K mg 1 (callN (prg defs gv sub) (n + 1) 0)) := fun base _ _ => by
    have z := fn_step (f := 0) (wd_all (P := l.prog) (w := w) (base := base) M n) FD S (by show (defs.find? fun d => d.f == 0).map (·.fn) = _; rw [h0]; rfl) (of_decide_eq_true t5) (of_decide_eq_true t6) t3
    rw [hps] at z
    exact z
  have hb := fun (s : Shared) (u : Value) => FD.bindsA (ps := i.ps) (bi.mem hm) s [u] (by rw [hps]; rfl)
  rw [hps] at hb
  refine law_call (x := "script") KX G.T.g G.T.b G.T.builtins G.T.nolimit hg hobj hints (Nat.le_trans hlen (by decide)) hr hF hb (fun H hO hS => ?_) fun H e s' hc => ?_
  · refine ⟨H, [.list (ns.map PyData.int)], Same.refl H, .cons (script_dq hnl hS) .nil, rfl, ?_⟩
    rw [hev ns hlen]
    intro x F' H' _ hv
    cases hv
    rfl
  · obtain ⟨_, _, _, _, _, _, _, _, _, _, _, _, z⟩ := hc
    exact z
end RL
/-! RLMath: the evaluator's loops; the draws that all laws share. -/
namespace RL
open PySem
theorem forL_inv {step : Env → D → SR} (P : Nat → Env → Prop) : ∀ (its : List D) (k : Nat) (ρ : Env), P k ρ → (∀ i d ρ, its[i]? = some d → P (k + i) ρ → ∃ ρ', step ρ d = .nx ρ' ∧ P (k + i + 1) ρ') → ∃ ρ', forL step its ρ = .nx ρ' ∧ P (k + its.length) ρ'
  | [], k, ρ, h, _ => ⟨ρ, rfl, h⟩
  | d :: its, k, ρ, h, hs => by
    obtain ⟨ρ1, e1, h1⟩ := hs 0 d ρ rfl h
    obtain ⟨ρ2, e2, h2⟩ := forL_inv P its (k + 1) ρ1 h1 fun i d' ρ' hd hp => by
      have := hs (i + 1) d' ρ' (by simpa using hd) (by rw [show k + (i + 1) = k + 1 + i by omega]; exact hp)
      rw [show k + (i + 1) + 1 = k + 1 + i + 1 by omega] at this
      exact this
    refine ⟨ρ2, ?_, by rw [List.length_cons, show k + (its.length + 1) = k + 1 + its.length by omega]; exact h2⟩
    show (step ρ d).seq _ = _
    rw [e1]
    exact e2
theorem callN_eq {P : Prg} {n f : Nat} {fn : Fn} {args : List D} (h : P.fn f = some fn) (hl : args.length = fn.params) : callN P (n + 1) f args = outcome (execs ⟨callN P n, P.gv, P.sub⟩ (enter fn args) fn.body) := by
  show (match P.fn f with
    | some fn => Res.grd (decide (args.length = fn.params)) (outcome (execs ⟨callN P n, P.gv, P.sub⟩ (enter fn args) fn.body))
    | none => .bad) = _
  rw [h]
  show Res.grd (decide (args.length = fn.params)) _ = _
  rw [decide_eq_true hl]
  rfl
theorem atI_nat {α : Type} {xs : List α} {k : Nat} (h : k < xs.length) : L2.atI xs (k : Int) = some xs[k] := by
  unfold L2.atI L2.ixN
  simp [h]
end RL
/-! RLDraw: the draws that all laws share (printed forms: l_cell, l_row). -/
namespace RL
open PySem
def perm6 : List D := [[0, 1, 2], [0, 2, 1], [1, 0, 2], [1, 2, 0], [2, 0, 1], [2, 1, 0]].map fun l => .tuple (l.map fun (i : Int) => .int i)
def gvT : Nat → Option D
  | 0 => some (.tuple [.int 0, .int 1, .int 2])
  | 1 => some (.tuple perm6)
  | 2 => some (.int 6)
  | 3 => some (.int 9)
  | 4 => some (.int 3)
  | 5 => some (.str "0123456789")
  | _ => none
def subT : Nat → Nat → Bool := fun c d => c == d || d == 0 && decide (c ≤ 15) || d == 16
def l_cell : Fn := ⟨2, 2,
   [.ite (.cmp .lt (.var 1) (.fn1 .len (.var 0)))
     [.ret (.idx (.var 0) (.var 1))]
     [],
    .ret (.con (.int 0))]⟩
def l_row : Fn := ⟨5, 2,
   [.asg 2 (.call 68 [(.var 0), (.var 1)]),
    .new 3 (.lst []),
    .for_ (.one 4) .rg1 (.con (.int 60)) (.con .none)
     [.ite (.cmp .lt (.call 68 [(.var 0), (.var 1)]) (.bin .pow (.con (.int 10)) (.con (.int 18))))
       [.asg 2 (.bin .mod (.bin .add (.bin .add (.bin .add (.bin .mul (.var 2) (.con (.int 48271))) (.bin .mul (.con (.int 131)) (.var 4))) (.con (.int 7))) (.call 68 [(.var 0), (.bin .mod (.bin .add (.bin .add (.var 1) (.con (.int 1))) (.var 4)) (.con (.int 20)))])) (.con (.int 2147483647))),
        .app 3 (.bin .mod (.bin .fdiv (.var 2) (.con (.int 11))) (.con (.int 1000)))]
       [.app 3 (.bin .mod (.var 2) (.con (.int 1000))),
        .asg 2 (.bin .fdiv (.var 2) (.con (.int 1000)))]],
    .frz [3],
    .ret (.var 3)]⟩
section
variable {P : Prg} {n : Nat}
theorem cell_ok (h : P.fn 68 = some l_cell) (ns : List Int) (k : Int) (hk : 0 ≤ k) : ∃ z, callN P (n + 1) 68 [.list (ns.map .int), .int k] = .ok (.dat (.int z)) := by
  rw [callN_eq h rfl]
  by_cases hlt : k < ns.length
  · obtain ⟨j, rfl⟩ := Int.eq_ofNat_of_zero_le hk
    have hj : j < ns.length := by omega
    refine ⟨ns[j], ?_⟩
    simp [l_cell, enter, execs, exec, evT, ev, evF, Res.bind, opt, datR, fn1D, rI, cmpD, ordV, ordI, retB, truthy, SR.of, SR.seq, hlt, idxD, ret, outcome, frozen, L2.atI, L2.ixN, hj]
  · refine ⟨0, ?_⟩
    simp [l_cell, enter, execs, exec, evT, ev, evF, Res.bind, opt, datR, fn1D, rI, cmpD, ordV, ordI, retB, truthy, SR.of, SR.seq, hlt, idxD, ret, outcome, frozen]
theorem range_get {m i : Nat} {d : D} (h : ((List.range m).map fun i => PyData.int (i : Nat))[i]? = some d) : d = .int (i : Nat) := by
  rw [List.getElem?_map] at h
  by_cases hi : i < m
  · rw [List.getElem?_range hi] at h
    cases h; rfl
  · rw [List.getElem?_eq_none (by simpa using Nat.le_of_not_lt hi)] at h
    cases h
theorem row_ok (h : P.fn 68 = some l_cell) (h2 : P.fn 69 = some l_row) (ns : List Int) (k : Int) (hk : 0 ≤ k) :
    ∃ l : List Int, callN P (n + 2) 69 [.list (ns.map .int), .int k] = .ok (.dat (.list (l.map .int))) ∧ l.length = 60 ∧ ∀ v ∈ l, 0 ≤ v ∧ v < 1000 := by
  rw [callN_eq h2 rfl]
  obtain ⟨z0, hz0⟩ := cell_ok (n := n) h ns k hk
  let C : Cfg := ⟨callN P (n + 1), P.gv, P.sub⟩
  let body : List Stm := [.ite (.cmp .lt (.call 68 [(.var 0), (.var 1)]) (.bin .pow (.con (.int 10)) (.con (.int 18))))
       [.asg 2 (.bin .mod (.bin .add (.bin .add (.bin .add (.bin .mul (.var 2) (.con (.int 48271))) (.bin .mul (.con (.int 131)) (.var 4))) (.con (.int 7))) (.call 68 [(.var 0), (.bin .mod (.bin .add (.bin .add (.var 1) (.con (.int 1))) (.var 4)) (.con (.int 20)))])) (.con (.int 2147483647))),
        .app 3 (.bin .mod (.bin .fdiv (.var 2) (.con (.int 11))) (.con (.int 1000)))]
       [.app 3 (.bin .mod (.var 2) (.con (.int 1000))),
        .asg 2 (.bin .fdiv (.var 2) (.con (.int 1000)))]]
  let Q : Nat → Env → Prop := fun i ρ => i ≤ 60 ∧ ∃ (z : Int) (l : List Int) (t : Option Sl), ρ = [some (.val (.dat (.list (ns.map .int)))), some (.val (.dat (.int k))), some (.val (.dat (.int z))), some (.own (.dat (.list (l.map .int)))), t] ∧ l.length = i ∧ ∀ v ∈ l, 0 ≤ v ∧ v < 1000
  have loop := forL_inv (step := fun r d => SR.opt (bindTg r d (.one 4)) fun r => execs C r body) Q ((List.range 60).map fun i => PyData.int (i : Nat)) 0
    [some (.val (.dat (.list (ns.map .int)))), some (.val (.dat (.int k))), some (.val (.dat (.int z0))), some (.own (.dat (.list []))), none]
    ⟨by omega, z0, [], none, rfl, rfl, fun v hv => by cases hv⟩ (fun i d ρ hd hQ => by
      have hi : i < 60 := by
        have := (List.getElem?_eq_some_iff.mp hd).1
        simpa using this
      have := range_get hd
      subst this
      obtain ⟨_, z, l, t, rfl, hl, hv⟩ := hQ
      rw [Nat.zero_add] at hl
      obtain ⟨z1, hz1⟩ := cell_ok (n := n) h ns ((k + 1 + (i : Int)) % 20) (Int.emod_nonneg _ (by decide))
      have sz : szOk (l.length + 1) = true := by
        have h61 : 61 ≤ sizeLine := by decide
        unfold szOk
        exact decide_eq_true (by omega)
      have fin : ∀ (v : Int) (l' : List Int), 0 ≤ v → v < 1000 → l' = l ++ [v] → l'.length = 0 + i + 1 ∧ ∀ v ∈ l', 0 ≤ v ∧ v < 1000 := fun v l' h1 h2 e => by
        subst e
        refine ⟨by simp [hl], fun w hw => ?_⟩
        rcases List.mem_append.mp hw with q | q
        · exact hv w q
        · have : w = v := by simpa using q
          subst this; exact ⟨h1, h2⟩
      by_cases hlt : z0 < 10 ^ 18
      · refine ⟨_, ?_, by omega, (z * 48271 + 131 * (i : Int) + 7 + z1) % 2147483647, l ++ [(z * 48271 + 131 * (i : Int) + 7 + z1) % 2147483647 / 11 % 1000], some (.val (.dat (.int i))), rfl, fin _ _ (Int.emod_nonneg _ (by decide)) (Int.emod_lt_of_pos _ (by decide)) rfl⟩
        have sm : smallI 48271 = true := by decide
        have sm2 : smallI 131 = true := by decide
        have hl2 : decide (z0 < (10 : Int) ^ 18) = true := decide_eq_true hlt
        simp [body, C, SR.opt, bindTg, execs, exec, evT, ev, evs, evF, evD, dat, Res.bind, opt, datR, binD, rI, grdO, hz0, cmpD, ordV, ordI, retB, truthy, SR.of, SR.seq, ret, frozen, sm, sm2, hz1, ownL, appV, sz]
        simp [show z0 < 1000000000000000000 from hlt, SR.seq, execs, exec, SR.of, evF, ev, evs, Res.bind, opt, dat, datR, binD, rI, grdO, ret, frozen, sm, sm2, hz1, SR.opt, ownL, evD, appV, sz]
      · refine ⟨_, ?_, by omega, z / 1000, l ++ [z % 1000], some (.val (.dat (.int i))), rfl, fin _ _ (Int.emod_nonneg _ (by decide)) (Int.emod_lt_of_pos _ (by decide)) rfl⟩
        simp [body, C, SR.opt, bindTg, execs, exec, evT, ev, evs, evF, evD, dat, Res.bind, opt, datR, binD, rI, grdO, hz0, cmpD, ordV, ordI, retB, truthy, SR.of, SR.seq, ret, frozen, hz1, ownL, appV, sz]
        simp [show ¬ z0 < 1000000000000000000 from hlt, SR.seq, execs, exec, SR.of, evF, ev, evs, Res.bind, opt, dat, datR, binD, rI, grdO, ret, frozen, hz1, SR.opt, ownL, evD, appV, sz])
  obtain ⟨ρ', e, _, z, l, t, rfl, hl, hv⟩ := loop
  refine ⟨l, ?_, by simpa using hl, hv⟩
  have e1 : outcome (execs C (enter l_row [.list (ns.map .int), .int k]) l_row.body) = outcome ((forL (fun r d => SR.opt (bindTg r d (.one 4)) fun r => execs C r body) ((List.range 60).map fun i => PyData.int (i : Nat)) [some (.val (.dat (.list (ns.map .int)))), some (.val (.dat (.int k))), some (.val (.dat (.int z0))), some (.own (.dat (.list []))), none]).seq fun r => execs C r [.frz [3], .ret (.var 3)]) := by
    simp [l_row, enter, C, body, execs, exec, evs, ev, evF, Res.bind, opt, dat, hz0, SR.of, SR.seq, frozen, fresh, grdO, SR.opt, szOk, ret, itemsOf]
  show outcome (execs C (enter l_row [.list (ns.map .int), .int k]) l_row.body) = _
  rw [e1, e]
  simp [SR.seq, execs, exec, frzAll, frz1, SR.of, evF, ev, Res.bind, opt, frozen, outcome]
end
end RL
namespace RL
open PySem PySem.Spec PyProof.Rows L2
/-! ### the defs, as the evaluator has them -/
def law_k01 : Fn := ⟨6, 1,
   [.asg 1 (.call 69 [(.var 0), (.con (.int 2))]),
    .par [2, 3] [(.idx (.call 70 []) (.bin .mod (.idx (.var 1) (.con (.int 0))) (.con (.int 6)))), (.idx (.call 70 []) (.bin .mod (.idx (.var 1) (.con (.int 1))) (.con (.int 6))))],
    .ite (.or (.cmp .ne (.call 6 [(.var 2), (.var 3)]) (.call 72 [(.lst [(.var 2), (.var 3)])])) (.cmp .ne (.call 7 [(.var 2)]) (.call 71 [(.var 2)])))
     [.ret (.con (.bool false))]
     [],
    .ite (.cmp .ne (.call 6 [(.var 2), (.call 7 [(.var 2)])]) (.tup [(.con (.int 0)), (.con (.int 1)), (.con (.int 2))]))
     [.ret (.con (.bool false))]
     [],
    .asg 4 (.lst [(.con .none), (.lst [(.con (.int 0)), (.con (.int 1)), (.con (.int 2))]), (.tup [(.con (.int 0)), (.con (.int 1))]), (.tup [(.con (.int 0)), (.con (.int 1)), (.con (.int 2)), (.con (.int 3))]), (.tup [(.con (.int 0)), (.con (.int 0)), (.con (.int 1))]), (.tup [(.con (.int 0)), (.con (.int 1)), (.con (.int 3))]), (.tup [(.con (.int 0)), (.con (.bool true)), (.con (.int 2))]), (.tup [(.con (.int 0)), (.con .none), (.con (.int 2))])]),
    .asg 4 (.idx (.bin .add (.var 4) (.lst [(.con (.str ⟨#[48, 49, 50]⟩))])) (.bin .mod (.idx (.var 1) (.con (.int 2))) (.con (.int 9)))),
    .ret (.cmp .eq (.cpr [5] (.one 5) .rg1 (.con (.int 3)) (.con .none) (.call 73 [(.var 5), (.var 4)])) (.bin .mul (.lst [(.con (.str ⟨#[110, 97, 109, 101, 115]⟩))]) (.con (.int 3))))]⟩
def f_in_range : Fn := ⟨3, 3,
   [.ret (.and (.isi (.var 0) .int) (.and (.not (.isi (.var 0) .bool)) (.chn .le .le (.var 1) (.var 0) (.var 2))))]⟩
def f_is_permutation : Fn := ⟨2, 1,
   [.ite (.or (.not (.isi (.var 0) .tuple)) (.or (.cmp .ne (.fn1 .len (.var 0)) (.con (.int 3))) (.cpi [1] (.one 1) .items (.var 0) (.con .none) (.not (.call 1 [(.var 1), (.con (.int 0)), (.con (.int 2))])) (.var 1))))
     [.ret (.con (.bool false))]
     [],
    .ret (.cmp .isin (.var 0) (.glo 1))]⟩
def f_check_permutation : Fn := ⟨1, 1,
   [.ite (.not (.call 2 [(.var 0)]))
     [.raise 4]
     []]⟩
def f_after : Fn := ⟨3, 2,
   [.ret (.fn1 .tuple (.cpr [2] (.one 2) .items (.var 0) (.con .none) (.idx (.var 1) (.var 2))))]⟩
def f_opposite : Fn := ⟨2, 1,
   [.ret (.fn1 .tuple (.cpr [1] (.one 1) .items (.glo 0) (.con .none) (.mt .index (.var 0) (.var 1))))]⟩
def f_compose : Fn := ⟨2, 2,
   [.exp (.call 3 [(.var 0)]),
    .exp (.call 3 [(.var 1)]),
    .ret (.call 4 [(.var 0), (.var 1)])]⟩
def f_inverse : Fn := ⟨1, 1,
   [.exp (.call 3 [(.var 0)]),
    .ret (.call 5 [(.var 0)])]⟩
def l_six : Fn := ⟨0, 0,
   [.ret (.lst [(.tup [(.con (.int 0)), (.con (.int 1)), (.con (.int 2))]), (.tup [(.con (.int 0)), (.con (.int 2)), (.con (.int 1))]), (.tup [(.con (.int 1)), (.con (.int 0)), (.con (.int 2))]), (.tup [(.con (.int 1)), (.con (.int 2)), (.con (.int 0))]), (.tup [(.con (.int 2)), (.con (.int 0)), (.con (.int 1))]), (.tup [(.con (.int 2)), (.con (.int 1)), (.con (.int 0))])])]⟩
def l_back : Fn := ⟨3, 1,
   [.new 1 (.lst [(.con (.int 0)), (.con (.int 0)), (.con (.int 0))]),
    .for_ (.one 2) .rg1 (.con (.int 3)) (.con .none)
     [.set 1 (.idx (.var 0) (.var 2)) (.var 2)],
    .ret (.fn1 .tuple (.var 1))]⟩
def l_then : Fn := ⟨3, 1,
   [.asg 1 (.tup [(.con (.int 0)), (.con (.int 1)), (.con (.int 2))]),
    .for_ (.one 2) .items (.var 0) (.con .none)
     [.asg 1 (.tup [(.idx (.var 2) (.idx (.var 1) (.con (.int 0)))), (.idx (.var 2) (.idx (.var 1) (.con (.int 1)))), (.idx (.var 2) (.idx (.var 1) (.con (.int 2))))])],
    .ret (.var 1)]⟩
def l_named : Fn := ⟨3, 2,
   [.try_ [.ite (.cmp .eq (.var 0) (.con (.int 0)))
       [.ret (.call 7 [(.var 1)])]
       [],
      .ret (.ite (.cmp .eq (.var 0) (.con (.int 1))) (.call 6 [(.var 1), (.tup [(.con (.int 0)), (.con (.int 1)), (.con (.int 2))])]) (.call 6 [(.tup [(.con (.int 0)), (.con (.int 1)), (.con (.int 2))]), (.var 1)]))]
     (.cons 4 2 [.ret (.ite (.and (.isi (.var 2) (.cls 0)) (.not (.isi (.var 2) (.cls 3)))) (.con (.str ⟨#[110, 97, 109, 101, 115]⟩)) (.con (.str ⟨#[111, 116, 104, 101, 114]⟩)))] .nil)]⟩
def top (i : Nat) : Stmt := PySem.Challenge.pw_renamedlabels_k01_permutations.main.body.getD i (.Pass ⟨0, 0, 0, 0⟩)
def i_law : DefI := ⟨0, "law", top 21, ["script", "draws", "one", "other", "wrong", "mode"], ["script"], law_k01⟩
def i_in_range : DefI := ⟨1, "in_range", top 7, ["value", "low", "high"], ["value", "low", "high"], f_in_range⟩
def i_is_permutation : DefI := ⟨2, "is_permutation", top 8, ["value", "one"], ["value"], f_is_permutation⟩
def i_check_permutation : DefI := ⟨3, "check_permutation", top 9, ["value"], ["value"], f_check_permutation⟩
def i_after : DefI := ⟨4, "after", top 10, ["one", "other", "name"], ["one", "other"], f_after⟩
def i_opposite : DefI := ⟨5, "opposite", top 11, ["one", "name"], ["one"], f_opposite⟩
def i_compose : DefI := ⟨6, "compose", top 12, ["one", "other"], ["one", "other"], f_compose⟩
def i_inverse : DefI := ⟨7, "inverse", top 13, ["one"], ["one"], f_inverse⟩
def i_law_cell : DefI := ⟨68, "_law_cell", top 15, ["script", "k"], ["script", "k"], l_cell⟩
def i_law_row : DefI := ⟨69, "_law_row", top 16, ["script", "at", "cell", "found", "time"], ["script", "at"], l_row⟩
def i_law_six : DefI := ⟨70, "_law_six", top 17, [], [], l_six⟩
def i_law_back : DefI := ⟨71, "_law_back", top 18, ["one", "found", "name"], ["one"], l_back⟩
def i_law_then : DefI := ⟨72, "_law_then", top 19, ["some", "found", "one"], ["some"], l_then⟩
def i_law_named : DefI := ⟨73, "_law_named", top 20, ["mode", "one", "e"], ["mode", "one"], l_named⟩
def defs : List DefI := [i_law, i_in_range, i_is_permutation, i_check_permutation, i_after, i_opposite, i_compose, i_inverse, i_law_cell, i_law_row, i_law_six, i_law_back, i_law_then, i_law_named]
def tabF0 : List (Option Str) := [some "law", some "in_range", some "is_permutation", some "check_permutation", some "after", some "opposite", some "compose", some "inverse", none, none, none, none, none, none, none, none, none, none, none, none, none, none, none, none, none]
def tabF1 : List (Option Str) := [none, none, none, none, none, none, none, none, none, none, none, none, none, none, none, none, none, none, none, none, none, none, none, none, none]
def tabF2 : List (Option Str) := [none, none, none, none, none, none, none, none, none, none, none, none, none, none, none, none, none, none, some "_law_cell", some "_law_row", some "_law_six", some "_law_back", some "_law_then", some "_law_named"]
def tabF : List (Option Str) := tabF0 ++ tabF1 ++ tabF2
def tabG : List (Option Str) := [some "SAME", some "ALL", none, none, none, none]
def tabC : List (Option Str) := [some "LabelError", none, none, some "InvalidLabels", some "InvalidNames", none, none, none, none, none, none, none, none, none, none, none]
def tab : Tab := ⟨tabF, tabG, tabC⟩
def Pg : Prg := prg defs gvT subT
end RL
namespace RL
open PySem PySem.Spec PyProof.Rows L2
theorem st_ok : stB tab defs = true := by decide +kernel
theorem bi_ok : AllB defs := ⟨fun _ _ _ _ _ _ us hl => match us, hl with | [_], _ => rfl, fun _ _ _ _ _ _ us hl => match us, hl with | [_, _, _], _ => rfl, fun _ _ _ _ _ _ us hl => match us, hl with | [_], _ => rfl, fun _ _ _ _ _ _ us hl => match us, hl with | [_], _ => rfl, fun _ _ _ _ _ _ us hl => match us, hl with | [_, _], _ => rfl, fun _ _ _ _ _ _ us hl => match us, hl with | [_], _ => rfl, fun _ _ _ _ _ _ us hl => match us, hl with | [_, _], _ => rfl, fun _ _ _ _ _ _ us hl => match us, hl with | [_], _ => rfl, fun _ _ _ _ _ _ us hl => match us, hl with | [_, _], _ => rfl, fun _ _ _ _ _ _ us hl => match us, hl with | [_, _], _ => rfl, fun _ _ _ _ _ _ us hl => match us, hl with | [], _ => rfl, fun _ _ _ _ _ _ us hl => match us, hl with | [_], _ => rfl, fun _ _ _ _ _ _ us hl => match us, hl with | [_], _ => rfl, fun _ _ _ _ _ _ us hl => match us, hl with | [_, _], _ => rfl, trivial⟩
abbrev hk : W.Hook := hookR 5 (exB tab gvT subT) (defs.map DefI.d)
def ob (s : W.SharedT) : He.AlD := obsR 5 (exB tab gvT subT) (defs.map DefI.d) (HandSHeadRun.getT s)
theorem ob_eq (s : W.SharedT) : ob s = hk.obs s.abs := obsR_eq (HandSHeadRun.getT_eq s)
abbrev R : W.OpenRow := W.OpenLaw.row PySem.Challenge.rw_renamedlabels_k01_permutations
def loose : List Str := ["__name__", "LabelError", "InvalidLabels", "InvalidNames", "SAME", "ALL", "in_range", "is_permutation", "check_permutation", "after", "opposite", "compose", "inverse", "_law_cell", "_law_row", "_law_six", "_law_back", "_law_then", "_law_named"]
theorem run (w : World) : HandSHeadRun.RunEq R (W.view R.prog [21]) hk ob 4000 loose w := by
  intro os
  kernel_rfl
theorem fin {n : Nat} (hr : Room (n + 1) callerA) (hev : ∀ ns : List Int, ns.length ≤ 63 → callN Pg (n + 1) 0 [.list (ns.map .int)] = .ok (.dat (.bool true))) : PySem.Challenge.rw_renamedlabels_k01_permutations.Holds := by
  w_on; o_law
  refine HandSHeadRun.head_any (r := W.OpenLaw.row PySem.Challenge.rw_renamedlabels_k01_permutations) (q := W.view (W.OpenLaw.row PySem.Challenge.rw_renamedlabels_k01_permutations).prog [21]) (H := hk) (ob := ob) (M := 4000) (loose := loose) (d := HandSHeadRun.topDef (W.OpenLaw.row PySem.Challenge.rw_renamedlabels_k01_permutations).prog 21) (kwd := []) ob_eq
    (by kernel_rfl) (fun s => by kernel_rfl) run (by kernel_rfl) (by kernel_rfl) (by kernel_rfl) (by rfl) (by first | assumption | decide +kernel) (by decide +kernel) ⟨rfl, rfl, rfl, rfl, rfl, by decide +kernel⟩ ?hw ?hc
  case hw => w_witness2
  case hc =>
    exact law_walk (l := PySem.Challenge.rw_renamedlabels_k01_permutations) (n := n) (i := i_law) rfl (by kernel_rfl) (by kernel_rfl) st_ok bi_ok rfl rfl rfl rfl rfl hr hev
end RL
namespace RL
open PySem PySem.Spec PyProof.Rows L2
/-! ### the law's end, by its draws -/
abbrev C11 : Cfg := ⟨callN Pg 11, Pg.gv, Pg.sub⟩
def permA (a : Nat) : D := perm6.getD a .none
def wrongs : List D := [.none, .list [.int 0, .int 1, .int 2], .tuple [.int 0, .int 1], .tuple [.int 0, .int 1, .int 2, .int 3], .tuple [.int 0, .int 0, .int 1], .tuple [.int 0, .int 1, .int 3], .tuple [.int 0, .bool true, .int 2], .tuple [.int 0, .none, .int 2], .str ⟨#[48, 49, 50]⟩]
def st (i : Nat) : Stm := law_k01.body.getD i .pass
theorem two (x y : Option Sl) : ∀ a, a < 6 → ∀ b, b < 6 → execs C11 [x, y, some (.val (.dat (permA a))), some (.val (.dat (permA b))), none, none] [st 2, st 3, st 4] =
    .nx [x, y, some (.val (.dat (permA a))), some (.val (.dat (permA b))), some (.val (.dat (.list (wrongs.take 8)))), none] := by
  intro a ha b hb
  rcases a with _ | _ | _ | _ | _ | _ | a
  all_goals first | omega | skip
  all_goals (rcases b with _ | _ | _ | _ | _ | _ | b)
  all_goals first | omega | kernel_rfl
theorem last (x y z u : Option Sl) : ∀ c, c < 9 → execs C11 [x, y, z, u, some (.val (.dat (wrongs.getD c .none))), none] [st 6] = .rt (.dat (.bool true)) := by
  intro c hc
  rcases c with _ | _ | _ | _ | _ | _ | _ | _ | _ | c
  all_goals first | omega | kernel_rfl
theorem mod_nat {d : Int} {m : Nat} (hm : 0 < m) : ∃ a : Nat, d % (m : Int) = (a : Int) ∧ a < m := by
  have h1 := Int.emod_nonneg d (show (m : Int) ≠ 0 by omega)
  have h2 := Int.emod_lt_of_pos d (show (0 : Int) < m by omega)
  exact ⟨(d % (m : Int)).toNat, by omega, by omega⟩
theorem six_ok : callN Pg 11 70 [] = .ok (.dat (.list perm6)) := by kernel_rfl
theorem perm_at {a : Nat} (h : a < 6) : L2.atI perm6 (a : Int) = some (permA a) := by
  rw [atI_nat (show a < perm6.length from h)]
  unfold permA
  rw [List.getD_eq_getElem?_getD, List.getElem?_eq_getElem (show a < perm6.length from h)]
  rfl
theorem wrong_at {c : Nat} (h : c < 9) : L2.atI wrongs (c : Int) = some (wrongs.getD c .none) := by
  rw [atI_nat (show c < wrongs.length from h)]
  rw [List.getD_eq_getElem?_getD, List.getElem?_eq_getElem (show c < wrongs.length from h)]
  rfl
theorem law_ev (ns : List Int) : callN Pg 12 0 [.list (ns.map .int)] = .ok (.dat (.bool true)) := by
  obtain ⟨l, e, hl, hv⟩ := row_ok (P := Pg) (n := 9) rfl rfl ns 2 (by decide)
  match l, hl, e with
  | d0 :: d1 :: d2 :: r, hl, e =>
    obtain ⟨a, ea, ha⟩ := mod_nat (d := d0) (m := 6) (by decide)
    obtain ⟨b, eb, hb⟩ := mod_nat (d := d1) (m := 6) (by decide)
    obtain ⟨c, ec, hc⟩ := mod_nat (d := d2) (m := 9) (by decide)
    have ea : d0 % 6 = (a : Int) := ea
    have eb : d1 % 6 = (b : Int) := eb
    have ec : d2 % 9 = (c : Int) := ec
    rw [callN_eq (n := 11) (fn := law_k01) rfl rfl]
    show outcome (execs C11 (enter law_k01 [.list (ns.map .int)]) [st 0, st 1, st 2, st 3, st 4, st 5, st 6]) = _
    let S : Option Sl := some (.val (.dat (.list (ns.map .int))))
    let W : Option Sl := some (.val (.dat (.list ((d0 :: d1 :: d2 :: r).map .int))))
    have e0 : exec C11 (enter law_k01 [.list (ns.map .int)]) (st 0) = .nx [S, W, none, none, none, none] := by
      show SR.of _ (evF C11 _ (.call 69 [.var 0, .con (.int 2)])) _ = _
      simp [enter, law_k01, S, W, evF, ev, evs, Res.bind, opt, dat, ret, C11, e, frozen, SR.of]
    have at0 : L2.atI (((d0 :: d1 :: d2 :: r).map PyData.int)) 0 = some (.int d0) := atI_nat (xs := (d0 :: d1 :: d2 :: r).map PyData.int) (k := 0) (by simp)
    have at1 : L2.atI (((d0 :: d1 :: d2 :: r).map PyData.int)) 1 = some (.int d1) := atI_nat (xs := (d0 :: d1 :: d2 :: r).map PyData.int) (k := 1) (by simp)
    have at2 : L2.atI (((d0 :: d1 :: d2 :: r).map PyData.int)) 2 = some (.int d2) := atI_nat (xs := (d0 :: d1 :: d2 :: r).map PyData.int) (k := 2) (by simp)
    have e1 : exec C11 [S, W, none, none, none, none] (st 1) = .nx [S, W, some (.val (.dat (permA a))), some (.val (.dat (permA b))), none, none] := by
      show SR.of _ (evs C11 _ [(.idx (.call 70 []) (.bin .mod (.idx (.var 1) (.con (.int 0))) (.con (.int 6)))), (.idx (.call 70 []) (.bin .mod (.idx (.var 1) (.con (.int 1))) (.con (.int 6))))]) _ = _
      simp only [evs, ev, Res.bind, opt, dat, datR, ret, C11, six_ok, S, W, List.getElem?_cons_zero, List.getElem?_cons_succ, idxD, at0, at1, binD, grdO, rI, ea, eb, perm_at ha, perm_at hb, SR.of, SR.opt, setAll, decide_true, show decide ((0 : Int) < 6) = true from rfl]
      rfl
    have e5 : exec C11 [S, W, some (.val (.dat (permA a))), some (.val (.dat (permA b))), some (.val (.dat (.list (wrongs.take 8)))), none] (st 5) = .nx [S, W, some (.val (.dat (permA a))), some (.val (.dat (permA b))), some (.val (.dat (wrongs.getD c .none))), none] := by
      show SR.of _ (evF C11 _ (.idx (.bin .add (.var 4) (.lst [(.con (.str ⟨#[48, 49, 50]⟩))])) (.bin .mod (.idx (.var 1) (.con (.int 2))) (.con (.int 9))))) _ = _
      have ew : binD .add (.list (wrongs.take 8)) (.list [.str ⟨#[48, 49, 50]⟩]) = some (.list wrongs) := rfl
      have sz : szOk [PyData.str ⟨#[48, 49, 50]⟩].length = true := rfl
      have em : binD .mod (.int d2) (.int 9) = some (.int c) := by
        show grdO (decide ((0 : Int) < 9)) (rI (d2 % 9)) = _
        rw [ec]; rfl
      simp only [evF, evs, ev, Res.bind, opt, dat, datR, ret, C11, S, W, List.getElem?_cons_zero, List.getElem?_cons_succ, idxD, at2, grdO, sz, ew, em, wrong_at hc, SR.of, frozen]
      rfl
    have t2 := two S W a ha b hb
    have t6 := last S W (some (.val (.dat (permA a)))) (some (.val (.dat (permA b)))) c hc
    have app : ∀ (l1 l2 : List Stm) (ρ : Env), execs C11 ρ (l1 ++ l2) = (execs C11 ρ l1).seq fun r => execs C11 r l2 := by
      intro l1
      induction l1 with
      | nil => intro l2 ρ; rfl
      | cons s l1 ih =>
        intro l2 ρ
        show (exec C11 ρ s).seq _ = ((exec C11 ρ s).seq _).seq _
        cases exec C11 ρ s with
        | nx r => exact ih l2 r
        | rt v => rfl
        | ex c p r => rfl
        | bad => rfl
    have step : ∀ (s : Stm) (l2 : List Stm) (ρ ρ' : Env), exec C11 ρ s = .nx ρ' → execs C11 ρ (s :: l2) = execs C11 ρ' l2 := fun s l2 ρ ρ' h => by
      show (exec C11 ρ s).seq _ = _
      rw [h]; rfl
    rw [step _ _ _ _ e0, step _ _ _ _ e1, show [st 2, st 3, st 4, st 5, st 6] = [st 2, st 3, st 4] ++ [st 5, st 6] from rfl, app, t2]
    show outcome (execs C11 _ [st 5, st 6]) = _
    rw [step _ _ _ _ e5, t6]
    rfl
  | [], hl, e => cases hl
  | [_], hl, e => cases hl
  | [_, _], hl, e => cases hl
end RL
theorem PySem.Challenge.cw_renamedlabels_k01_permutations_holds : PySem.Challenge.rw_renamedlabels_k01_permutations.Holds :=
  RL.fin ⟨rfl, by decide, by decide⟩ fun ns _ => RL.law_ev ns
