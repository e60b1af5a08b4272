import PyProof.Rows.All
import Wide.All
import OpenK.AllK
import Wide.FinOn
import HandS.ForMost
import HandS.Exc
import KE.LtData
import KE.KDictKeyed
import KE.KDictWalk
import HandS.Dict
import HandS.Iter
import HandS.TupLen
import KE.KDictDisplayH
import HandS.Deep
import HandS.TupAny
import HandS.TupMul
import HandS.TupLe
import HandS.Wide
import HandS.IsInst
import HandS.Conv
import KE.DataMinMax
import HandS.List
import HandS.ExcOwn
import HandS.Defaults
import HandS.Style
import HandS.HeadEnd
import HandS.HeadHook2
import HandS.SetKeys
import HandS.Walk
import KE.GoesNew
import KE.GoesZip
import PyProof.EnumMake
import HandS.Star
import HandS.More
import HandS.SetFor
import HandS.Strs
import HandS.SortInts
import PyProof.CollectIter
import PyProof.Rows.MatchSeqLen
import PyProof.StrOps
import PyProof.PureInt
import HandS.Sort
import KE.KDictSum
import KE.KDictList
import HandS.DictComp
import HandS.SortRule
import HandS.TryOnly
import HandS.HeadHook1
import KE.KDictItemsList
import HandS.ListItems
import HandS.HeadHook4
import HandS.NoneIn
import PySem.Challenge.RW_splitfolds_k44_first_words_of_a_length
import HandS.Head0
import HandS.Head1
import HandS.Head2
set_option Elab.async false
set_option linter.all false
section
set_option maxRecDepth 100000
/-! Sf: a small evaluator of a part of Python over plain data, with lists and dicts that one name owns. -/
namespace Sf
open PySem

abbrev D := PyData

/-- a value: data that nobody changes any more; a list or a dict that one name owns; the script; a written tuple of the module -/
inductive W where
  | fz (d : D)
  | ol (ds : List D)
  | od (t : Bool) (kvs : List (D × D))
  | ft (kvs : List (D × D))
  | scr (ns : List Int)
  | gk (ds : List D)
  | lk (ds : List D)
  | ob (c : Nat) (fs : List (Str × D))

abbrev Sto := List (Option W)

structure Ex where
  cls : Nat
  flds : List D

inductive Res (α : Type) where
  | stuck
  | ok (a : α) (e : Sto)
  | exc (c : Ex) (e : Sto)

namespace Res
def bind {α β : Type} (r : Res α) (k : α → Sto → Res β) : Res β := match r with
  | .stuck => .stuck
  | .ok a e => k a e
  | .exc c e => .exc c e
@[simp] theorem bind_ok {α β : Type} (a : α) (e : Sto) (k : α → Sto → Res β) : (Res.ok a e).bind k = k a e := rfl
@[simp] theorem bind_stuck {α β : Type} (k : α → Sto → Res β) : (Res.stuck : Res α).bind k = .stuck := rfl
@[simp] theorem bind_exc {α β : Type} (c : Ex) (e : Sto) (k : α → Sto → Res β) : (Res.exc c e : Res α).bind k = .exc c e := rfl
/-- an answer that may lack -/
def lift {α : Type} (o : Option α) (e : Sto) : Res α := match o with
  | some a => .ok a e
  | none => .stuck
@[simp] theorem lift_some {α : Type} (a : α) (e : Sto) : lift (some a) e = .ok a e := rfl
@[simp] theorem lift_none {α : Type} (e : Sto) : lift (none : Option α) e = .stuck := rfl
end Res

/-- nothing may be raised here -/
def Res.noX {α : Type} (r : Res α) : Res α := match r with
  | .exc _ _ => .stuck
  | r => r
@[simp] theorem Res.noX_ok {α : Type} (a : α) (e : Sto) : (Res.ok a e).noX = .ok a e := rfl
@[simp] theorem Res.noX_stuck {α : Type} : (Res.stuck : Res α).noX = .stuck := rfl
@[simp] theorem Res.noX_exc {α : Type} (c : Ex) (e : Sto) : (Res.exc c e : Res α).noX = .stuck := rfl

def W.own : W → Bool
  | .ol _ => true
  | .od _ _ => true
  | .lk _ => true
  | .ob _ _ => true
  | _ => false
/-- .. and it may be changed (a list that a loop walks may not) -/
def W.mu : W → Bool
  | .ol _ => true
  | .od _ _ => true
  | .ob _ _ => true
  | _ => false
/-- given out of hand -/
def W.frz : W → Option D
  | .fz d => some d
  | .ol ds => some (.list ds)
  | .od false kvs => some (.dict kvs)
  | _ => none

def W.frzL : W → Option D
  | .fz d => some d
  | .ol ds => some (.list ds)
  | _ => none

/-! ### keys of dicts -/
mutual
def keyEq : D → D → Bool
  | .int i, .int j => decide (i = j)
  | .str x, .str y => decide (x = y)
  | .tuple xs, .tuple ys => keyEqs xs ys
  | _, _ => false
def keyEqs : List D → List D → Bool
  | [], [] => true
  | x :: xs, y :: ys => keyEq x y && keyEqs xs ys
  | _, _ => false
end
mutual
/-- ints, texts, tuples of such -/
def keyable : D → Bool
  | .int _ => true
  | .str _ => true
  | .tuple xs => keyables xs
  | _ => false
def keyables : List D → Bool
  | [] => true
  | x :: xs => keyable x && keyables xs
end
/-- a key of a dict whose keys are tuples, or ints and texts -/
def kindOk (t : Bool) (d : D) : Bool := match t, d with
  | false, .int _ => true
  | false, .str _ => true
  | true, .tuple xs => keyables xs && decide ((PyData.tuple xs).depth ≤ 8)
  | _, _ => false
def dget (kvs : List (D × D)) (k : D) : Option D := (kvs.find? fun p => keyEq p.1 k).map (·.2)
def dput (kvs : List (D × D)) (k v : D) : List (D × D) := if kvs.any fun p => keyEq p.1 k then kvs.map fun p => if keyEq p.1 k then (p.1, v) else p else kvs ++ [(k, v)]
def itemD (p : D × D) : D := .tuple [p.1, p.2]
def W.dctL? : W → Option (List (D × D))
  | .od _ kvs => some kvs
  | .ft kvs => some kvs
  | .fz (.dict kvs) => some kvs
  | _ => none

/-! ### operators -/
inductive O1 where
  | neg | len | tup | lis | int | str | repr | all | any | sum | min | max | sorted | ssort | isInt | isBool | isStr | isTup | isList | isDict | rev | rvt | keys | vals | items | sset | dsort | psort
  deriving DecidableEq
inductive O2 where
  | add | sub | mul | fdiv | mod | pow | eq | ne | lt | le | gt | ge | isin | notin | isN | notN | isB | notB | idx | min2 | max2
  deriving DecidableEq

def lineN : Nat := 16777216
def tooWide (i : Int) : Bool := decide (2 ^ 64 ≤ i.natAbs)
/-- a product that is surely no matter: one factor is small, or both together are not too great -/
def mulOk (i j : Int) : Bool := !tooWide i || !tooWide j || decide (i.natAbs.log2 + j.natAbs.log2 < 1000000)

def ints? : List D → Option (List Int)
  | [] => some []
  | .int i :: r => (ints? r).map (i :: ·)
  | _ :: _ => none
def bools? : List D → Option (List Bool)
  | [] => some []
  | .bool b :: r => (bools? r).map (b :: ·)
  | _ :: _ => none

def insI (x : Int) : List Int → List Int
  | [] => [x]
  | y :: r => if x ≤ y then x :: y :: r else y :: insI x r
def sortI : List Int → List Int
  | [] => []
  | x :: r => insI x (sortI r)

/-- rising, each once -/
def insU (x : Int) : List Int → List Int
  | [] => [x]
  | y :: r => if x < y then x :: y :: r else if x = y then y :: r else y :: insU x r
def sortU : List Int → List Int
  | [] => []
  | x :: r => insU x (sortU r)
def minL : List Int → Option Int
  | [] => none
  | [x] => some x
  | x :: r => (minL r).map fun m => if x ≤ m then x else m
/-- pairs of ints, sorted -/
def pairs? : List D → Option (List (Int × Int))
  | [] => some []
  | .tuple [.int i, .int j] :: r => (pairs? r).map ((i, j) :: ·)
  | _ :: _ => none
abbrev pairD (p : Int × Int) : D := .tuple [.int p.1, .int p.2]
def ltP2 (p q : Int × Int) : Bool := if p.1 = q.1 then decide (p.2 < q.2) else decide (p.1 < q.1)
def insP (x : Int × Int) : List (Int × Int) → List (Int × Int)
  | [] => [x]
  | y :: r => if ltP2 y x then y :: insP x r else x :: y :: r
def sortP : List (Int × Int) → List (Int × Int)
  | [] => []
  | x :: r => insP x (sortP r)
/-- words: tuples of ints -/
def words? : List D → Option (List (List Int))
  | [] => some []
  | .tuple ds :: r => (ints? ds).bind fun ns => (words? r).map (ns :: ·)
  | _ :: _ => none
def minW : List (List Int) → Option (List Int)
  | [] => none
  | x :: r => some (r.foldl (fun a y => if HT.lexLt y a then y else a) x)
def maxL : List Int → Option Int
  | [] => none
  | [x] => some x
  | x :: r => (maxL r).map fun m => if m ≤ x then x else m

/-- the place of an index -/
def atD {α : Type} (xs : List α) (i : Int) : Option α := if 0 ≤ i then xs[i.toNat]? else if -(xs.length : Int) ≤ i then xs[(i + xs.length).toNat]? else none

/-- the items of what is walked -/
def W.items? : W → Option (List D)
  | .fz (.list ds) => some ds
  | .fz (.tuple ds) => some ds
  | _ => none

/-- what a value looks like, without taking it -/
def W.look : W → Option D
  | .fz d => some d
  | .ol ds => some (.list ds)
  | .lk ds => some (.list ds)
  | _ => none

/-- the items of a list -/
def W.lst? : W → Option (List D)
  | .fz (.list ds) => some ds
  | .ol ds => some ds
  | .lk ds => some ds
  | _ => none

/-- the items of a list or a tuple -/
def W.seq? : W → Option (List D)
  | .fz (.list ds) => some ds
  | .fz (.tuple ds) => some ds
  | .ol ds => some ds
  | .lk ds => some ds
  | _ => none
def reprOk (d : D) : Bool := d.showable && !d.hasDict && decide (d.depth ≤ 64) && decide (d.shown.length ≤ lineN)

def op1 (o : O1) (a : W) : Option W := match o, a with
  | .neg, .fz (.int i) => some (.fz (.int (-i)))
  | .len, .fz (.list ds) => some (.fz (.int ds.length))
  | .len, .fz (.tuple ds) => some (.fz (.int ds.length))
  | .len, .fz (.str x) => if x.length ≤ lineN then some (.fz (.int x.length)) else none
  | .len, .ol ds => some (.fz (.int ds.length))
  | .len, .lk ds => some (.fz (.int ds.length))
  | .len, .scr ns => some (.fz (.int ns.length))
  | .len, .gk ds => some (.fz (.int ds.length))
  | .tup, .fz (.list ds) => some (.fz (.tuple ds))
  | .tup, .ol ds => some (.fz (.tuple ds))
  | .tup, .lk ds => some (.fz (.tuple ds))
  | .tup, .fz (.tuple ds) => some (.fz (.tuple ds))
  | .lis, .fz (.list ds) => some (.ol ds)
  | .lis, .ol ds => some (.ol ds)
  | .lis, .lk ds => some (.ol ds)
  | .lis, .fz (.tuple ds) => some (.ol ds)
  | .int, .fz (.int i) => some (.fz (.int i))
  | .int, .fz (.bool b) => some (.fz (.int (if b then 1 else 0)))
  | .repr, w => w.look.bind fun d => if reprOk d then some (.fz (.str d.shown)) else none
  | .all, w => w.lst?.bind fun ds => (bools? ds).map fun bs => .fz (.bool (bs.all id))
  | .any, w => w.lst?.bind fun ds => (bools? ds).map fun bs => .fz (.bool (bs.any id))
  | .sum, w => w.lst?.bind fun ds => (ints? ds).map fun ns => .fz (.int ns.sum)
  | .min, w => w.lst?.bind fun ds => match ints? ds with
    | some ns => (minL ns).map fun m => .fz (.int m)
    | none => (words? ds).bind fun ws => (minW ws).map fun ns => .fz (.tuple (ns.map .int))
  | .max, w => w.lst?.bind fun ds => (ints? ds).bind fun ns => (maxL ns).map fun m => .fz (.int m)
  | .len, .od _ kvs => some (.fz (.int kvs.length))
  | .len, .fz (.dict kvs) => some (.fz (.int kvs.length))
  | .len, .ft kvs => some (.fz (.int kvs.length))
  | .keys, w => w.dctL?.map fun kvs => .ol (kvs.map (·.1))
  | .vals, w => w.dctL?.map fun kvs => .ol (kvs.map (·.2))
  | .items, w => w.dctL?.map fun kvs => .ol (kvs.map itemD)
  | .sorted, w => w.lst?.bind fun ds => (ints? ds).bind fun ns => if ns.length < 64 then some (.ol ((sortI ns).map .int)) else none
  | .dsort, .od false kvs => (ints? (kvs.map (·.1))).bind fun ns => if ns.length < 64 then some (.ol ((sortI ns).map .int)) else none
  | .dsort, .fz (.dict kvs) => (ints? (kvs.map (·.1))).bind fun ns => if ns.length < 64 then some (.ol ((sortI ns).map .int)) else none
  | .psort, w => w.lst?.bind fun ds => (pairs? ds).map fun ps => .ol ((sortP ps).map pairD)
  | .sset, w => w.seq?.bind fun ds => (ints? ds).bind fun ns => if ns.length < 64 then some (.ol ((sortU ns).map .int)) else none
  | .isInt, w => w.look.map fun d => .fz (.bool (match d with | .int _ => true | .bool _ => true | _ => false))
  | .isBool, w => w.look.map fun d => .fz (.bool (match d with | .bool _ => true | _ => false))
  | .isStr, w => w.look.map fun d => .fz (.bool (match d with | .str _ => true | _ => false))
  | .isTup, w => w.look.map fun d => .fz (.bool (match d with | .tuple _ => true | _ => false))
  | .rev, .fz (.tuple ds) => some (.fz (.tuple ds.reverse))
  | .rev, .fz (.list ds) => some (.ol ds.reverse)
  | .rev, .ol ds => some (.ol ds.reverse)
  | .rvt, w => w.lst?.map fun ds => .ol ds.dropLast.reverse
  | _, _ => none

def flatD : D → Bool
  | .none | .bool _ | .int _ | .str _ => true
  | _ => false

/-- equality of data that is deep -/
def eqOk (a b : D) : Bool := (match a, b with | .str _, .str _ => true | _, _ => false) || (SeqAt.shaped a && SeqAt.shaped b)

def op2D (o : O2) (a b : D) : Option D := match o, a, b with
  | .sub, .int i, .int j => some (.int (i - j))
  | .fdiv, .int i, .int j => if 0 < j ∧ j < 1073741824 then some (.int (i / j)) else none
  | .mod, .int i, .int j => if 0 < j then some (.int (i % j)) else none
  | .pow, .int i, .int j => if 0 ≤ j ∧ j ≤ 1000000 ∧ i.natAbs < 2 ^ 64 then some (.int (i ^ j.toNat)) else none
  | .eq, x, y => if eqOk x y then some (.bool (PyData.eqv x y)) else none
  | .ne, x, y => if eqOk x y then some (.bool (!PyData.eqv x y)) else none
  | .lt, .int i, .int j => some (.bool (decide (i < j)))
  | .lt, .tuple ds, .tuple es => if (SeqAt.shaped (.tuple ds) && SeqAt.shaped (.tuple es)) && PySem.W.alike (.tuple ds) (.tuple es) then some (.bool (PySem.W.dataLt (.tuple ds) (.tuple es))) else none
  | .le, .int i, .int j => some (.bool (decide (i ≤ j)))
  | .gt, .int i, .int j => some (.bool (decide (j < i)))
  | .ge, .int i, .int j => some (.bool (decide (j ≤ i)))
  | .isN, x, .none => some (.bool (match x with | .none => true | _ => false))
  | .notN, x, .none => some (.bool (match x with | .none => false | _ => true))
  | .isB, .bool a, .bool b => some (.bool (decide (a = b)))
  | .notB, .bool a, .bool b => some (.bool (!decide (a = b)))
  | .min2, .int i, .int j => some (.int (if j < i then j else i))
  | .min2, .tuple ds, .tuple es => (ints? ds).bind fun ns => (ints? es).map fun ms => .tuple (if HT.lexLt ms ns then es else ds)
  | .max2, .int i, .int j => some (.int (if j > i then j else i))
  | _, _, _ => none

def addW (d e : D) : Option W := match d, e with
  | .int i, .int j => some (.fz (.int (i + j)))
  | .str x, .str y => if x.length + y.length ≤ lineN then some (.fz (.str (x ++ y))) else none
  | .tuple xs, .tuple ys => if xs.length + ys.length ≤ lineN then some (.fz (.tuple (xs ++ ys))) else none
  | .list xs, .list ys => if xs.length + ys.length ≤ lineN then some (.ol (xs ++ ys)) else none
  | _, _ => none
def mulW (d e : D) : Option W := match d, e with
  | .int i, .int j => if mulOk i j then some (.fz (.int (i * j))) else none
  | .tuple xs, .int j => if 2 ≤ j ∧ j ≤ 1000 ∧ xs.length ≤ 1000 ∧ xs ≠ [] then some (.fz (.tuple (List.replicate j.toNat xs).flatten)) else none
  | .list xs, .int j => if -(2 ^ 63) ≤ j ∧ j < 2 ^ 63 ∧ xs.length * j.toNat ≤ lineN then some (.ol (List.replicate j.toNat xs).flatten) else none
  | _, _ => none
/-- the items in which something is looked for -/
def W.within? : W → Option (List D)
  | .fz (.list ds) => some ds
  | .fz (.tuple ds) => some ds
  | .ol ds => some ds
  | .lk ds => some ds
  | .gk ds => some ds
  | _ => none
/-- where a key is looked for -/
def W.dct? (k : D) : W → Option (List (D × D))
  | .od t kvs => if kindOk t k then some kvs else none
  | .ft kvs => if kindOk true k then some kvs else none
  | .fz (.dict kvs) => if kindOk false k then some kvs else none
  | _ => none
def W.isL : W → Bool
  | .fz (.list _) => true
  | .ol _ => true
  | .lk _ => true
  | _ => false
/-- l: in a list, where deep data may be looked for too -/
def inW (neg l : Bool) (d : D) (ys : List D) : Option W := if flatD d && ys.all flatD || (l && SeqAt.shaped d && SeqAt.shaped (.list ys)) then some (.fz (.bool (if neg then !(ys.any fun y => PyData.eqv y d) else ys.any fun y => PyData.eqv y d))) else none
def idxW (w : W) (i : Int) : Option W := match w with
  | .fz (.tuple xs) => (atD xs i).map .fz
  | .fz (.list xs) => (atD xs i).map .fz
  | .ol xs => (atD xs i).map .fz
  | .lk xs => (atD xs i).map .fz
  | .scr ns => (atD ns i).map fun n => .fz (.int n)
  | _ => none
def W.int? : W → Option Int
  | .fz (.int i) => some i
  | _ => none

def op2 (o : O2) (a b : W) : Option W := match o with
  | .idx => match a with
    | .od t kvs => b.look.bind fun d => if kindOk t d then (dget kvs d).map .fz else none
    | .ft kvs => b.look.bind fun d => if kindOk true d then (dget kvs d).map .fz else none
    | .fz (.dict kvs) => b.look.bind fun d => if kindOk false d then (dget kvs d).map .fz else none
    | a => b.int?.bind fun i => idxW a i
  | .add => a.look.bind fun d => b.look.bind fun e => addW d e
  | .mul => a.look.bind fun d => b.look.bind fun e => mulW d e
  | .isin => a.look.bind fun d => match b.dct? d with
    | some kvs => some (.fz (.bool (dget kvs d).isSome))
    | none => b.within?.bind fun ys => inW false b.isL d ys
  | .notin => a.look.bind fun d => match b.dct? d with
    | some kvs => some (.fz (.bool (!(dget kvs d).isSome)))
    | none => b.within?.bind fun ys => inW true b.isL d ys
  | o => a.look.bind fun d => b.look.bind fun e => (op2D o d e).map .fz

/-- a cut without a step -/
def cutD (xs : List D) (lo hi : Option Int) : List D := (xs.drop (HT.sIx xs.length 0 lo)).take (HT.sIx xs.length xs.length hi - HT.sIx xs.length 0 lo)
def sliceW (a : W) (lo hi : Option Int) : Option W := match a with
  | .fz (.tuple ds) => some (.fz (.tuple (cutD ds lo hi)))
  | .fz (.list ds) => some (.ol (cutD ds lo hi))
  | .ol ds => some (.ol (cutD ds lo hi))
  | .lk ds => some (.ol (cutD ds lo hi))
  | _ => none

def truthD : D → Bool
  | .none => false
  | .bool b => b
  | .int i => !decide (i = 0)
  | .str x => !decide (x.length = 0)
  | .list ds => !ds.isEmpty
  | .tuple ds => !ds.isEmpty
  | .dict kvs => !kvs.isEmpty

def truthW : W → Option Bool
  | .fz (.dict _) => none
  | .fz (.str x) => if x.length ≤ lineN then some (!decide (x.length = 0)) else none
  | .fz d => some (truthD d)
  | .ol ds => some (!ds.isEmpty)
  | .lk ds => some (!ds.isEmpty)
  | _ => none
def W.bool? : W → Option Bool
  | .fz (.bool b) => some b
  | _ => none

/-! ### the terms -/
inductive Tg where
  | nm (i : Nat)
  | tp (is : List Nat)

mutual
inductive IE where
  | con (d : D)
  | var (i : Nat)
  | o1 (o : O1) (a : IA)
  | o2 (o : O2) (a b : IA)
  | dsp (tup : Bool) (es : IEs)
  | slc (a : IA) (lo hi : IO)
  | call (f : Nat) (as : IAs)
  | ite (c : IT) (a b : IE)
  | tst (t : IT)
  | chn (o o2 : O2) (a b c : IA)
  | lc (elt : IE) (tg : Tg) (src : IR) (cnd : IT)
  | rng (tup : Bool) (src : IR)
  | dnew (t : Bool)
  | dsp1 (t : Bool) (k v : IE)
  | get2 (d : IA) (k x : IE)
  | sdef (i : Nat) (k v : IE)
  | dc (t : Bool) (k v : IE) (tg : Tg) (src : IR)
  | lidx (t : Bool) (a : IA) (k : IE)
  | pop (i : Nat) (k : IE)
  | fld (i : Nat) (cs : List Nat) (x : Str)
  | ocall (cs : List Nat) (m : Str) (f : Nat) (o : IA) (as : IAs)
  | mk (c f : Nat) (as : IAs)
  | gcon (ds : List D)
  | callv (f n : Nat) (as : IAs)
  | lidxD (a : IA) (k : IE)
  | lc2 (elt : IE) (tg : Tg) (src : IR) (tg1 : Tg) (src1 : IR) (cnd : IT)
inductive IA where
  | e (x : IE)
  | p (i : Nat)
inductive IEs where
  | nil
  | cons (x : IE) (xs : IEs)
  | star (x : IE) (xs : IEs)
inductive IAs where
  | nil
  | cons (x : IA) (xs : IAs)
inductive IO where
  | no
  | yes (x : IE)
inductive IT where
  | tt
  | v (a : IA)
  | no (t : IT)
  | an (s t : IT)
  | or (s t : IT)
/-- what is walked: items, a range -/
inductive IR where
  | its (x : IE)
  | own (i : Nat)
  | r1 (n : IE)
  | r2 (a b : IE)
  | items (x : IE)
  | keys (x : IE)
  | vals (x : IE)
  | enum (x : IE)
  | zip (x y : IE)
end

inductive S where
  | skip
  | seq (a b : S)
  | set (i : Nat) (x : IE)
  | unp (is : List Nat) (x : IE)
  | unst (i j : Nat) (x : IE)
  | mat (x : IE) (c1 : List Str) (n1 : Int) (b1 : S) (c2 : List Str) (n2 : Int) (b2 : S)
  | par (is : List Nat) (xs : IEs)
  | ret (x : IE)
  | rtv (i : Nat)
  | expr (x : IE)
  | ifs (c : IT) (a b : S)
  | for_ (tg : Tg) (src : IR) (body : S)
  | while_ (c : IT) (body : S)
  | brk
  | cont
  | app (i : Nat) (x : IE)
  | ext (i : Nat) (x : IE)
  | put (i : Nat) (k v : IE)
  | dput (i : Nat) (k v : IE)
  | aug (i : Nat) (o : O2) (x : IE)
  | raise (c : Nat)
  | tryx (b : S) (hit miss : List Nat) (s : S)
  | augp (i : Nat) (k x : IE)
  | sfl (i : Nat) (cs : List Nat) (f : Str) (x : IE)
  | unpl (is : List Nat) (x : IE)
  | no

inductive Fl where
  | next
  | ret (w : W)
  | brk
  | cont

inductive CRes where
  | stuck
  | ret (w : W) (fin : List W)
  | exc (c : Ex) (fin : List W)

/-! ### the store -/
def setS (E : Sto) (i : Nat) (w : W) : Sto := E.set i (some w)
def getS (E : Sto) (i : Nat) : Option W := (E[i]?).bind id
def wipeS (E : Sto) : List Nat → Sto
  | [] => E
  | v :: vs => (wipeS E vs).set v none
def putAll : List Nat → List W → Sto → Option Sto
  | [], [], E => some E
  | i :: is, w :: ws, E => putAll is ws (setS E i w)
  | _, _, _ => none
def Tg.slots : Tg → List Nat
  | .nm i => [i]
  | .tp is => is
def Tg.put (t : Tg) (d : D) (E : Sto) : Option Sto := match t with
  | .nm i => some (setS E i (.fz d))
  | .tp is => match d with
    | .tuple ds => putAll is (ds.map .fz) E
    | _ => none

/-- behind a loop: the list may be changed again -/
def unlockS (E : Sto) (i : Nat) : Sto := match getS E i with
  | some (.lk ds) => setS E i (.ol ds)
  | _ => E
def IR.unlock (r : IR) (E0 E : Sto) : Sto := match r with
  | .own i => (match getS E0 i with
    | some (.ol _) => unlockS E i
    | _ => E)
  | _ => E
def Res.unlock {α : Type} (r : Res α) (s : IR) (E0 : Sto) : Res α := match r with
  | .stuck => .stuck
  | .ok a E => .ok a (s.unlock E0 E)
  | .exc c E => .exc c (s.unlock E0 E)
/-- read a name: what it owns is given out of hand -/
def readS (E : Sto) (i : Nat) : Res W := match getS E i with
  | some (.fz d) => .ok (.fz d) E
  | some (.ol ds) => .ok (.fz (.list ds)) (setS E i (.fz (.list ds)))
  | some (.scr ns) => .ok (.scr ns) E
  | some (.gk ds) => .ok (.gk ds) E
  | some (.od false kvs) => .ok (.fz (.dict kvs)) (setS E i (.fz (.dict kvs)))
  | some (.od true kvs) => .ok (.ft kvs) (setS E i (.ft kvs))
  | some (.ft kvs) => .ok (.ft kvs) E
  | _ => .stuck

/-! ### loops -/
def mapR (f : D → Sto → Res (Option D)) : List D → Sto → Res (List D)
  | [], E => .ok [] E
  | d :: ds, E => (f d E).bind fun o E1 => (mapR f ds E1).bind fun r E2 => .ok (match o with | none => r | some y => y :: r) E2
def forR (f : D → Sto → Res Fl) : List D → Sto → Res Fl
  | [], E => .ok .next E
  | d :: ds, E => (f d E).bind fun fl E1 => match fl with
    | .next => forR f ds E1
    | .cont => forR f ds E1
    | .brk => .ok .next E1
    | .ret w => .ok (.ret w) E1
def whR (c : Sto → Res Bool) (b : Sto → Res Fl) : Nat → Sto → Res Fl
  | 0, _ => .stuck
  | n + 1, E => (c E).bind fun t E1 => if t then (b E1).bind fun fl E2 => match fl with
      | .next => whR c b n E2
      | .cont => whR c b n E2
      | .brk => .ok .next E2
      | .ret w => .ok (.ret w) E2
    else .ok .next E1

def rangeD (a b : Int) : Option (List D) := if -(lineN : Int) ≤ a ∧ a ≤ lineN ∧ -(lineN : Int) ≤ b ∧ b ≤ lineN ∧ (b - a).toNat ≤ lineN then some ((List.range (b - a).toNat).map fun i => .int (a + (i : Nat))) else none

/-- the arguments that are names: their values -/
def resolve : List (Sum Nat W) → Sto → Option (List W)
  | [], _ => some []
  | .inr w :: r, E => (resolve r E).map (w :: ·)
  | .inl i :: r, E => (getS E i).bind fun w => (resolve r E).map (w :: ·)
/-- no owned name twice -/
def apart : List (Sum Nat W) → Sto → Bool
  | [], _ => true
  | .inr _ :: r, E => apart r E
  | .inl i :: r, E => (match getS E i with
    | some w => !w.own || !(r.any fun x => match x with | .inl j => decide (j = i) | .inr _ => false)
    | none => false) && apart r E
/-- behind the call: what the names own now -/
def back : List (Sum Nat W) → List W → Sto → Sto
  | .inl i :: r, w :: ws, E => match getS E i with
    | some w0 => if w0.own then back r ws (setS E i w) else back r ws E
    | none => back r ws E
  | .inr _ :: r, _ :: ws, E => back r ws E
  | _, _, E => E
def callR (cl : List W → CRes) (as : List (Sum Nat W)) (E : Sto) : Res W :=
  if apart as E then match resolve as E with
    | none => .stuck
    | some ws => match cl ws with
      | .stuck => .stuck
      | .ret w fin => .ok w (back as fin E)
      | .exc c fin => .exc c (back as fin E)
  else .stuck

/-- a new instance of a class: its __init__ on it -/
def mkR (cl : List W → CRes) (c : Nat) (as : List (Sum Nat W)) (E : Sto) : Res W :=
  if apart as E then match resolve as E with
    | none => .stuck
    | some ws => match cl (.ob c [] :: ws) with
      | .stuck => .stuck
      | .ret w fin => (match w, fin with
        | .fz .none, .ob c' fs :: fin => .ok (.ob c' fs) (back as fin E)
        | _, _ => .stuck)
      | .exc c fin => .exc c (back as fin.tail E)
  else .stuck
/-- data handed to a star parameter -/
def fzs : List W → Option (List D)
  | [] => some []
  | .fz d :: r => (fzs r).map (d :: ·)
  | _ :: _ => none
def restD (xs : List (Sum Nat W)) (E : Sto) : Option (List D) := (resolve xs E).bind fun ws => (fzs ws).bind fun ds => if ds.length ≤ 1000 then some ds else none
/-- an instance of one of some classes, without a field of a name -/
def obAt (cs : List Nat) (m : Str) (x : Sum Nat W) (E : Sto) : Option Unit := (resolve [x] E).bind fun ws => match ws with
  | [.ob c fs] => if cs.contains c && (fs.lookup m).isNone then some () else none
  | _ => none
/-- a field of an instance is set -/
def putO (f : Str) (d : D) : List (Str × D) → List (Str × D)
  | [] => [(f, d)]
  | p :: r => if p.1 = f then (f, d) :: r else p :: putO f d r
/-- .. lists one behind the other -/
def mapL (f : D → Sto → Res (List D)) : List D → Sto → Res (List D)
  | [], E => .ok [] E
  | d :: ds, E => (f d E).bind fun o E1 => (mapL f ds E1).bind fun r E2 => .ok (o ++ r) E2

/-- a dict of pairs, later ones win -/
def dmake (ps : List D) : List (D × D) := ps.foldl (fun acc p => match p with
  | .tuple [k, v] => dput acc k v
  | _ => acc) []
def enumD (ds : List D) : List D := ds.zipIdx.map fun p => .tuple [.int (p.2 : Nat), p.1]
def zipD (ds es : List D) : List D := (ds.zip es).map fun p => .tuple [p.1, p.2]

/-- a key and a value are put into the dict of a name -/
def dputR (i : Nat) (d kd : D) (E : Sto) : Res Fl := match getS E i with
  | some (.od t kvs) => if kindOk t kd ∧ kvs.length < lineN then .ok .next (setS E i (.od t (dput kvs kd d))) else .stuck
  | _ => .stuck
def sdefR (i : Nat) (d e : D) (E : Sto) : Res W := match getS E i with
  | some (.od t kvs) => if kindOk t d ∧ kvs.length < lineN then (match dget kvs d with
    | some r => .ok (.fz r) E
    | none => .ok (.fz e) (setS E i (.od t (dput kvs d e)))) else .stuck
  | _ => .stuck

def get2R (x : Sum Nat W) (d e : D) (E : Sto) : Res W := Res.lift ((resolve [x] E).bind fun ws => match ws with
  | [w] => (w.dct? d).map fun kvs => W.fz ((dget kvs d).getD e)
  | _ => none) E

/-- the first place of an item of a list, of a tuple -/
def W.tseq? (t : Bool) : W → Option (List D)
  | .fz (.tuple ds) => if t then some ds else none
  | .fz (.list ds) => if t then none else some ds
  | .ol ds => if t then none else some ds
  | .lk ds => if t then none else some ds
  | _ => none
def lidxW (t : Bool) (w : W) (d : D) : Option W := (w.tseq? t).bind fun ds => if flatD d && ds.all flatD then (ds.findIdx? fun y => PyData.eqv y d).map fun j => .fz (.int (j : Nat)) else none

/-- .. of deep data -/
def lidxDW (w : W) (d : D) : Option W := (w.tseq? false).bind fun ds => if SeqAt.shaped d && SeqAt.shaped (.list ds) then (ds.findIdx? fun y => PyData.eqv y d).map fun j => .fz (.int (j : Nat)) else none

/-! ### evaluation -/
mutual
def ev (cl : Nat → List W → CRes) : IE → Sto → Res W
  | .con d, E => .ok (.fz d) E
  | .var i, E => readS E i
  | .o1 o a, E => (evA cl a E).bind fun x E1 => .lift ((resolve [x] E1).bind fun ws => match ws with
      | [w] => op1 o w
      | _ => none) E1
  | .o2 o a b, E => (evA cl a E).bind fun x E1 => (evA cl b E1).bind fun y E2 => .lift ((resolve [x, y] E2).bind fun ws => match ws with
      | [w, u] => op2 o w u
      | _ => none) E2
  | .dsp t es, E => (evDs cl es E).bind fun ds E1 => .ok (if t then .fz (.tuple ds) else .ol ds) E1
  | .slc a lo hi, E => (evA cl a E).bind fun x E1 => (evO cl lo E1).bind fun l E2 => (evO cl hi E2).bind fun h E3 => .lift ((resolve [x] E3).bind fun ws => match ws with
      | [w] => sliceW w l h
      | _ => none) E3
  | .call f as, E => (evAs cl as E).bind fun xs E1 => callR (cl f) xs E1
  | .ite c a b, E => (evT cl c E).bind fun t E1 => if t then ev cl a E1 else ev cl b E1
  | .tst t, E => (evV cl t E).bind fun b E1 => .ok (.fz (.bool b)) E1
  | .chn o o2 a b c, E => (evA cl a E).bind fun x E1 => (evA cl b E1).bind fun y E2 => (Res.lift ((resolve [x, y] E2).bind fun ws => match ws with
      | [w, u] => (op2 o w u).bind W.bool?
      | _ => none) E2).bind fun t E3 => if t then (evA cl c E3).bind fun z E4 => .lift ((resolve [y, z] E4).bind fun ws => match ws with
      | [w, u] => op2 o2 w u
      | _ => none) E4 else .ok (.fz (.bool false)) E3
  | .lc elt tg src cnd, E => (evR cl src E).bind fun ds E1 =>
      (Res.noX (mapR (fun d E2 => (Res.lift (tg.put d E2) E2).bind fun E3 _ => (evT cl cnd E3).bind fun t E4 =>
        if t then (ev cl elt E4).bind fun w E5 => (Res.lift w.frzL E5).bind fun y _ => .ok (some y) (wipeS E5 tg.slots) else .ok none (wipeS E4 tg.slots)) ds (wipeS E1 tg.slots))).bind fun ys E9 => .ok (.ol ys) (src.unlock E E9)
  | .rng t src, E => match src with
    | .own _ => .stuck
    | src => (evR cl src E).bind fun ds E1 => .ok (if t then .fz (.tuple ds) else .ol ds) E1
  | .dnew t, E => .ok (.od t []) E
  | .dsp1 t k v, E => (ev cl k E).bind fun w E1 => (Res.lift w.frzL E1).bind fun d E2 => (ev cl v E2).bind fun u E3 => (Res.lift u.frzL E3).bind fun e E4 => if kindOk t d then .ok (.od t [(d, e)]) E4 else .stuck
  | .get2 a k x, E => (evA cl a E).bind fun y E0 => (Res.lift ((resolve [y] E0).bind fun ws => match ws with
      | [w] => w.dctL?
      | _ => none) E0).bind fun _ E1 => (ev cl k E1).bind fun w E2 => (Res.lift w.frzL E2).bind fun d E3 => (ev cl x E3).bind fun u E4 => (Res.lift u.frzL E4).bind fun e E5 => get2R y d e E5
  | .sdef i k v, E => (Res.lift ((getS E i).bind W.dctL?) E).bind fun _ E0 => (ev cl k E0).bind fun w E1 => (Res.lift w.frzL E1).bind fun d E2 => (ev cl v E2).bind fun u E3 => (Res.lift u.frzL E3).bind fun e E4 => sdefR i d e E4
  | .dc t k v tg src, E => (evR cl src E).bind fun ds E1 =>
      (Res.noX (mapR (fun d E2 => (Res.lift (tg.put d E2) E2).bind fun E3 _ =>
        (ev cl k E3).bind fun w E4 => (Res.lift w.frzL E4).bind fun d E5 => (ev cl v E5).bind fun u E6 => (Res.lift u.frzL E6).bind fun e _ => if kindOk t d then .ok (some (.tuple [d, e])) (wipeS E6 tg.slots) else .stuck) ds (wipeS E1 tg.slots))).bind fun ys E9 => .ok (.od t (dmake ys)) (src.unlock E E9)
  | .lidx t a k, E => (evA cl a E).bind fun x E1 => (Res.lift ((resolve [x] E1).bind fun ws => match ws with
      | [w] => w.tseq? t
      | _ => none) E1).bind fun _ E2 => (ev cl k E2).bind fun u E3 => .lift ((resolve [x] E3).bind fun ws => match ws with
      | [w] => u.look.bind fun d => lidxW t w d
      | _ => none) E3
  | .pop i k, E => match getS E i with
    | some (.ol _) => (ev cl k E).bind fun u E1 => match u, getS E1 i with
      | .fz (.int j), some (.ol ds) => (match L2.ixN ds.length j with
        | some m => (match ds[m]? with
          | some d => .ok (.fz d) (setS E1 i (.ol (ds.eraseIdx m)))
          | none => .stuck)
        | none => .stuck)
      | _, _ => .stuck
    | _ => .stuck
  | .fld i cs x, E => match getS E i with
    | some (.ob c fs) => if cs.contains c then Res.lift ((fs.lookup x).map W.fz) E else .stuck
    | _ => .stuck
  | .ocall cs m f o as, E => (evA cl o E).bind fun x E1 => (Res.lift (obAt cs m x E1) E1).bind fun _ E2 => (evAs cl as E2).bind fun xs E3 => (Res.lift (obAt cs m x E3) E3).bind fun _ E4 => callR (cl f) (x :: xs) E4
  | .gcon ds, E => .ok (.gk ds) E
  | .lidxD a k, E => (evA cl a E).bind fun x E1 => (Res.lift ((resolve [x] E1).bind fun ws => match ws with
      | [w] => w.tseq? false
      | _ => none) E1).bind fun _ E2 => (ev cl k E2).bind fun u E3 => .lift ((resolve [x] E3).bind fun ws => match ws with
      | [w] => u.look.bind fun d => lidxDW w d
      | _ => none) E3
  | .callv f n as, E => (evAs cl as E).bind fun xs E1 => (Res.lift (restD (xs.drop n) E1) E1).bind fun ds E2 => callR (cl f) (xs.take n ++ [.inr (.fz (.tuple ds))]) E2
  | .mk c f as, E => (evAs cl as E).bind fun xs E1 => mkR (cl f) c xs E1
  | .lc2 elt tg src tg1 src1 cnd, E => (evR cl src E).bind fun ds E1 =>
      (Res.noX (mapL (fun d E2 => (Res.lift (tg.put d E2) E2).bind fun E3 _ => (evR cl src1 E3).bind fun es E4 => (mapR (fun d E5 => (Res.lift (tg1.put d E5) E5).bind fun E6 _ => (evT cl cnd E6).bind fun t E7 =>
        if t then (ev cl elt E7).bind fun w E8 => (Res.lift w.frzL E8).bind fun y _ => .ok (some y) (wipeS E8 tg1.slots) else .ok none (wipeS E7 tg1.slots)) es (wipeS E4 tg1.slots)).bind fun ys E9 => .ok ys (wipeS E9 (tg.slots ++ tg1.slots))) ds (wipeS E1 (tg.slots ++ tg1.slots)))).bind fun ys E9 => if ys.length ≤ lineN then .ok (.ol ys) (src.unlock E E9) else .stuck
def evA (cl : Nat → List W → CRes) : IA → Sto → Res (Sum Nat W)
  | .e x, E => (ev cl x E).bind fun w E1 => .ok (.inr w) E1
  | .p i, E => (Res.lift (getS E i) E).bind fun _ E1 => .ok (.inl i) E1
def evDs (cl : Nat → List W → CRes) : IEs → Sto → Res (List D)
  | .nil, E => .ok [] E
  | .cons x xs, E => (ev cl x E).bind fun w E1 => (Res.lift w.frz E1).bind fun d E2 => (evDs cl xs E2).bind fun ds E3 => .ok (d :: ds) E3
  | .star x xs, E => (ev cl x E).bind fun w E1 => (Res.lift (w.frz.bind fun d => (W.fz d).items?) E1).bind fun ds E2 => if ds.length ≤ 1000 then (evDs cl xs E2).bind fun es E3 => .ok (ds ++ es) E3 else .stuck
def evWs (cl : Nat → List W → CRes) : IEs → Sto → Res (List W)
  | .nil, E => .ok [] E
  | .cons x xs, E => (ev cl x E).bind fun w E1 => (evWs cl xs E1).bind fun ws E2 => .ok (w :: ws) E2
  | .star _ _, _ => .stuck
def evAs (cl : Nat → List W → CRes) : IAs → Sto → Res (List (Sum Nat W))
  | .nil, E => .ok [] E
  | .cons x xs, E => (evA cl x E).bind fun a E1 => (evAs cl xs E1).bind fun as E2 => .ok (a :: as) E2
def evO (cl : Nat → List W → CRes) : IO → Sto → Res (Option Int)
  | .no, E => .ok none E
  | .yes x, E => (ev cl x E).bind fun w E1 => match w with
    | .fz (.int i) => .ok (some i) E1
    | _ => .stuck
def evT (cl : Nat → List W → CRes) : IT → Sto → Res Bool
  | .tt, E => .ok true E
  | .v a, E => (evA cl a E).bind fun x E1 => .lift ((resolve [x] E1).bind fun ws => match ws with
      | [w] => truthW w
      | _ => none) E1
  | .no t, E => (evT cl t E).bind fun b E1 => .ok (!b) E1
  | .an s t, E => (evT cl s E).bind fun b E1 => if b then evT cl t E1 else .ok false E1
  | .or s t, E => (evT cl s E).bind fun b E1 => if b then .ok true E1 else evT cl t E1
/-- .. as a value: of truth values alone -/
def evV (cl : Nat → List W → CRes) : IT → Sto → Res Bool
  | .tt, E => .ok true E
  | .v a, E => (evA cl a E).bind fun x E1 => .lift ((resolve [x] E1).bind fun ws => match ws with
      | [w] => w.bool?
      | _ => none) E1
  | .no t, E => (evV cl t E).bind fun b E1 => .ok (!b) E1
  | .an s t, E => (evV cl s E).bind fun b E1 => if b then evV cl t E1 else .ok false E1
  | .or s t, E => (evV cl s E).bind fun b E1 => if b then .ok true E1 else evV cl t E1
def evR (cl : Nat → List W → CRes) : IR → Sto → Res (List D)
  | .its x, E => (ev cl x E).bind fun w E1 => .lift (w.frz.bind fun d => (W.fz d).items?) E1
  | .own i, E => match getS E i with
    | some (.ol ds) => .ok ds (setS E i (.lk ds))
    | some (.lk ds) => .ok ds E
    | some (.fz (.list ds)) => .ok ds E
    | some (.fz (.tuple ds)) => .ok ds E
    | _ => .stuck
  | .r1 n, E => (ev cl n E).bind fun w E1 => match w with
    | .fz (.int j) => .lift (rangeD 0 j) E1
    | _ => .stuck
  | .r2 a b, E => (ev cl a E).bind fun w E1 => (ev cl b E1).bind fun u E2 => match w, u with
    | .fz (.int i), .fz (.int j) => .lift (rangeD i j) E2
    | _, _ => .stuck
  | .items x, E => (ev cl x E).bind fun w E1 => .lift (w.dctL?.map fun kvs => kvs.map itemD) E1
  | .keys x, E => (ev cl x E).bind fun w E1 => .lift (w.dctL?.map fun kvs => kvs.map (·.1)) E1
  | .vals x, E => (ev cl x E).bind fun w E1 => .lift (w.dctL?.map fun kvs => kvs.map (·.2)) E1
  | .enum x, E => (ev cl x E).bind fun w E1 => .lift ((w.frz.bind fun d => (W.fz d).items?).map enumD) E1
  | .zip x y, E => (ev cl x E).bind fun w E1 => (Res.lift (w.frz.bind fun d => (W.fz d).items?) E1).bind fun ds E2 => (ev cl y E2).bind fun u E3 => (Res.lift (u.frz.bind fun d => (W.fz d).items?) E3).bind fun es E4 => .ok (zipD ds es) E4
end

def wFuel : Nat := 1000000

/-- a name is stored: not a parameter that owns -/
def stoS (bo : List Bool) (E : Sto) (i : Nat) (w : W) : Res Fl := if bo.getD i false then .stuck else .ok .next (setS E i w)
def unpS (bo : List Bool) (E : Sto) (is : List Nat) (ws : List W) : Res Fl := if is.any fun i => bo.getD i false then .stuck else match putAll is ws E with
  | some E1 => .ok .next E1
  | none => .stuck

def unstS (bo : List Bool) (E : Sto) (i j : Nat) (w : W) : Res Fl := match w with
  | .fz (.tuple (d :: ds)) => if bo.getD i false || bo.getD j false || decide (i = j) then .stuck else if ds.length ≤ lineN then .ok .next (setS (setS E i (.fz d)) j (.ol ds)) else .stuck
  | _ => .stuck
def matW : W → Option (Str × Int)
  | .fz (.tuple [.str x, .int n]) => some (x, n)
  | _ => none
def augW (o : O2) (j : Int) (w : W) : Option W := match o, w with
  | .add, .fz (.int k) => some (.fz (.int (j + k)))
  | .sub, .fz (.int k) => some (.fz (.int (j - k)))
  | _, _ => none
def evS (cl : Nat → List W → CRes) (bo : List Bool) : S → Sto → Res Fl
  | .skip, E => .ok .next E
  | .seq a b, E => (evS cl bo a E).bind fun fl E1 => match fl with
    | .next => evS cl bo b E1
    | .ret w => .ok (.ret w) E1
    | .brk => .ok .brk E1
    | .cont => .ok .cont E1
  | .set i x, E => (ev cl x E).bind fun w E1 => stoS bo E1 i w
  | .unp is x, E => (ev cl x E).bind fun w E1 => match w with
    | .fz (.tuple ds) => unpS bo E1 is (ds.map .fz)
    | _ => .stuck
  | .unpl is x, E => (ev cl x E).bind fun w E1 => match w with
    | .ol ds => unpS bo E1 is (ds.map .fz)
    | .fz (.list ds) => unpS bo E1 is (ds.map .fz)
    | _ => .stuck
  | .unst i j x, E => (ev cl x E).bind fun w E1 => unstS bo E1 i j w
  | .mat x c1 n1 b1 c2 n2 b2, E => (ev cl x E).bind fun w E1 => (Res.lift (matW w) E1).bind fun p E2 => if c1.contains p.1 && p.2 == n1 then evS cl bo b1 E2 else if c2.contains p.1 && p.2 == n2 then evS cl bo b2 E2 else .ok .next E2
  | .par is xs, E => (evWs cl xs E).bind fun ws E1 => unpS bo E1 is ws
  | .ret x, E => (ev cl x E).bind fun w E1 => .ok (.ret w) E1
  | .rtv i, E => if bo.getD i false then (readS E i).bind fun w E1 => .ok (.ret w) E1 else match getS E i with
    | some w => .ok (.ret w) (E.set i none)
    | none => .stuck
  | .expr x, E => (ev cl x E).bind fun _ E1 => .ok .next E1
  | .ifs c a b, E => (evT cl c E).bind fun t E1 => if t then evS cl bo a E1 else evS cl bo b E1
  | .for_ tg src body, E => if tg.slots.any fun i => bo.getD i false then .stuck else (evR cl src E).bind fun ds E1 => (forR (fun d E2 => (Res.lift (tg.put d E2) E2).bind fun E3 _ => evS cl bo body E3) ds E1).unlock src E
  | .while_ c body, E => whR (evT cl c) (evS cl bo body) wFuel E
  | .brk, E => .ok .brk E
  | .cont, E => .ok .cont E
  | .app i x, E => match getS E i with
    | some (.ol _) => (ev cl x E).bind fun w E1 => (Res.lift w.frzL E1).bind fun d E2 => match getS E2 i with
      | some (.ol ds) => if ds.length < lineN then .ok .next (setS E2 i (.ol (ds ++ [d]))) else .stuck
      | _ => .stuck
    | _ => .stuck
  | .ext i x, E => match getS E i with
    | some (.ol _) => (ev cl x E).bind fun w E1 => (Res.lift w.lst? E1).bind fun es E2 => match getS E2 i with
      | some (.ol ds) => if ds.length + es.length ≤ lineN then .ok .next (setS E2 i (.ol (ds ++ es))) else .stuck
      | _ => .stuck
    | _ => .stuck
  | .put i k v, E => (ev cl v E).bind fun w E1 => (Res.lift w.frzL E1).bind fun d E2 => match getS E2 i with
    | some (.ol _) => (ev cl k E2).bind fun u E3 => match u, getS E3 i with
      | .fz (.int j), some (.ol ds) => (match L2.ixN ds.length j with
        | some m => .ok .next (setS E3 i (.ol (ds.set m d)))
        | none => .stuck)
      | _, _ => .stuck
    | _ => .stuck
  | .dput i k v, E => (ev cl v E).bind fun w E1 => (Res.lift w.frzL E1).bind fun d E2 => (Res.lift (getS E2 i) E2).bind fun _ E3 => (ev cl k E3).bind fun u E4 => (Res.lift u.frzL E4).bind fun kd E5 => dputR i d kd E5
  | .aug i o x, E => match getS E i with
    | some (.fz (.int j)) => (ev cl x E).bind fun w E1 => (Res.lift (augW o j w) E1).bind fun u E2 => stoS bo E2 i u
    | _ => .stuck
  | .raise c, E => .exc ⟨c, []⟩ E
  | .tryx b hit miss s, E => match evS cl bo b E with
    | .exc c E1 => if hit.contains c.cls && c.flds.isEmpty then (evS cl bo s E1).noX else if miss.contains c.cls && c.flds.isEmpty then .exc c E1 else .stuck
    | .ok fl E1 => .ok fl E1
    | .stuck => .stuck
  | .augp i k x, E => match getS E i with
    | some (.ol _) => (ev cl k E).bind fun u E1 => match u, getS E1 i with
      | .fz (.int j), some (.ol ds) => (match atD ds j with
        | some (.int a) => (ev cl x E1).bind fun w E2 => (match w, getS E2 i with
          | .fz (.int b), some (.ol es) => (match L2.ixN es.length j with
            | some m => .ok .next (setS E2 i (.ol (es.set m (.int (a + b)))))
            | none => .stuck)
          | _, _ => .stuck)
        | _ => .stuck)
      | _, _ => .stuck
    | _ => .stuck
  | .sfl i cs f x, E => (ev cl x E).bind fun w E1 => (Res.lift w.frzL E1).bind fun d E2 => match getS E2 i with
    | some (.ob c fs) => if cs.contains c && decide (fs.length < 100) then .ok .next (setS E2 i (.ob c (putO f d fs))) else .stuck
    | _ => .stuck
  | .no, _ => .stuck

structure Fn where
  np : Nat
  nl : Nat
  body : S

/-- what the parameters hold at the end -/
def finS (ws : List W) (E : Sto) : List W := (List.range ws.length).map fun i => match ws[i]? with
  | some w => if w.own then (getS E i).getD w else w
  | none => .fz .none

/-- the parameters that own are still there -/
def keptS (ws : List W) (E : Sto) : Bool := (List.range ws.length).all fun i => match ws[i]? with
  | some w => !w.own || (getS E i).isSome
  | none => true
def callD (fns : List Fn) : Nat → Nat → List W → CRes
  | 0, _, _ => .stuck
  | n + 1, f, ws => match fns[f]? with
    | none => .stuck
    | some fn => if ws.length = fn.np then match evS (callD fns n) (ws.map W.own) fn.body (ws.map some ++ List.replicate (fn.nl - fn.np) none) with
        | .stuck => .stuck
        | .ok (.ret w) E => if keptS ws E then .ret w (finS ws E) else .stuck
        | .ok .next E => if keptS ws E then .ret (.fz .none) (finS ws E) else .stuck
        | .ok .brk _ => .stuck
        | .ok .cont _ => .stuck
        | .exc c E => if keptS ws E then .exc c (finS ws E) else .stuck
      else .stuck
end Sf

end

section
set_option maxRecDepth 100000
/-! Sf: how the evaluator's values lie in the heap. -/
namespace Sf
open PySem PySem.Spec PyProof.Rows L2

/-- the world at hand -/
class WorldI where
  w : World
  cA : Nat → Addr

/-- a key of a dict, as data -/
def keyD : D → Option Key
  | .int i => some (.inl i)
  | .str x => some (.inr x)
  | _ => none
mutual
def nk : D → NestedKey
  | .int i => .num i
  | .str x => .text x
  | .tuple xs => .tup (nks xs)
  | _ => .none
def nks : List D → List NestedKey
  | [] => []
  | x :: xs => nk x :: nks xs
end
/-- the entries of a dict whose keys are tuples -/
abbrev TE3 := List (NestedKey × Addr × V)
abbrev TE3v := List (NestedKey × Addr × Value)
abbrev TXr : TE3 → TE3v → Prop := Paired fun p q => p.1 = q.1 ∧ p.2.1 = q.2.1 ∧ RelV p.2.2 q.2.2
def entryT (w : World) (y : NestedKey × Addr × Value) : DictEntry := ⟨y.1.hash w, .ref y.2.1, y.2.2⟩
def DTx (w : World) (a : Addr) (xs : TE3) (h : Heap) : Prop := (a == sysModules) = false ∧ xs.length ≤ lineN ∧ ∃ (ys : TE3v) (o : Obj) (es : Array DictEntry) (ep : Nat), TXr xs ys ∧ h.get? a = some o ∧ o.ExactDict ∧ o.data = .dict es ep ∧ es.toList = ys.map (entryT w) ∧ (ys.map (·.1)).Nodup
abbrev DT (w : World) (a : Addr) (xs : TE3) : HO := .ext (DTx w a xs)

/-- the fields of an instance -/
inductive RFl (RF : V → D → Prop) : List (Str × V) → List (Str × D) → Prop
  | nil : RFl RF [] []
  | cons {f : Str} {v : V} {d : D} {vs : List (Str × V)} {fs : List (Str × D)} : RF v d → RFl RF vs fs → RFl RF ((f, v) :: vs) ((f, d) :: fs)

section
variable [WorldI]
mutual
/-- data that nobody changes any more, as F tells it -/
inductive RF (F : Hp) : V → D → Prop
  | non : RF F .non .none
  | bl (b : Bool) : RF F (.bl b) (.bool b)
  | int (i : Int) : RF F (.int i) (.int i)
  | str (x : Str) : RF F (.str x) (.str x)
  | lst {a : Addr} {xs : List V} {ds : List D} : F a = some (.lst xs) → ds.length ≤ lineN → RFs F xs ds → RF F (.ref a) (.list ds)
  | tup {a : Addr} {xs : List V} {ds : List D} : F a = some (.tup xs) → ds.length ≤ lineN → RFs F xs ds → RF F (.ref a) (.tuple ds)
  | dk {a : Addr} {o : Obj} {es : List (Key × V)} {kvs : List (D × D)} : F a = some (.frz o (.dK es)) → kvs.length ≤ lineN → RK F es kvs → RF F (.ref a) (.dict kvs)
inductive RFs (F : Hp) : List V → List D → Prop
  | nil : RFs F [] []
  | cons {v : V} {vs : List V} {d : D} {ds : List D} : RF F v d → RFs F vs ds → RFs F (v :: vs) (d :: ds)
inductive RK (F : Hp) : List (Key × V) → List (D × D) → Prop
  | nil : RK F [] []
  | cons {k : Key} {v : V} {es : List (Key × V)} {d e : D} {kvs : List (D × D)} : keyD d = some k → RF F v e → RK F es kvs → RK F ((k, v) :: es) ((d, e) :: kvs)
end
inductive RT (F : Hp) : TE3 → List (D × D) → Prop
  | nil : RT F [] []
  | cons {q : Addr} {v : V} {xs : TE3} {d e : D} {kvs : List (D × D)} : kindOk true d = true → RF F (.ref q) d → RF F v e → RT F xs kvs → RT F ((nk d, q, v) :: xs) ((d, e) :: kvs)

def Le (F F' : Hp) : Prop := ∀ b o, F b = some o → F' b = some o
theorem Le.refl (F : Hp) : Le F F := fun _ _ h => h
theorem Le.trans {F F1 F2 : Hp} (a : Le F F1) (b : Le F1 F2) : Le F F2 := fun x o h => b x o (a x o h)
theorem Le.new {F : Hp} {p : Addr} {o : HO} (h : F p = none) : Le F (upd F p o) := fun b u e => by
  rw [upd_ne (ne_of_none e h)]
  exact e
theorem Le.newBoth {F H : Hp} {p : Addr} {o : HO} (h : Le F H) : Le (upd F p o) (upd H p o) := fun b u e => by
  by_cases q : b = p
  · subst q
    rw [upd_same] at e ⊢
    exact e
  · rw [upd_ne q] at e ⊢
    exact h b u e
theorem Le.newR {F H : Hp} {p : Addr} {o : HO} (h : Le F H) (n : F p = none) : Le F (upd H p o) := fun b u e => by
  rw [upd_ne (ne_of_none e n)]
  exact h b u e

mutual
theorem RF.mono {F F' : Hp} (l : Le F F') : ∀ (d : D) (v : V), RF F v d → RF F' v d
  | .none, _, h => by cases h; exact .non
  | .bool _, _, h => by cases h; exact .bl _
  | .int _, _, h => by cases h; exact .int _
  | .str _, _, h => by cases h; exact .str _
  | .list ds, _, h => by
    cases h with
    | lst a z b => exact .lst (l _ _ a) z (RFs.mono l ds _ b)
  | .tuple ds, _, h => by
    cases h with
    | tup a z b => exact .tup (l _ _ a) z (RFs.mono l ds _ b)
  | .dict kvs, _, h => by
    cases h with
    | dk a z b => exact .dk (l _ _ a) z (RK.mono l kvs _ b)
theorem RFs.mono {F F' : Hp} (l : Le F F') : ∀ (ds : List D) (vs : List V), RFs F vs ds → RFs F' vs ds
  | [], _, h => by cases h; exact .nil
  | d :: ds, _, h => by
    cases h with
    | cons a b => exact .cons (RF.mono l d _ a) (RFs.mono l ds _ b)
theorem RK.mono {F F' : Hp} (l : Le F F') : ∀ (kvs : List (D × D)) (es : List (Key × V)), RK F es kvs → RK F' es kvs
  | [], _, h => by cases h; exact .nil
  | (d, e) :: kvs, _, h => by
    cases h with
    | cons a b c => exact .cons a (RF.mono l e _ b) (RK.mono l kvs _ c)
end
theorem RT.mono {F F' : Hp} (l : Le F F') : ∀ (kvs : List (D × D)) (xs : TE3), RT F xs kvs → RT F' xs kvs
  | [], _, h => by cases h; exact .nil
  | (d, e) :: kvs, _, h => by
    cases h with
    | cons a b c f => exact .cons a (RF.mono l d _ b) (RF.mono l e _ c) (RT.mono l kvs _ f)
theorem RF.up {F F' : Hp} {d : D} {v : V} (h : RF F v d) (l : Le F F') : RF F' v d := RF.mono l d v h
theorem RFs.up {F F' : Hp} {ds : List D} {vs : List V} (h : RFs F vs ds) (l : Le F F') : RFs F' vs ds := RFs.mono l ds vs h
theorem RK.up {F F' : Hp} {kvs : List (D × D)} {es : List (Key × V)} (h : RK F es kvs) (l : Le F F') : RK F' es kvs := RK.mono l kvs es h
theorem RT.up {F F' : Hp} {kvs : List (D × D)} {xs : TE3} (h : RT F xs kvs) (l : Le F F') : RT F' xs kvs := RT.mono l kvs xs h
theorem RK.len {F : Hp} : ∀ {es : List (Key × V)} {kvs : List (D × D)}, RK F es kvs → es.length = kvs.length
  | _, _, .nil => rfl
  | _, _, .cons _ _ h => congrArg Nat.succ (RK.len h)
theorem RT.len {F : Hp} : ∀ {xs : TE3} {kvs : List (D × D)}, RT F xs kvs → xs.length = kvs.length
  | _, _, .nil => rfl
  | _, _, .cons _ _ _ h => congrArg Nat.succ (RT.len h)

mutual
theorem RF.dp {K : PySem.W.Frag} {H : Hp} : ∀ (d : D) (v : V), d.hasDict = false → RF H v d → Dp K H v d
  | .none, _, _, h => by cases h; exact .non
  | .bool _, _, _, h => by cases h; exact .bl _
  | .int _, _, _, h => by cases h; exact .int _
  | .str _, _, _, h => by cases h; exact .str _
  | .list ds, _, n, h => by
    cases h with
    | lst a _ b => exact .lst (SqL.of a) (RFs.dp ds _ (by simpa [PyData.hasDict] using n) b)
  | .tuple ds, _, n, h => by
    cases h with
    | tup a _ b => exact .tup (SqT.of a) (RFs.dp ds _ (by simpa [PyData.hasDict] using n) b)
  | .dict _, _, n, h => by simp [PyData.hasDict] at n
theorem RFs.dp {K : PySem.W.Frag} {H : Hp} : ∀ (ds : List D) (vs : List V), PyData.hasDictAll ds = false → RFs H vs ds → DpAll K H vs ds
  | [], _, _, h => by cases h; exact .nil
  | d :: ds, _, n, h => by
    cases h with
    | cons a b =>
      have n2 : d.hasDict = false ∧ PyData.hasDictAll ds = false := by simpa [PyData.hasDictAll] using n
      exact .cons (RF.dp d _ n2.1 a) (RFs.dp ds _ n2.2 b)
end

/-! ### lists of data -/
theorem RFs.len {F : Hp} : ∀ {vs : List V} {ds : List D}, RFs F vs ds → vs.length = ds.length
  | _, _, .nil => rfl
  | _, _, .cons _ h => congrArg Nat.succ (RFs.len h)
theorem RFs.get {F : Hp} : ∀ {vs : List V} {ds : List D} {i : Nat} {d : D}, RFs F vs ds → ds[i]? = some d → ∃ v, vs[i]? = some v ∧ RF F v d
  | _, _, _, _, .nil, e => by simp at e
  | _, _, 0, _, .cons a _, e => by
    simp at e
    subst e
    exact ⟨_, rfl, a⟩
  | _, _, i + 1, d, .cons _ h, e => by
    obtain ⟨v, h1, h2⟩ := RFs.get (i := i) (d := d) h (by simpa using e)
    exact ⟨v, by simpa using h1, h2⟩
theorem RFs.getV {F : Hp} : ∀ {vs : List V} {ds : List D} {i : Nat} {v : V}, RFs F vs ds → vs[i]? = some v → ∃ d, ds[i]? = some d ∧ RF F v d
  | _, _, _, _, .nil, e => by simp at e
  | _, _, 0, _, .cons a _, e => by
    simp at e
    subst e
    exact ⟨_, rfl, a⟩
  | _, _, i + 1, v, .cons _ h, e => by
    obtain ⟨d, h1, h2⟩ := RFs.getV (i := i) (v := v) h (by simpa using e)
    exact ⟨d, by simpa using h1, h2⟩
theorem RFs.app {F : Hp} : ∀ {vs us : List V} {ds es : List D}, RFs F vs ds → RFs F us es → RFs F (vs ++ us) (ds ++ es)
  | _, _, _, _, .nil, h => h
  | _, _, _, _, .cons a h, g => .cons a (RFs.app h g)
theorem RFs.drop {F : Hp} : ∀ {vs : List V} {ds : List D} (n : Nat), RFs F vs ds → RFs F (vs.drop n) (ds.drop n)
  | _, _, 0, h => h
  | _, _, _ + 1, .nil => .nil
  | _, _, n + 1, .cons _ h => RFs.drop n h
theorem RFs.take {F : Hp} : ∀ {vs : List V} {ds : List D} (n : Nat), RFs F vs ds → RFs F (vs.take n) (ds.take n)
  | _, _, 0, _ => .nil
  | _, _, _ + 1, .nil => .nil
  | _, _, n + 1, .cons a h => .cons a (RFs.take n h)
theorem RFs.set {F : Hp} {v : V} {d : D} (a : RF F v d) : ∀ {vs : List V} {ds : List D} (n : Nat), RFs F vs ds → RFs F (vs.set n v) (ds.set n d)
  | _, _, _, .nil => .nil
  | _, _, 0, .cons _ h => .cons a h
  | _, _, n + 1, .cons b h => .cons b (RFs.set a n h)
theorem RFs.rep {F : Hp} {vs : List V} {ds : List D} (h : RFs F vs ds) : ∀ k : Nat, RFs F (List.replicate k vs).flatten (List.replicate k ds).flatten
  | 0 => .nil
  | k + 1 => by
    rw [List.replicate_succ, List.replicate_succ, List.flatten_cons, List.flatten_cons]
    exact h.app (RFs.rep h k)
theorem RFs.rev {F : Hp} : ∀ {vs : List V} {ds : List D}, RFs F vs ds → RFs F vs.reverse ds.reverse
  | _, _, .nil => .nil
  | _, _, .cons a h => by
    rw [List.reverse_cons, List.reverse_cons]
    exact (RFs.rev h).app (.cons a .nil)
theorem RFs.ints {F : Hp} : ∀ {vs : List V} {ds : List D} {ns : List Int}, RFs F vs ds → ints? ds = some ns → vs = ns.map V.int
  | _, _, _, .nil, e => by
    cases e
    rfl
  | _, _, ns, .cons (d := d) (ds := ds) a h, e => by
    cases a with
    | int i =>
      have e2 : (ints? ds).map (i :: ·) = some ns := e
      cases q : ints? ds with
      | none =>
        rw [q] at e2
        cases e2
      | some ms =>
        rw [q] at e2
        cases e2
        rw [RFs.ints h q]
        rfl
    | _ => cases e
theorem RFs.bools {F : Hp} : ∀ {vs : List V} {ds : List D} {bs : List Bool}, RFs F vs ds → bools? ds = some bs → vs = bs.map V.bl
  | _, _, _, .nil, e => by
    cases e
    rfl
  | _, _, bs, .cons (d := d) (ds := ds) a h, e => by
    cases a with
    | bl i =>
      have e2 : (bools? ds).map (i :: ·) = some bs := e
      cases q : bools? ds with
      | none =>
        rw [q] at e2
        cases e2
      | some ms =>
        rw [q] at e2
        cases e2
        rw [RFs.bools h q]
        rfl
    | _ => cases e
theorem RFs.ofInts {F : Hp} : ∀ ns : List Int, RFs F (ns.map V.int) (ns.map PyData.int)
  | [] => .nil
  | n :: ns => .cons (.int n) (RFs.ofInts ns)

/-! ### values -/
def RW (K : PySem.W.Frag) (F H : Hp) (w : W) (v : V) : Prop := match w with
  | .fz d => RF F v d
  | .ol ds => ∃ a xs, v = .ref a ∧ H a = some (.lst xs) ∧ ds.length ≤ lineN ∧ RFs F xs ds
  | .od t kvs => ∃ a, v = .ref a ∧ kvs.length ≤ lineN ∧ match t with
    | false => ∃ es, H a = some (.dK es) ∧ RK F es kvs
    | true => ∃ xs, H a = some (DT WorldI.w a xs) ∧ RT F xs kvs
  | .ft kvs => ∃ a o xs, v = .ref a ∧ F a = some (.frz o (DT WorldI.w a xs)) ∧ kvs.length ≤ lineN ∧ RT F xs kvs
  | .scr ns => ∃ a, v = .ref a ∧ SqL K F a (ns.map V.int)
  | .gk ds => ∃ a xs, v = .ref a ∧ SqT K F a xs ∧ RFs F xs ds
  | .lk ds => ∃ a xs, v = .ref a ∧ H a = some (.lst xs) ∧ ds.length ≤ lineN ∧ RFs F xs ds
  | .ob c fs => ∃ a dx vs, v = .ref a ∧ H a = some (.ins (WorldI.cA c) dx vs) ∧ fs.length ≤ 100 ∧ RFl (RF F) vs fs

theorem RFl.up {F F' : Hp} (l : Le F F') : ∀ {vs : List (Str × V)} {fs : List (Str × D)}, RFl (RF F) vs fs → RFl (RF F') vs fs
  | _, _, .nil => .nil
  | _, _, .cons r h => .cons (r.up l) (RFl.up l h)
theorem RFl.look {R : V → D → Prop} {x : Str} {d : D} : ∀ {vs : List (Str × V)} {fs : List (Str × D)}, RFl R vs fs → fs.lookup x = some d → ∃ v, vs.lookup x = some v ∧ R v d
  | _, _, .nil, e => by cases e
  | _, _, .cons (f := f) (v := v) (d := d') (vs := vs) (fs := fs) r h, e => by
    by_cases q : x = f
    · subst q
      rw [List.lookup_cons, beq_self_eq_true] at e ⊢
      cases e
      exact ⟨_, rfl, r⟩
    · have q' : (x == f) = false := by simpa using q
      rw [List.lookup_cons, q'] at e ⊢
      exact RFl.look h e
theorem RFl.len {R : V → D → Prop} : ∀ {vs : List (Str × V)} {fs : List (Str × D)}, RFl R vs fs → vs.length = fs.length
  | _, _, .nil => rfl
  | _, _, .cons _ h => congrArg Nat.succ (RFl.len h)

def ownAt (E : Sto) (σ : L2.St) (i : Nat) (a : Addr) : Prop := ∃ w, E[i]? = some (some w) ∧ w.own = true ∧ σ[i]? = some (some (.ref a))

def mutAt (E : Sto) (σ : L2.St) (i : Nat) (a : Addr) : Prop := ∃ w, E[i]? = some (some w) ∧ w.mu = true ∧ σ[i]? = some (some (.ref a))
theorem mu_own {w : W} (h : w.mu = true) : w.own = true := by
  cases w <;> first | rfl | cases h
theorem mutAt.own {E : Sto} {σ : L2.St} {i : Nat} {a : Addr} (h : mutAt E σ i a) : ownAt E σ i a := by
  obtain ⟨w, h1, h2, h3⟩ := h
  exact ⟨w, h1, mu_own h2, h3⟩

structure SR (K : PySem.W.Frag) (F H : Hp) (E : Sto) (σ : L2.St) : Prop where
  len : E.length = σ.length
  at_ : ∀ (i : Nat) (w : W), E[i]? = some (some w) → ∃ v, σ[i]? = some (some v) ∧ RW K F H w v
  sep : ∀ (i j : Nat) (a : Addr), ownAt E σ i a → ownAt E σ j a → i = j
  free : ∀ (i : Nat) (a : Addr), ownAt E σ i a → F a = none
  le : Le F H

structure Ext (F H : Hp) (E : Sto) (σ : L2.St) (F' H' : Hp) (E' : Sto) : Prop where
  fle : Le F F'
  keep : ∀ b o, H b = some o → (∀ i, ¬ mutAt E σ i b) → H' b = some o
  fnew : ∀ b, F' b ≠ none → F b ≠ none ∨ (∃ i, mutAt E σ i b) ∨ H b = none
  own : ∀ i b, ownAt E' σ i b → ownAt E σ i b
  mta : ∀ i b, mutAt E' σ i b → mutAt E σ i b
  thr : ∀ b, H b ≠ none → H' b ≠ none

theorem Ext.refl (F H : Hp) (E : Sto) (σ : L2.St) : Ext F H E σ F H E :=
  ⟨Le.refl F, fun _ _ h _ => h, fun _ h => .inl h, fun _ _ h => h, fun _ _ h => h, fun _ h => h⟩
theorem Ext.trans {F H F1 H1 F2 H2 : Hp} {E E1 E2 : Sto} {σ : L2.St} (a : Ext F H E σ F1 H1 E1) (b : Ext F1 H1 E1 σ F2 H2 E2) : Ext F H E σ F2 H2 E2 := by
  refine ⟨a.fle.trans b.fle, fun x o h n => b.keep x o (a.keep x o h n) fun i q => n i (a.mta i x q), fun x h => ?_, fun i x q => a.own i x (b.own i x q), fun i x q => a.mta i x (b.mta i x q), fun x h => b.thr x (a.thr x h)⟩
  rcases b.fnew x h with q | ⟨i, q⟩ | q
  · exact a.fnew x q
  · exact .inr (.inl ⟨i, a.mta i x q⟩)
  · refine .inr (.inr ?_)
    cases e : H x with
    | none => rfl
    | some o => exact absurd q (a.thr x (by rw [e]; exact fun z => nomatch z))

theorem ob_some {F H : Hp} {K : PySem.W.Frag} {c : Nat} {fs : List (Str × D)} {a : Addr} (r : RW K F H (.ob c fs) (.ref a)) : H a ≠ none := by
  obtain ⟨b, dx, vs, e1, e2, _⟩ := r
  cases e1
  rw [e2]
  exact fun z => nomatch z
theorem ownAt.some_at {K : PySem.W.Frag} {F H : Hp} {E : Sto} {σ : L2.St} {i : Nat} {a : Addr} (S : SR K F H E σ) (h : ownAt E σ i a) : H a ≠ none := by
  obtain ⟨w, e, o, s⟩ := h
  obtain ⟨v, s2, r⟩ := S.at_ i w e
  rw [s] at s2
  cases s2
  cases w with
  | ol ds =>
    obtain ⟨b, xs, e1, e2, _, _⟩ := r
    cases e1
    rw [e2]
    exact fun z => nomatch z
  | ob c fs => exact ob_some r
  | lk ds =>
    obtain ⟨b, xs, e1, e2, _, _⟩ := r
    cases e1
    rw [e2]
    exact fun z => nomatch z
  | od t kvs =>
    obtain ⟨b, e1, _, e2⟩ := r
    cases e1
    cases t with
    | false =>
      obtain ⟨es, e2, _⟩ := e2
      rw [e2]
      exact fun z => nomatch z
    | true =>
      obtain ⟨es, e2, _⟩ := e2
      rw [e2]
      exact fun z => nomatch z
  | _ => cases o

/-- a value of one's own is nobody else's -/
def Tm (H0 F : Hp) (E : Sto) (σ : L2.St) (w : W) (v : V) : Prop := w.own = true → ∀ a, v = .ref a → H0 a = none ∧ F a = none ∧ ∀ i, ¬ ownAt E σ i a
def Rs (K : PySem.W.Frag) (F H H0 : Hp) (E : Sto) (σ : L2.St) (w : W) (v : V) : Prop := RW K F H w v ∧ Tm H0 F E σ w v

theorem RW.keepFz {K : PySem.W.Frag} {F H F' H' : Hp} {w : W} {v : V} (h : RW K F H w v) (o : w.own = false) (l : Le F F') : RW K F' H' w v := by
  cases w with
  | fz d => exact RF.up h l
  | ol _ => cases o
  | lk _ => cases o
  | ob _ _ => cases o
  | od _ _ => cases o
  | ft kvs =>
    obtain ⟨a, o, xs, e, q, z, r⟩ := h
    exact ⟨a, o, xs, e, l _ _ q, z, r.up l⟩
  | scr ns =>
    obtain ⟨a, e, q⟩ := h
    refine ⟨a, e, ?_⟩
    rcases q with (q | ⟨u, q⟩) | q
    · exact .inl (.inl (l _ _ q))
    · exact .inl (.inr ⟨u, l _ _ q⟩)
    · exact .inr q
  | gk ds =>
    obtain ⟨a, xs, e, q, r⟩ := h
    refine ⟨a, xs, e, ?_, r.up l⟩
    rcases q with (q | ⟨u, q⟩) | q
    · exact .inl (.inl (l _ _ q))
    · exact .inl (.inr ⟨u, l _ _ q⟩)
    · exact .inr q
theorem RW.keep {K : PySem.W.Frag} {F H F' H' : Hp} {w : W} {v : V} (h : RW K F H w v) (l : Le F F') (k : w.own = true → ∀ a o, v = .ref a → H a = some o → H' a = some o) : RW K F' H' w v := by
  cases q : w.own with
  | false => exact h.keepFz q l
  | true =>
    cases w with
    | ol ds =>
      obtain ⟨a, xs, e1, e2, z, r⟩ := h
      exact ⟨a, xs, e1, k rfl a _ e1 e2, z, r.up l⟩
    | ob c fs =>
      obtain ⟨a, dx, vs, e1, e2, z, r⟩ := h
      exact ⟨a, dx, vs, e1, k rfl a _ e1 e2, z, r.up l⟩
    | lk ds =>
      obtain ⟨a, xs, e1, e2, z, r⟩ := h
      exact ⟨a, xs, e1, k rfl a _ e1 e2, z, r.up l⟩
    | od t kvs =>
      obtain ⟨a, e1, z, r⟩ := h
      cases t with
      | false =>
        obtain ⟨es, e2, r⟩ := r
        exact ⟨a, e1, z, es, k rfl a _ e1 e2, r.up l⟩
      | true =>
        obtain ⟨es, e2, r⟩ := r
        exact ⟨a, e1, z, es, k rfl a _ e1 e2, r.up l⟩
    | _ => cases q
theorem RW.ref_of_own {K : PySem.W.Frag} {F H : Hp} {w : W} {v : V} (h : RW K F H w v) (o : w.own = true) : ∃ a, v = .ref a ∧ H a ≠ none := by
  cases w with
  | ob c fs =>
    obtain ⟨a, dx, vs, e1, e2, r⟩ := h
    exact ⟨a, e1, by rw [e2]; exact fun z => nomatch z⟩
  | ol ds =>
    obtain ⟨a, xs, e1, e2, r⟩ := h
    exact ⟨a, e1, by rw [e2]; exact fun z => nomatch z⟩
  | lk ds =>
    obtain ⟨a, xs, e1, e2, r⟩ := h
    exact ⟨a, e1, by rw [e2]; exact fun z => nomatch z⟩
  | od t kvs =>
    obtain ⟨a, e1, z, r⟩ := h
    cases t with
    | false =>
      obtain ⟨es, e2, r⟩ := r
      exact ⟨a, e1, by rw [e2]; exact fun z => nomatch z⟩
    | true =>
      obtain ⟨es, e2, r⟩ := r
      exact ⟨a, e1, by rw [e2]; exact fun z => nomatch z⟩
  | _ => cases o
/-- a value stays while something else is reckoned -/
theorem Rs.carry {K : PySem.W.Frag} {F H H0 F' H' : Hp} {E E' : Sto} {σ : L2.St} {w : W} {v : V} (h : Rs K F H H0 E σ w v) (x : Ext F H E σ F' H' E') : Rs K F' H' H0 E' σ w v := by
  obtain ⟨r, t⟩ := h
  refine ⟨r.keep x.fle fun o a u e q => x.keep a u q fun i z => (t o a e).2.2 i z.own, fun o a e => ?_⟩
  obtain ⟨t1, t2, t3⟩ := t o a e
  refine ⟨t1, ?_, fun i q => t3 i (x.own i a q)⟩
  cases z : F' a with
  | none => rfl
  | some u =>
    exfalso
    rcases x.fnew a (by rw [z]; exact fun q => nomatch q) with q | ⟨i, q⟩ | q
    · exact q t2
    · exact t3 i q.own
    · obtain ⟨b, e1, e2⟩ := r.ref_of_own o
      rw [e] at e1
      cases e1
      exact e2 q
theorem Rs.since {K : PySem.W.Frag} {F H H0 H1 : Hp} {E : Sto} {σ : L2.St} {w : W} {v : V} (h : Rs K F H H1 E σ w v) (x : ∀ b, H0 b ≠ none → H1 b ≠ none) : Rs K F H H0 E σ w v := by
  refine ⟨h.1, fun o a e => ?_⟩
  obtain ⟨t1, t2, t3⟩ := h.2 o a e
  refine ⟨?_, t2, t3⟩
  cases q : H0 a with
  | none => rfl
  | some u => exact absurd t1 (x a (by rw [q]; exact fun z => nomatch z))
end
end Sf

end

section
set_option maxRecDepth 100000
set_option maxHeartbeats 1000000
/-! Sf: dicts in the heap. -/
namespace Sf
open PySem PySem.Spec PyProof.Rows L2
variable [WorldI]

/-! ### keys -/
mutual
theorem keyEq_nk : ∀ x y : D, keyable x = true → keyable y = true → keyEq x y = decide (nk x = nk y)
  | .int i, .int j, _, _ => by simp [keyEq, nk]
  | .str i, .str j, _, _ => by simp [keyEq, nk]
  | .tuple xs, .tuple ys, hx, hy => by
    rw [keyEq, nk, nk, keyEqs_nk xs ys (by simpa [keyable] using hx) (by simpa [keyable] using hy)]
    simp
  | .int _, .str _, _, _ => by simp [keyEq, nk]
  | .int _, .tuple _, _, _ => by simp [keyEq, nk]
  | .str _, .int _, _, _ => by simp [keyEq, nk]
  | .str _, .tuple _, _, _ => by simp [keyEq, nk]
  | .tuple _, .int _, _, _ => by simp [keyEq, nk]
  | .tuple _, .str _, _, _ => by simp [keyEq, nk]
  | .none, _, h, _ => by simp [keyable] at h
  | .bool _, _, h, _ => by simp [keyable] at h
  | .list _, _, h, _ => by simp [keyable] at h
  | .dict _, _, h, _ => by simp [keyable] at h
  | .int _, .none, _, h => by simp [keyable] at h
  | .int _, .bool _, _, h => by simp [keyable] at h
  | .int _, .list _, _, h => by simp [keyable] at h
  | .int _, .dict _, _, h => by simp [keyable] at h
  | .str _, .none, _, h => by simp [keyable] at h
  | .str _, .bool _, _, h => by simp [keyable] at h
  | .str _, .list _, _, h => by simp [keyable] at h
  | .str _, .dict _, _, h => by simp [keyable] at h
  | .tuple _, .none, _, h => by simp [keyable] at h
  | .tuple _, .bool _, _, h => by simp [keyable] at h
  | .tuple _, .list _, _, h => by simp [keyable] at h
  | .tuple _, .dict _, _, h => by simp [keyable] at h
theorem keyEqs_nk : ∀ xs ys : List D, keyables xs = true → keyables ys = true → keyEqs xs ys = decide (nks xs = nks ys)
  | [], [], _, _ => by simp [keyEqs, nks]
  | [], _ :: _, _, _ => by simp [keyEqs, nks]
  | _ :: _, [], _, _ => by simp [keyEqs, nks]
  | x :: xs, y :: ys, hx, hy => by
    obtain ⟨h1, h2⟩ := Bool.and_eq_true_iff.mp (show (keyable x && keyables xs) = true by simpa [keyables] using hx)
    obtain ⟨h3, h4⟩ := Bool.and_eq_true_iff.mp (show (keyable y && keyables ys) = true by simpa [keyables] using hy)
    rw [keyEqs, nks, nks, keyEq_nk x y h1 h3, keyEqs_nk xs ys h2 h4]
    simp
end
theorem kindT {d : D} (h : kindOk true d = true) : ∃ xs, d = .tuple xs ∧ keyables xs = true ∧ d.depth ≤ 8 := by
  cases d with
  | tuple xs =>
    obtain ⟨h1, h2⟩ := Bool.and_eq_true_iff.mp (show (keyables xs && decide ((PyData.tuple xs).depth ≤ 8)) = true from h)
    exact ⟨xs, rfl, h1, of_decide_eq_true h2⟩
  | _ => cases h
theorem kindT_able {d : D} (h : kindOk true d = true) : keyable d = true := by
  obtain ⟨xs, rfl, h1, _⟩ := kindT h
  simpa [keyable] using h1
theorem kindK {d : D} (h : kindOk false d = true) : ∃ k, keyD d = some k := by
  cases d with
  | int i => exact ⟨_, rfl⟩
  | str x => exact ⟨_, rfl⟩
  | _ => cases h
theorem keyD_eq {d e : D} {k j : Key} (h : keyD d = some k) (g : keyD e = some j) : keyEq d e = decide (k = j) := by
  cases d with
  | int i =>
    cases h
    cases e with
    | int i => cases g; simp [keyEq]
    | str x => cases g; simp [keyEq]
    | _ => cases g
  | str x =>
    cases h
    cases e with
    | int i => cases g; simp [keyEq]
    | str x => cases g; simp [keyEq]
    | _ => cases g
  | _ => cases h
theorem keyD_rf {F : Hp} {v : V} {d : D} {k : Key} (h : keyD d = some k) (r : RF F v d) : v = kV k := by
  cases r with
  | int i => cases h; rfl
  | str x => cases h; rfl
  | _ => cases h
mutual
theorem nk_depth : ∀ d : D, (nk d).depth ≤ d.depth
  | .none => by simp [nk, NestedKey.depth]
  | .bool _ => by simp [nk, NestedKey.depth]
  | .int _ => by simp [nk, NestedKey.depth]
  | .str _ => by simp [nk, NestedKey.depth]
  | .list _ => by simp [nk, NestedKey.depth]
  | .dict _ => by simp [nk, NestedKey.depth]
  | .tuple xs => by
    have := nks_depth xs
    simp only [nk, NestedKey.depth, PyData.depth]
    omega
theorem nks_depth : ∀ ds : List D, NestedKey.depthAll (nks ds) ≤ PyData.depthAll ds
  | [] => by simp [nks, NestedKey.depthAll]
  | d :: ds => by
    have := nk_depth d
    have := nks_depth ds
    simp only [nks, NestedKey.depthAll, PyData.depthAll]
    omega
end

section
variable {P : Program} {w : World} {H : Hp} {h : Heap}
mutual
theorem rf_nested (ok : HOk P w H h) : ∀ (d : D) (v : V) (u : Value), keyable d = true → RF H v d → RelV v u → NestedIs h (nk d) u
  | .int i, _, _, _, r, rv => by
    cases r
    obtain ⟨t, rfl⟩ := rv
    exact .int i t
  | .str x, _, _, _, r, rv => by
    cases r
    obtain ⟨t, rfl⟩ := rv
    exact .text x t
  | .tuple ds, _, _, n, r, rv => by
    cases r with
    | tup a z b =>
      cases rv
      obtain ⟨_, its, vs, o, ho, hc, m, hd⟩ := ok _ _ a
      exact .tup ho hc hd (rfs_nested ok ds _ _ (by simpa [keyable] using n) b vs)
  | .none, _, _, n, _, _ => by simp [keyable] at n
  | .bool _, _, _, n, _, _ => by simp [keyable] at n
  | .list _, _, _, n, _, _ => by simp [keyable] at n
  | .dict _, _, _, n, _, _ => by simp [keyable] at n
theorem rfs_nested (ok : HOk P w H h) : ∀ (ds : List D) (vs : List V) (us : List Value), keyables ds = true → RFs H vs ds → Vals vs us → NestedAll h (nks ds) us
  | [], _, _, _, r, rv => by
    cases r
    cases rv
    exact .nil
  | d :: ds, _, _, n, r, rv => by
    obtain ⟨n1, n2⟩ := Bool.and_eq_true_iff.mp (show (keyable d && keyables ds) = true by simpa [keyables] using n)
    cases r with
    | cons a b =>
      cases rv with
      | cons a' b' => exact .cons (rf_nested ok d _ _ n1 a a') (rfs_nested ok ds _ _ n2 b b')
end
theorem key_is (ok : HOk P w H h) {d : D} {q : Addr} (n : kindOk true d = true) (r : RF H (.ref q) d) : (nestedKind P w).is h (nk d) q := by
  obtain ⟨xs, rfl, h1, h2⟩ := kindT n
  exact ⟨rf_nested ok _ _ _ (kindT_able n) r rfl, Nat.le_trans (nk_depth _) h2⟩
end

/-! ### what is found -/
theorem dget_nil {d : D} : dget [] d = none := rfl
theorem dget_pos {p : D × D} {r : List (D × D)} {k : D} (e : keyEq p.1 k = true) : dget (p :: r) k = some p.2 := by simp [dget, List.find?_cons, e]
theorem dget_neg {p : D × D} {r : List (D × D)} {k : D} (e : keyEq p.1 k = false) : dget (p :: r) k = dget r k := by simp [dget, List.find?_cons, e]
def RO (F : Hp) : Option V → Option D → Prop
  | some v, some d => RF F v d
  | none, none => True
  | _, _ => False
theorem RK.val {F : Hp} {d : D} {k : Key} (hk : keyD d = some k) : ∀ {es : List (Key × V)} {kvs : List (D × D)}, RK F es kvs → RO F (valV es k) (dget kvs d)
  | _, _, .nil => trivial
  | _, _, .cons (k := j) (d := e) a b c => by
    have q := keyD_eq a hk
    by_cases z : j = k
    · rw [valV_pos z, dget_pos (by rw [q]; exact decide_eq_true z)]
      exact b
    · rw [valV_neg z, dget_neg (by rw [q]; exact decide_eq_false z)]
      exact RK.val hk c
theorem any_dget (kvs : List (D × D)) (k : D) : (kvs.any fun p => keyEq p.1 k) = (dget kvs k).isSome := by
  induction kvs with
  | nil => rfl
  | cons p r ih =>
    cases e : keyEq p.1 k with
    | true => rw [dget_pos e]; simp [e]
    | false => rw [dget_neg e]; simp [e, ih]
theorem RK.repl {F : Hp} {d e : D} {k : Key} {v : V} (hk : keyD d = some k) (rv : RF F v e) : ∀ {es : List (Key × V)} {kvs : List (D × D)}, RK F es kvs → RK F (es.map fun kv => if kv.1 = k then (kv.1, v) else kv) (kvs.map fun p => if keyEq p.1 d then (p.1, e) else p)
  | _, _, .nil => .nil
  | _, _, .cons (k := j) (d := c) a b r => by
    have q := keyD_eq a hk
    rw [List.map_cons, List.map_cons]
    by_cases z : j = k
    · simp only [q, z, decide_true, if_true]
      subst z
      exact .cons a rv (RK.repl hk rv r)
    · simp only [q, z, decide_false, if_false]
      exact .cons a b (RK.repl hk rv r)
theorem RK.snoc {F : Hp} {d e : D} {k : Key} {v : V} (hk : keyD d = some k) (rv : RF F v e) : ∀ {es : List (Key × V)} {kvs : List (D × D)}, RK F es kvs → RK F (es ++ [(k, v)]) (kvs ++ [(d, e)])
  | _, _, .nil => .cons hk rv .nil
  | _, _, .cons a b r => .cons a b (RK.snoc hk rv r)
theorem RO.isSome {F : Hp} {o : Option V} {p : Option D} (h : RO F o p) : o.isSome = p.isSome := by
  cases o <;> cases p <;> first | rfl | exact h.elim
theorem RK.put {F : Hp} {d e : D} {k : Key} {v : V} (hk : keyD d = some k) (rv : RF F v e) {es : List (Key × V)} {kvs : List (D × D)} (r : RK F es kvs) : RK F (putK es k v) (dput kvs d e) := by
  unfold putK dput
  rw [any_dget, valV_any, (r.val hk).isSome]
  split
  · exact r.repl hk rv
  · exact r.snoc hk rv

/-! ### .. where the keys are tuples -/
def atK (xs : TE3) (k : NestedKey) : Option V := (xs.find? fun x => decide (x.1 = k)).map (·.2.2)
theorem RT.val {F : Hp} {d : D} (n : kindOk true d = true) : ∀ {xs : TE3} {kvs : List (D × D)}, RT F xs kvs → RO F (atK xs (nk d)) (dget kvs d)
  | _, _, .nil => trivial
  | _, _, .cons (d := e) (q := q) (v := v) (xs := xs) a b c r => by
    have eq := keyEq_nk e d (kindT_able a) (kindT_able n)
    by_cases z : nk e = nk d
    · rw [dget_pos (by rw [eq]; exact decide_eq_true z)]
      have : atK ((nk e, q, v) :: xs) (nk d) = some v := by simp [atK, List.find?_cons, z]
      rw [this]
      exact c
    · rw [dget_neg (by rw [eq]; exact decide_eq_false z)]
      have : atK ((nk e, q, v) :: xs) (nk d) = atK xs (nk d) := by simp [atK, List.find?_cons, z]
      rw [this]
      exact RT.val n r
def putT (xs : TE3) (k : NestedKey) (a : Addr) (v : V) : TE3 := if (atK xs k).isSome then xs.map fun x => if x.1 = k then (x.1, x.2.1, v) else x else xs ++ [(k, a, v)]
theorem RT.repl {F : Hp} {d e : D} {v : V} (n : kindOk true d = true) (rv : RF F v e) : ∀ {xs : TE3} {kvs : List (D × D)}, RT F xs kvs → RT F (xs.map fun x => if x.1 = nk d then (x.1, x.2.1, v) else x) (kvs.map fun p => if keyEq p.1 d then (p.1, e) else p)
  | _, _, .nil => .nil
  | _, _, .cons (d := c) a b f r => by
    have q := keyEq_nk c d (kindT_able a) (kindT_able n)
    rw [List.map_cons, List.map_cons]
    by_cases z : nk c = nk d
    · simp only [q, z, decide_true, if_true]
      rw [← z]
      have := RT.repl n rv r
      rw [← z] at this
      exact .cons a b rv this
    · simp only [q, z, decide_false, if_false]
      exact .cons a b f (RT.repl n rv r)
theorem RT.snoc {F : Hp} {d e : D} {v : V} {q : Addr} (n : kindOk true d = true) (rq : RF F (.ref q) d) (rv : RF F v e) : ∀ {xs : TE3} {kvs : List (D × D)}, RT F xs kvs → RT F (xs ++ [(nk d, q, v)]) (kvs ++ [(d, e)])
  | _, _, .nil => .cons n rq rv .nil
  | _, _, .cons a b c r => .cons a b c (RT.snoc n rq rv r)
theorem RT.put {F : Hp} {d e : D} {v : V} {q : Addr} (n : kindOk true d = true) (rq : RF F (.ref q) d) (rv : RF F v e) {xs : TE3} {kvs : List (D × D)} (r : RT F xs kvs) : RT F (putT xs (nk d) q v) (dput kvs d e) := by
  unfold putT dput
  rw [any_dget, (r.val n).isSome]
  split
  · exact r.repl n rv
  · exact r.snoc n rq rv

/-! ### the heap's side -/
theorem txr_at {xs : TE3} {ys : TE3v} (r : TXr xs ys) (k : NestedKey) : RelO (atK xs k) ((atKey ys k).map (·.2)) := by
  induction r with
  | nil => exact True.intro
  | cons a _ ih =>
    rename_i p q xs ys _
    obtain ⟨a1, a2, a3⟩ := a
    by_cases z : p.1 = k
    · have e1 : atK (p :: xs) k = some p.2.2 := by simp [atK, List.find?_cons, z]
      have e2 : (atKey (q :: ys) k).map (·.2) = some q.2.2 := by simp [atKey, List.find?_cons, ← a1, z]
      rw [e1, e2]
      exact a3
    · have e1 : atK (p :: xs) k = atK xs k := by simp [atK, List.find?_cons, z]
      have e2 : (atKey (q :: ys) k).map (·.2) = (atKey ys k).map (·.2) := by simp [atKey, List.find?_cons, ← a1, z]
      rw [e1, e2]
      exact ih
theorem txr_map (k : NestedKey) {v : V} {u : Value} (rv : RelV v u) {xs : TE3} {ys : TE3v} (r : TXr xs ys) : TXr (xs.map fun x => if x.1 = k then (x.1, x.2.1, v) else x) (ys.map (putAt k u)) := by
  induction r with
  | nil => exact .nil
  | cons c _ ih =>
    rename_i p q xs ys _
    obtain ⟨a1, a2, a3⟩ := c
    rw [List.map_cons, List.map_cons]
    refine .cons ?_ ih
    show (if p.1 = k then (p.1, p.2.1, v) else p).1 = (putAt k u q).1 ∧ (if p.1 = k then (p.1, p.2.1, v) else p).2.1 = (putAt k u q).2.1 ∧ RelV (if p.1 = k then (p.1, p.2.1, v) else p).2.2 (putAt k u q).2.2
    unfold putAt
    by_cases z : p.1 = k
    · have z2 : q.1 = k := a1 ▸ z
      rw [if_pos z, if_pos z2]
      exact ⟨a1, a2, rv⟩
    · have z2 : ¬ q.1 = k := a1 ▸ z
      rw [if_neg z, if_neg z2]
      exact ⟨a1, a2, a3⟩
theorem txr_snoc {k : NestedKey} {a : Addr} {v : V} {u : Value} (rv : RelV v u) {xs : TE3} {ys : TE3v} (r : TXr xs ys) : TXr (xs ++ [(k, a, v)]) (ys ++ [(k, a, u)]) := by
  induction r with
  | nil => exact .cons ⟨rfl, rfl, rv⟩ .nil
  | cons c _ ih => exact .cons c ih
theorem txr_put {xs : TE3} {ys : TE3v} (r : TXr xs ys) (k : NestedKey) {a : Addr} {v : V} {u : Value} (rv : RelV v u) : TXr (putT xs k a v) (storedH ys k a u) := by
  have q := (txr_at r k).isSome_eq
  rw [Option.isSome_map] at q
  unfold putT storedH
  rw [q]
  split
  · exact txr_map k rv r
  · exact txr_snoc rv r
theorem putT_len (xs : TE3) (k : NestedKey) (a : Addr) (v : V) : (putT xs k a v).length ≤ xs.length + 1 := by
  unfold putT
  split
  · rw [List.length_map]
    omega
  · simp
end Sf

end

section
set_option maxRecDepth 100000
set_option maxHeartbeats 1000000
/-! Sf: what the model does with a dict. -/
namespace Sf
open PySem PySem.Spec PyProof.Rows L2
variable [WorldI]

def DctR (F H : Hp) (a : Addr) (t : Bool) (kvs : List (D × D)) : Prop := match t with
  | false => ∃ es, Rd H a (.dK es) ∧ RK F es kvs
  | true => ∃ xs, Rd H a (DT WorldI.w a xs) ∧ RT F xs kvs
def DctO (F H : Hp) (a : Addr) (t : Bool) (kvs : List (D × D)) : Prop := match t with
  | false => ∃ es, H a = some (.dK es) ∧ RK F es kvs
  | true => ∃ xs, H a = some (DT WorldI.w a xs) ∧ RT F xs kvs
theorem DctO.rd {F H : Hp} {a : Addr} {t : Bool} {kvs : List (D × D)} (h : DctO F H a t kvs) : DctR F H a t kvs := by
  cases t with
  | false => exact let ⟨es, e, r⟩ := h; ⟨es, .inl e, r⟩
  | true => exact let ⟨es, e, r⟩ := h; ⟨es, .inl e, r⟩
theorem line_le {n : Nat} (h : n ≤ lineN) : n ≤ sizeLine := by rw [sizeLine_eq]; exact h
theorem RT.mem {F : Hp} : ∀ {xs : TE3} {kvs : List (D × D)}, RT F xs kvs → ∀ x ∈ xs, ∃ d, kindOk true d = true ∧ x.1 = nk d ∧ RF F (.ref x.2.1) d
  | _, _, .nil, _, h => nomatch h
  | _, _, .cons (d := d) a b c r, x, h => by
    rcases List.mem_cons.mp h with rfl | h
    · exact ⟨d, a, rfl, b⟩
    · exact RT.mem r x h
theorem txr_mem {xs : TE3} {ys : TE3v} (r : TXr xs ys) : ∀ y ∈ ys, ∃ x ∈ xs, x.1 = y.1 ∧ x.2.1 = y.2.1 := by
  induction r with
  | nil => exact fun y h => nomatch h
  | cons a _ ih =>
    intro y h
    rcases List.mem_cons.mp h with rfl | h
    · exact ⟨_, List.mem_cons_self .., a.1, a.2.1⟩
    · obtain ⟨x, h1, h2⟩ := ih y h
      exact ⟨x, List.mem_cons_of_mem _ h1, h2⟩
theorem dtx_ok {P : Program} {w w' : World} {H : Hp} {h : Heap} {a : Addr} {xs : TE3} (x : DTx w a xs h) : ObjOk P w' H h a (DT w a xs) := by
  obtain ⟨y, z, ys, o, es, ep, r, e, c⟩ := id x
  refine ⟨x, ⟨o, e⟩, fun h1 h2 q k => ?_⟩
  obtain ⟨y, z, ys, o, es, ep, r, e, c⟩ := q
  exact ⟨y, z, ys, o, es, ep, r, k _ e, c⟩

section
variable {X : Cx} {pins : List (Addr × Obj)} {σ : L2.St} {F H : Hp} {s : Shared} {A : Around} {E : Value → Shared → Prop} {a : Addr} {t : Bool} {kvs : List (D × D)} {d e : D} {u r : Value} {y v : V}
theorem dt_at (hW : X.w = WorldI.w) (I : Inv X pins σ H s) (l : Le F H) {xs : TE3} (g : Rd H a (DT WorldI.w a xs)) (rt : RT F xs kvs) : (a == sysModules) = false ∧ xs.length ≤ sizeLine ∧ ∃ ys : TE3v, TXr xs ys ∧ s.heap.DictOfH (nestedKind X.prog X.w) a ys := by
  obtain ⟨⟨y, z, ys, o, es, ep, r, e, c1, c2, c3, c4⟩, _, _⟩ := (Rd.ok g I.hok : ObjOk X.prog X.w H s.heap a (DT WorldI.w a xs))
  refine ⟨y, line_le z, ys, r, o, es, ep, e, c1, c2, ?_, fun q hq => ?_, c4⟩
  · rw [c3, hW]
    rfl
  · obtain ⟨x, hx, e1, e2⟩ := txr_mem r q hq
    obtain ⟨dd, n, e3, rr⟩ := rt.mem x hx
    rw [← e1, e3, ← e2]
    exact key_is I.hok n (rr.up l)
theorem room_in (hu : A.units + 16 < cLine) : (nestedKind X.prog X.w).room A.in1 := by
  show A.units + 1 + 8 < cLine
  omega
theorem ref_of_kindT {F : Hp} {y : V} {d : D} (n : kindOk true d = true) (r : RF F y d) : ∃ q, y = .ref q := by
  obtain ⟨xs, rfl, _⟩ := kindT n
  cases r
  exact ⟨_, rfl⟩
theorem dct_in {Q : Value → Shared → Prop} (hW : X.w = WorldI.w) (hu : A.units + 16 < cLine) (I : Inv X pins σ H s) (l : Le F H) (g : DctR F H a t kvs) (n : kindOk t d = true) (ry : RF F y d) (ru : RelV y u) (h : ∀ s', Inv X pins σ H s' → Q (.bool (dget kvs d).isSome) s') :
    wpAny (model X.prog X.w) A (compareOp .In u (.ref a)) Q E s := by
  cases t with
  | false =>
    obtain ⟨es, g, rk⟩ := g
    obtain ⟨k, hk⟩ := kindK n
    have ey := keyD_rf hk ry
    subst ey
    refine d_in (by omega) I (.inl ⟨es, k, g, rfl, rfl⟩) ru fun s' I' => ?_
    rw [(rk.val hk).isSome]
    exact h s' I'
  | true =>
    obtain ⟨xs, g, rt⟩ := g
    obtain ⟨q, rfl⟩ := ref_of_kindT n ry
    cases ru
    obtain ⟨hs, hz, ys, tx, dd⟩ := dt_at hW I l g rt
    refine wpAny_in_heap (room_in hu) (key_is I.hok n (ry.up l)) hs dd ?_
    have e1 := (txr_at tx (nk d)).isSome_eq
    rw [Option.isSome_map] at e1
    rw [← e1, (rt.val n).isSome]
    exact h _ (I.tok _)
theorem dct_notin {Q : Value → Shared → Prop} (hW : X.w = WorldI.w) (hu : A.units + 16 < cLine) (I : Inv X pins σ H s) (l : Le F H) (g : DctR F H a t kvs) (n : kindOk t d = true) (ry : RF F y d) (ru : RelV y u) (h : ∀ s', Inv X pins σ H s' → Q (.bool (!(dget kvs d).isSome)) s') :
    wpAny (model X.prog X.w) A (compareOp .NotIn u (.ref a)) Q E s := by
  cases t with
  | false =>
    obtain ⟨es, g, rk⟩ := g
    obtain ⟨k, hk⟩ := kindK n
    have ey := keyD_rf hk ry
    subst ey
    refine d_notIn (by omega) I (.inl ⟨es, k, g, rfl, rfl⟩) ru fun s' I' => ?_
    rw [(rk.val hk).isSome]
    exact h s' I'
  | true =>
    obtain ⟨xs, g, rt⟩ := g
    obtain ⟨q, rfl⟩ := ref_of_kindT n ry
    cases ru
    obtain ⟨hs, hz, ys, tx, dd⟩ := dt_at hW I l g rt
    refine wpAny_notIn_heap (room_in hu) (key_is I.hok n (ry.up l)) hs dd ?_
    have e1 := (txr_at tx (nk d)).isSome_eq
    rw [Option.isSome_map] at e1
    rw [← e1, (rt.val n).isSome]
    exact h _ (I.tok _)
theorem ro_some {F : Hp} {o : Option V} {e : D} (h : RO F o (some e)) : ∃ v, o = some v ∧ RF F v e := by
  cases o with
  | none => exact h.elim
  | some v => exact ⟨v, rfl, h⟩
theorem ro_none {F : Hp} {o : Option V} (h : RO F o none) : o = none := by
  cases o with
  | none => rfl
  | some v => exact h.elim
theorem relO_some {v : V} {o : Option Value} (h : RelO (some v) o) : ∃ w, o = some w ∧ RelV v w := by
  cases o with
  | none => exact h.elim
  | some w => exact ⟨w, rfl, h⟩
theorem dct_get {Q : Value → Shared → Prop} (hW : X.w = WorldI.w) (hu : A.units + 16 < cLine) (I : Inv X pins σ H s) (l : Le F H) (g : DctR F H a t kvs) (n : kindOk t d = true) (ry : RF F y d) (ru : RelV y u) (hg : dget kvs d = some e) (h : ∀ v w' s', RF F v e → RelV v w' → Inv X pins σ H s' → Q w' s') :
    wpAny (model X.prog X.w) A (getItem (.ref a) u) Q E s := by
  cases t with
  | false =>
    obtain ⟨es, g, rk⟩ := g
    obtain ⟨k, hk⟩ := kindK n
    have ey := keyD_rf hk ry
    subst ey
    have q := rk.val hk
    rw [hg] at q
    obtain ⟨v, e1, rv⟩ := ro_some q
    exact d_getItem (by omega) I (.inl ⟨es, k, g, rfl, e1.symm⟩) ru fun w' s' I' rw' => h v w' s' rv rw' I'
  | true =>
    obtain ⟨xs, g, rt⟩ := g
    obtain ⟨q, rfl⟩ := ref_of_kindT n ry
    cases ru
    obtain ⟨hs, hz, ys, tx, dd⟩ := dt_at hW I l g rt
    have q1 := rt.val n
    rw [hg] at q1
    obtain ⟨v, e1, rv⟩ := ro_some q1
    have q2 := txr_at tx (nk d)
    rw [e1] at q2
    obtain ⟨w', e2, rw'⟩ := relO_some q2
    obtain ⟨p, hp, hp2⟩ := Option.map_eq_some_iff.mp e2
    refine wpAny_getItem_heap (room_in hu) (key_is I.hok n (ry.up l)) dd hp ?_
    rw [hp2]
    exact h v w' _ rv rw' (I.tok _)
theorem dct_mut {F : Hp} (o : DctO F H a t kvs) : Mut (H a) := by
  cases t with
  | false => obtain ⟨es, e, _⟩ := o; rw [e]; exact True.intro
  | true => obtain ⟨es, e, _⟩ := o; rw [e]; exact True.intro
theorem dct_put {Q : Unit → Shared → Prop} (hW : X.w = WorldI.w) (hu : A.units + 16 < cLine) (I : Inv X pins σ H s) (l : Le F H) (g : DctO F H a t kvs) (hl : kvs.length < lineN) (n : kindOk t d = true) (ry : RF F y d) (ru : RelV y u) (rv : RF F v e) (rr : RelV v r)
    (h : ∀ ob s', Mut (some ob) → (∀ F', Le F F' → DctO F' (upd H a ob) a t (dput kvs d e)) → Inv X pins σ (upd H a ob) s' → Q () s') :
    wpAny (model X.prog X.w) A (setItem (.ref a) u r) Q E s := by
  cases t with
  | false =>
    obtain ⟨es, g, rk⟩ := g
    obtain ⟨k, hk⟩ := kindK n
    have ey := keyD_rf hk ry
    subst ey
    refine d_setItem (by omega) I (DPut.k g (v := v) ?_) ru rr fun s' I' => h (.dK (putK es k v)) s' True.intro (fun F' l' => ⟨_, upd_same, (rk.put hk rv).up l'⟩) I'
    rw [rk.len, sizeLine_eq]
    exact hl
  | true =>
    obtain ⟨xs, g, rt⟩ := g
    obtain ⟨q, rfl⟩ := ref_of_kindT n ry
    cases ru
    obtain ⟨hs, hz, ys, tx, dd⟩ := dt_at hW I l (.inl g) rt
    have hz2 : ys.length ≤ sizeLine := by rw [← Paired.length tx]; exact hz
    refine wpAny_setItem_heap (hsz := hz2) (room_in hu) (key_is I.hok n (ry.up l)) dd fun h' dd' hs' => ?_
    have tx2 := txr_put tx (nk d) (a := q) rr
    obtain ⟨o, es, ep, e1, e2, e3, e4, _, e5⟩ := dd'
    have new : DTx WorldI.w a (putT xs (nk d) q v) h' := by
      refine ⟨hs, ?_, _, o, es, ep, tx2, e1, e2, e3, ?_, e5⟩
      · have := putT_len xs (nk d) q v
        have := rt.len
        omega
      · rw [e4, hW]
        rfl
    exact h (DT WorldI.w a (putT xs (nk d) q v)) _ True.intro (fun F' l' => ⟨_, upd_same, (rt.put n ry rv).up l'⟩) (d_write I (by rw [g]; exact True.intro) hs' ⟨o, e1⟩ (dtx_ok new))
theorem dct_len {Q : Value → Shared → Prop} (hW : X.w = WorldI.w) (I : Inv X pins σ H s) (l : Le F H) (g : DctR F H a t kvs) (h : ∀ tk s', Inv X pins σ H s' → Q (.int kvs.length tk) s') : wpAny (model X.prog X.w) A (call (.builtin "len") [.ref a]) Q E s := by
  cases t with
  | false =>
    obtain ⟨es, g, rk⟩ := g
    refine d_len I g fun tk s' I' => ?_
    rw [rk.len]
    exact h tk s' I'
  | true =>
    obtain ⟨xs, g, rt⟩ := g
    obtain ⟨hs, hz, ys, tx, dd⟩ := dt_at hW I l g rt
    have hl : xs.length = ys.length := Paired.length tx
    refine call_len_dictH hs dd (by rw [← hl]; rw [sizeLine_eq] at hz; omega) ?_
    rw [← hl, rt.len]
    exact h _ _ (I.tok _)
theorem dct_type (hW : X.w = WorldI.w) (I : Inv X pins σ H s) (l : Le F H) (g : DctR F H a t kvs) : s.TypeIs (.ref a) "dict" ∧ ∀ b, Value.ref a = .ref b → ∃ ob, s.heap.get? b = some ob ∧ ob.dict = none := by
  cases t with
  | false =>
    obtain ⟨es, g, rk⟩ := g
    obtain ⟨_, _, vs, _, dd⟩ := dk_rd I.hok g
    refine ⟨dd.typeIs, fun b q => ?_⟩
    cases q
    obtain ⟨ob, _, _, h1, h2, _⟩ := dd
    exact ⟨ob, h1, h2.2.1⟩
  | true =>
    obtain ⟨xs, g, rt⟩ := g
    obtain ⟨hs, hz, ys, tx, dd⟩ := dt_at hW I l g rt
    refine ⟨dd.typeIs, fun b q => ?_⟩
    cases q
    obtain ⟨ob, _, _, h1, h2, _⟩ := dd
    exact ⟨ob, h1, h2.2.1⟩
/-- d.get(k, x) -/
theorem dct_get2 {Q : Value → Shared → Prop} (hW : X.w = WorldI.w) (hu : A.units + 16 < cLine) (I : Inv X pins σ H s) (l : Le F H) (g : DctR F H a t kvs) (n : kindOk t d = true) (ry : RF F y d) (ru : RelV y u) (rv : RF F v e) (rr : RelV v r) (h : ∀ v w' s', RF F v ((dget kvs d).getD e) → RelV v w' → Inv X pins σ H s' → Q w' s') :
    wpAny (model X.prog X.w) A (call (.builtin "dict.get") [.ref a, u, r]) Q E s := by
  cases t with
  | false =>
    obtain ⟨es, g, rk⟩ := g
    obtain ⟨k, hk⟩ := kindK n
    have ey := keyD_rf hk ry
    subst ey
    have q := rk.val hk
    refine d_get2 (by omega) I (o := valV es k) (.inl ⟨es, k, g, rfl, rfl⟩) ru rr fun w' s' I' rw' => ?_
    cases z : dget kvs d with
    | none =>
      rw [z] at q h
      rw [ro_none q] at rw'
      exact h v w' s' rv rw' I'
    | some e' =>
      rw [z] at q h
      obtain ⟨v', e1, rv'⟩ := ro_some q
      rw [e1] at rw'
      exact h v' w' s' rv' rw' I'
  | true =>
    obtain ⟨xs, g, rt⟩ := g
    obtain ⟨q, rfl⟩ := ref_of_kindT n ry
    cases ru
    obtain ⟨hs, hz, ys, tx, dd⟩ := dt_at hW I l g rt
    have q1 := rt.val n
    have q2 := txr_at tx (nk d)
    refine getOr_keyed (room_in hu) (key_is I.hok n (ry.up l)) hs ⟨_, dd, rfl⟩ ?_
    rw [valueAt_pairsH]
    cases z : dget kvs d with
    | none =>
      rw [z] at q1 h
      rw [ro_none q1] at q2
      cases z2 : (atKey ys (nk d)).map (·.2) with
      | none => exact h v r _ rv rr (I.tok _)
      | some w' =>
        rw [z2] at q2
        exact q2.elim
    | some e' =>
      rw [z] at q1 h
      obtain ⟨v', e1, rv'⟩ := ro_some q1
      rw [e1] at q2
      obtain ⟨w', e2, rw'⟩ := relO_some q2
      rw [e2]
      exact h v' w' _ rv' rw' (I.tok _)
/-- a new one -/
theorem dct_new (I : Inv X pins σ H s) : DctO F (upd H s.heap.objs.size (if t then DT WorldI.w s.heap.objs.size [] else .dK [])) s.heap.objs.size t [] ∧
    Inv X pins σ (upd H s.heap.objs.size (if t then DT WorldI.w s.heap.objs.size [] else .dK [])) { s with heap := s.heap.push { cls := .type "dict", data := .dict #[] } } := by
  have hb : (s.heap.objs.size == sysModules) = false := beq_eq_false_iff_ne.mpr (Ne.symm (Nat.ne_of_lt I.big))
  cases t with
  | false => exact ⟨⟨_, upd_same, .nil⟩, I.laid (a := s.heap.objs.size) (t' := s.toks) (fun _ _ q => Heap.get?_push_of_some _ q) (Nat.le_refl _) (dk_empty s.heap I.big)⟩
  | true =>
    refine ⟨⟨_, upd_same, .nil⟩, I.laid (a := s.heap.objs.size) (t' := s.toks) (fun _ _ q => Heap.get?_push_of_some _ q) (Nat.le_refl _) (dtx_ok ?_)⟩
    exact ⟨hb, Nat.zero_le _, [], _, #[], 0, .nil, Heap.get?_push_size _ rfl, ⟨rfl, rfl, rfl⟩, rfl, rfl, List.nodup_nil⟩
end
end Sf

end

section
set_option maxRecDepth 100000
set_option maxHeartbeats 1000000
/-! Sf: each operator of the evaluator is the model's. -/
namespace Sf
open PySem PySem.Spec PyProof.Rows L2
variable [WorldI]

def Grow (F H F' H' : Hp) : Prop := Le F F' ∧ Le H H' ∧ Le F' H' ∧ ∀ b, F' b ≠ none → F b ≠ none ∨ H b = none
def Rn (K : PySem.W.Frag) (F' H' H : Hp) (w : W) (v : V) : Prop := RW K F' H' w v ∧ (w.own = true → ∀ a, v = .ref a → H a = none ∧ F' a = none)
/-- whatever comes as r is wanted -/
def K1 (K : PySem.W.Frag) (H : Hp) (Q : VK) (F : Hp) (r : W) : Prop := ∀ F' H' v, Grow F H F' H' → Rn K F' H' H r v → Q v H'

theorem Grow.refl {F H : Hp} (l : Le F H) : Grow F H F H := ⟨Le.refl F, Le.refl H, l, fun _ h => .inl h⟩
theorem none_le {F H : Hp} (l : Le F H) {p : Addr} (h : H p = none) : F p = none := by
  cases e : F p with
  | none => rfl
  | some o =>
    rw [l p o e] at h
    cases h
theorem Grow.newT {F H : Hp} (l : Le F H) {p : Addr} {o : HO} (h : H p = none) : Grow F H (upd F p o) (upd H p o) := by
  refine ⟨Le.new (none_le l h), Le.new h, l.newBoth, fun b q => ?_⟩
  by_cases e : b = p
  · subst e
    exact .inr h
  · rw [upd_ne e] at q
    exact .inl q
theorem Grow.newL {F H : Hp} (l : Le F H) {p : Addr} {o : HO} (h : H p = none) : Grow F H F (upd H p o) :=
  ⟨Le.refl F, Le.new h, l.newR (none_le l h), fun _ q => .inl q⟩

section
variable {K : PySem.W.Frag} {F H : Hp} {Q : VK}
theorem K1.val {d : D} {v : V} (k : K1 K H Q F (.fz d)) (l : Le F H) (r : RF F v d) : Q v H := k F H v (Grow.refl l) ⟨r, fun o => nomatch o⟩
theorem K1.tup {ds : List D} {xs : List V} {p : Addr} (k : K1 K H Q F (.fz (.tuple ds))) (l : Le F H) (hz : ds.length ≤ lineN) (r : RFs F xs ds) (h : H p = none) : Q (.ref p) (upd H p (.tup xs)) :=
  k _ _ _ (Grow.newT l h) ⟨RF.tup upd_same hz (r.up (Le.new (none_le l h))), fun o => nomatch o⟩
theorem K1.lst {ds : List D} {xs : List V} {p : Addr} (k : K1 K H Q F (.ol ds)) (l : Le F H) (hz : ds.length ≤ lineN) (r : RFs F xs ds) (h : H p = none) : Q (.ref p) (upd H p (.lst xs)) :=
  k _ _ _ (Grow.newL l h) ⟨⟨p, xs, rfl, upd_same, hz, r⟩, fun _ a e => by
    cases e
    exact ⟨h, none_le l h⟩⟩
theorem K1.gk {ds : List D} {v : V} (k : K1 K H Q F (.gk ds)) (l : Le F H) (r : RW K F H (.gk ds) v) : Q v H := k F H v (Grow.refl l) ⟨r, fun o => nomatch o⟩
end

/-- what a look at a value tells -/
def LK (F H : Hp) (x : V) (d : D) : Prop := match d with
  | .list ds => ∃ a xs, x = .ref a ∧ H a = some (.lst xs) ∧ ds.length ≤ lineN ∧ RFs F xs ds
  | .tuple ds => ∃ a xs, x = .ref a ∧ H a = some (.tup xs) ∧ F a = some (.tup xs) ∧ ds.length ≤ lineN ∧ RFs F xs ds
  | d => RF F x d
theorem lk_of {K : PySem.W.Frag} {F H : Hp} {w : W} {x : V} {d : D} (l : Le F H) (r : RW K F H w x) (e : w.look = some d) : LK F H x d := by
  cases w with
  | ob _ _ => first | (cases e; done) | (cases e1; done) | (cases e2; done) | (cases e3; done) | (cases h; done) | (cases h1; done) | (cases h2; done) | exact p.elim | exact p2.elim | exact p3.elim | exact p4.elim | (cases o; done) | (cases q; done)
  | fz d0 =>
    cases e
    have r : RF F x d := r
    cases r with
    | lst a z b => exact ⟨_, _, rfl, l _ _ a, z, b⟩
    | tup a z b => exact ⟨_, _, rfl, l _ _ a, a, z, b⟩
    | non => exact .non
    | bl b => exact .bl b
    | int i => exact .int i
    | str s => exact .str s
    | dk a z b => exact .dk a z b
  | ol ds =>
    cases e
    exact r
  | lk ds =>
    cases e
    exact r
  | od _ _ => cases e
  | ft _ => cases e
  | scr _ => cases e
  | gk _ => cases e
theorem LK.dp {K : PySem.W.Frag} {F H : Hp} {x : V} {d : D} (l : Le F H) (n : d.hasDict = false) (h : LK F H x d) : Dp K H x d := by
  cases d with
  | list ds =>
    obtain ⟨a, xs, rfl, e, _, r⟩ := h
    exact .lst (SqL.of e) (RFs.dp _ _ (by simpa [PyData.hasDict] using n) (r.up l))
  | tuple ds =>
    obtain ⟨a, xs, rfl, e, _, _, r⟩ := h
    exact .tup (SqT.of e) (RFs.dp _ _ (by simpa [PyData.hasDict] using n) (r.up l))
  | dict _ => simp [PyData.hasDict] at n
  | none => exact RF.dp _ _ n (RF.up h l)
  | bool _ => exact RF.dp _ _ n (RF.up h l)
  | int _ => exact RF.dp _ _ n (RF.up h l)
  | str _ => exact RF.dp _ _ n (RF.up h l)
theorem shaped_noDict {d : D} (h : SeqAt.shaped d = true) : d.hasDict = false := PySem.PyData.hasDict_of_canLay d (by unfold SeqAt.shaped at h; exact (Bool.and_eq_true_iff.mp h).1)

def rO2 (K : PySem.W.Frag) (o : O2) : R2 := fun x y H Q => ∃ F w u r, Le F H ∧ RW K F H w x ∧ RW K F H u y ∧ op2 o w u = some r ∧ K1 K H Q F r
def rO1 (K : PySem.W.Frag) (o : O1) : List V → Hp → VK → Prop := fun xs H Q => ∃ F w x r, xs = [x] ∧ Le F H ∧ RW K F H w x ∧ op1 o w = some r ∧ K1 K H Q F r

theorem line_eq : sizeLine = lineN := sizeLine_eq

/-- the common way: both are looked at -/
theorem op2_look {o : O2} {w u r : W} (h : op2 o w u = some r) (h1 : o ≠ .idx) (h2 : o ≠ .add) (h3 : o ≠ .mul) (h4 : o ≠ .isin) (h5 : o ≠ .notin) : ∃ d e x, w.look = some d ∧ u.look = some e ∧ op2D o d e = some x ∧ r = .fz x := by
  have k : (w.look.bind fun d => u.look.bind fun e => (op2D o d e).map W.fz) = some r := by
    cases o <;> first | exact h | exact absurd rfl h1 | exact absurd rfl h2 | exact absurd rfl h3 | exact absurd rfl h4 | exact absurd rfl h5
  cases a : w.look with
  | none =>
    rw [a] at k
    cases k
  | some d =>
    cases b : u.look with
    | none =>
      rw [a, b] at k
      cases k
    | some e =>
      rw [a, b] at k
      have k2 : (op2D o d e).map W.fz = some r := k
      cases c : op2D o d e with
      | none =>
        rw [c] at k2
        cases k2
      | some x =>
        rw [c] at k2
        cases k2
        exact ⟨d, e, x, rfl, rfl, c, rfl⟩

section
variable {X : Cx}
theorem o2_add : OpR X (binaryOp .Add) (rO2 X.K .add) := by
  intro pins s σ H x y v u Q I rx ry h
  obtain ⟨F, w, z, r, l, rw1, rw2, e, k⟩ := h
  have e2 : (w.look.bind fun d => z.look.bind fun e => addW d e) = some r := e
  cases a : w.look with
  | none =>
    rw [a] at e2
    cases e2
  | some d =>
    cases b : z.look with
    | none =>
      rw [a, b] at e2
      cases e2
    | some f =>
      rw [a, b] at e2
      have l1 := lk_of l rw1 a
      have l2 := lk_of l rw2 b
      have e3 : addW d f = some r := e2
      cases d with
      | int i =>
        cases f with
        | int j =>
          cases e3
          cases l1
          cases l2
          exact op_add pins s σ H _ _ v u Q I rx ry ⟨i, j, rfl, rfl, k.val l (.int _)⟩
        | _ => cases e3
      | str i =>
        cases f with
        | str j =>
          have e4 : (if i.length + j.length ≤ lineN then some (W.fz (.str (i ++ j))) else none) = some r := e3
          split at e4
          · rename_i hz
            cases e4
            cases l1
            cases l2
            exact op_add_str pins s σ H _ _ v u Q I rx ry ⟨i, j, rfl, rfl, by rw [line_eq]; exact hz, k.val l (.str _)⟩
          · cases e4
        | _ => cases e3
      | tuple xs =>
        cases f with
        | tuple ys =>
          have e4 : (if xs.length + ys.length ≤ lineN then some (W.fz (.tuple (xs ++ ys))) else none) = some r := e3
          split at e4
          · rename_i hz
            cases e4
            obtain ⟨p, ps, rfl, h1, f1, z1, r1⟩ := l1
            obtain ⟨q, qs, rfl, h2, f2, z2, r2⟩ := l2
            refine op_catA pins s σ H _ _ v u Q I rx ry ⟨p, q, ps, qs, rfl, rfl, SqT.of h1, SqT.of h2, by rw [line_eq, r1.len, r2.len]; exact hz, fun z => ?_, fun _ z => ?_, fun _ _ t ht => k.tup l (by rw [List.length_append]; exact hz) (r1.app r2) ht⟩
            · subst z
              cases r1
              exact k.val l (.tup f2 z2 r2)
            · subst z
              cases r2
              rw [List.append_nil] at k
              exact k.val l (.tup f1 z1 r1)
          · cases e4
        | _ => cases e3
      | list xs =>
        cases f with
        | list ys =>
          have e4 : (if xs.length + ys.length ≤ lineN then some (W.ol (xs ++ ys)) else none) = some r := e3
          split at e4
          · rename_i hz
            cases e4
            obtain ⟨p, ps, rfl, h1, z1, r1⟩ := l1
            obtain ⟨q, qs, rfl, h2, z2, r2⟩ := l2
            exact op_cat pins s σ H _ _ v u Q I rx ry ⟨p, q, ps, qs, rfl, rfl, h1, h2, by rw [line_eq, r1.len, r2.len]; exact hz, fun t ht => k.lst l (by rw [List.length_append]; exact hz) (r1.app r2) ht⟩
          · cases e4
        | _ => cases e3
      | none => cases f <;> cases e3
      | bool _ => cases f <;> cases e3
      | dict _ => cases f <;> cases e3
theorem rep_len {α : Type} (xs : List α) (k : Nat) : (List.replicate k xs).flatten.length = k * xs.length := by
  rw [List.length_flatten, List.map_replicate, List.sum_replicate_nat]
theorem mulOk_ok {i j : Int} (h : mulOk i j = true) : IntMulOk i j := by
  by_cases a : i.natAbs < 2 ^ 64
  · exact CMul.ok (.inl ⟨by omega, by omega⟩)
  · by_cases b : j.natAbs < 2 ^ 64
    · exact CMul.ok (.inr ⟨by omega, by omega⟩)
    · unfold mulOk tooWide at h
      rw [decide_eq_true (show 2 ^ 64 ≤ i.natAbs by omega), decide_eq_true (show 2 ^ 64 ≤ j.natAbs by omega)] at h
      simp only [Bool.not_true, Bool.false_or] at h
      have h2 : i.natAbs.log2 + j.natAbs.log2 < 1000000 := of_decide_eq_true h
      exact CMulW.ok h2
theorem o2_mulI : OpR X (binaryOp .Mult) (rI (fun i j => mulOk i j = true) fun i j => .int (i * j)) := opI fun _ _ _ _ _ _ _ hc q => mul_int q (mulOk_ok hc)
theorem o2_mul : OpR X (binaryOp .Mult) (rO2 X.K .mul) := by
  intro pins s σ H x y v u Q I rx ry h
  obtain ⟨F, w, z, r, l, rw1, rw2, e, k⟩ := h
  have e2 : (w.look.bind fun d => z.look.bind fun e => mulW d e) = some r := e
  cases a : w.look with
  | none =>
    rw [a] at e2
    cases e2
  | some d =>
    cases b : z.look with
    | none =>
      rw [a, b] at e2
      cases e2
    | some f =>
      rw [a, b] at e2
      have l1 := lk_of l rw1 a
      have l2 := lk_of l rw2 b
      have e3 : mulW d f = some r := e2
      cases d with
      | int i =>
        cases f with
        | int j =>
          have e4 : (if mulOk i j then some (W.fz (.int (i * j))) else none) = some r := e3
          split at e4
          · rename_i hz
            cases e4
            cases l1
            cases l2
            exact o2_mulI pins s σ H _ _ v u Q I rx ry ⟨i, j, rfl, rfl, hz, k.val l (.int _)⟩
          · cases e4
        | _ => cases e3
      | tuple xs =>
        cases f with
        | int j =>
          have e4 : (if 2 ≤ j ∧ j ≤ 1000 ∧ xs.length ≤ 1000 ∧ xs ≠ [] then some (W.fz (.tuple (List.replicate j.toNat xs).flatten)) else none) = some r := e3
          split at e4
          · rename_i hz
            cases e4
            obtain ⟨p, ps, rfl, h1, f1, z1, r1⟩ := l1
            cases l2
            refine op_repT pins s σ H _ _ v u Q I rx ry ⟨p, j, ps, rfl, rfl, SqT.of h1, fun z => ?_, hz.1, hz.2.1, by rw [r1.len]; exact hz.2.2.1, fun t ht => k.tup l (by rw [rep_len]; exact Nat.le_trans (Nat.mul_le_mul (show j.toNat ≤ 1000 by omega) hz.2.2.1) (by decide)) (r1.rep _) ht⟩
            subst z
            cases r1
            exact hz.2.2.2 rfl
          · cases e4
        | _ => cases e3
      | list xs =>
        cases f with
        | int j =>
          have e4 : (if -(2 ^ 63) ≤ j ∧ j < 2 ^ 63 ∧ xs.length * j.toNat ≤ lineN then some (W.ol (List.replicate j.toNat xs).flatten) else none) = some r := e3
          split at e4
          · rename_i hz
            cases e4
            obtain ⟨p, ps, rfl, h1, z1, r1⟩ := l1
            cases l2
            exact op_rep pins s σ H _ _ v u Q I rx ry ⟨p, j, ps, rfl, rfl, h1, hz.1, hz.2.1, by rw [line_eq, r1.len]; exact hz.2.2, fun t ht => k.lst l (by rw [rep_len, Nat.mul_comm]; exact hz.2.2) (r1.rep _) ht⟩
          · cases e4
        | _ => cases e3
      | none => cases f <;> cases e3
      | bool _ => cases f <;> cases e3
      | dict _ => cases f <;> cases e3
      | str _ => cases f <;> cases e3

/-- an operator on ints alone -/
theorem o2_ints {o : O2} {op : Value → Value → Sem Value} {C : Int → Int → Prop} {g : Int → Int → V} {gd : Int → Int → D} (rule : OpR X op (rI C g)) (h1 : o ≠ .idx) (h2 : o ≠ .add) (h3 : o ≠ .mul) (h4 : o ≠ .isin) (h5 : o ≠ .notin)
    (hd : ∀ d e r, op2D o d e = some r → ∃ i j, d = .int i ∧ e = .int j ∧ C i j ∧ r = gd i j) (hg : ∀ F i j, RF F (g i j) (gd i j)) : OpR X op (rO2 X.K o) := by
  intro pins s σ H x y v u Q I rx ry h
  obtain ⟨F, w, z, r, l, rw1, rw2, e, k⟩ := h
  obtain ⟨d, f, t, a, b, c, rfl⟩ := op2_look e h1 h2 h3 h4 h5
  obtain ⟨i, j, rfl, rfl, hC, rfl⟩ := hd d f t c
  have l1 := lk_of l rw1 a
  have l2 := lk_of l rw2 b
  cases l1
  cases l2
  exact rule pins s σ H _ _ v u Q I rx ry ⟨i, j, rfl, rfl, hC, k.val l (hg F i j)⟩
theorem rI_of0 {f : Value → Value → Sem Value} {g : Int → Int → V} (h : OpR X f (rI0 g)) : OpR X f (rI (fun _ _ => True) g) := by
  intro pins s σ H x y v u Q I rx ry q
  obtain ⟨i, j, e1, e2, _, q⟩ := q
  exact h pins s σ H x y v u Q I rx ry ⟨i, j, e1, e2, q⟩
theorem o2_sub : OpR X (binaryOp .Sub) (rO2 X.K .sub) := o2_ints (gd := fun i j => .int (i - j)) (rI_of0 op_sub) (by decide) (by decide) (by decide) (by decide) (by decide)
  (fun d e r h => by
    cases d <;> cases e <;> cases h
    exact ⟨_, _, rfl, rfl, trivial, rfl⟩) fun _ _ _ => .int _
theorem o2_le : OpR X (compareOp .LtE) (rO2 X.K .le) := o2_ints (gd := fun i j => .bool (decide (i ≤ j))) (rI_of0 op_le) (by decide) (by decide) (by decide) (by decide) (by decide)
  (fun d e r h => by
    cases d <;> cases e <;> cases h
    exact ⟨_, _, rfl, rfl, trivial, rfl⟩) fun _ _ _ => .bl _
theorem o2_gt : OpR X (compareOp .Gt) (rO2 X.K .gt) := o2_ints (gd := fun i j => .bool (decide (j < i))) (rI_of0 op_gt) (by decide) (by decide) (by decide) (by decide) (by decide)
  (fun d e r h => by
    cases d <;> cases e <;> cases h
    exact ⟨_, _, rfl, rfl, trivial, rfl⟩) fun _ _ _ => .bl _
theorem o2_ge : OpR X (compareOp .GtE) (rO2 X.K .ge) := o2_ints (gd := fun i j => .bool (decide (j ≤ i))) (rI_of0 op_ge) (by decide) (by decide) (by decide) (by decide) (by decide)
  (fun d e r h => by
    cases d <;> cases e <;> cases h
    exact ⟨_, _, rfl, rfl, trivial, rfl⟩) fun _ _ _ => .bl _
theorem if_some {c : Prop} [Decidable c] {α : Type} {a r : α} (h : (if c then some a else none) = some r) : c ∧ r = a := by
  split at h
  · rename_i q
    exact ⟨q, (Option.some.inj h).symm⟩
  · cases h
theorem o2_fdiv : OpR X (binaryOp .FloorDiv) (rO2 X.K .fdiv) := o2_ints (gd := fun i j => .int (i / j)) op_fdiv (by decide) (by decide) (by decide) (by decide) (by decide)
  (fun d e r h => by
    cases d with
    | int i =>
      cases e with
      | int j =>
        obtain ⟨q, e⟩ := if_some (show (if 0 < j ∧ j < 1073741824 then some (PyData.int (i / j)) else none) = some r from h)
        exact ⟨i, j, rfl, rfl, q, e⟩
      | _ => cases h
    | _ => cases e <;> cases h) fun _ _ _ => .int _
theorem o2_mod : OpR X (binaryOp .Mod) (rO2 X.K .mod) := o2_ints (gd := fun i j => .int (i % j)) op_mod (by decide) (by decide) (by decide) (by decide) (by decide)
  (fun d e r h => by
    cases d with
    | int i =>
      cases e with
      | int j =>
        obtain ⟨q, e⟩ := if_some (show (if 0 < j then some (PyData.int (i % j)) else none) = some r from h)
        exact ⟨i, j, rfl, rfl, q, e⟩
      | _ => cases h
    | _ => cases e <;> cases h) fun _ _ _ => .int _
theorem o2_pow : OpR X (binaryOp .Pow) (rO2 X.K .pow) := o2_ints (gd := fun i j => .int (i ^ j.toNat)) op_pow (by decide) (by decide) (by decide) (by decide) (by decide)
  (fun d e r h => by
    cases d with
    | int i =>
      cases e with
      | int j =>
        obtain ⟨q, e⟩ := if_some (show (if 0 ≤ j ∧ j ≤ 1000000 ∧ i.natAbs < 2 ^ 64 then some (PyData.int (i ^ j.toNat)) else none) = some r from h)
        exact ⟨i, j, rfl, rfl, q, e⟩
      | _ => cases h
    | _ => cases e <;> cases h) fun _ _ _ => .int _
theorem o2_lt (hu : X.A.units + 64 < cLine) : OpR X (compareOp .Lt) (rO2 X.K .lt) := by
  intro pins s σ H x y v u Q I rx ry h
  obtain ⟨F, w, z, r, l, rw1, rw2, e, k⟩ := h
  obtain ⟨d, f, t, a, b, c, rfl⟩ := op2_look e (by decide) (by decide) (by decide) (by decide) (by decide)
  have l1 := lk_of l rw1 a
  have l2 := lk_of l rw2 b
  cases d with
  | int i =>
    cases f with
    | int j =>
      cases c
      cases l1
      cases l2
      exact rI_of0 op_lt pins s σ H _ _ v u Q I rx ry ⟨i, j, rfl, rfl, trivial, k.val l (.bl _)⟩
    | _ => cases c
  | tuple ds =>
    cases f with
    | tuple es =>
      obtain ⟨q, rfl⟩ := if_some (show (if (SeqAt.shaped (.tuple ds) && SeqAt.shaped (.tuple es)) && PySem.W.alike (.tuple ds) (.tuple es) then some (PyData.bool (PySem.W.dataLt (.tuple ds) (.tuple es))) else none) = some t from c)
      obtain ⟨q, q3⟩ := Bool.and_eq_true_iff.mp q
      obtain ⟨q1, q2⟩ := Bool.and_eq_true_iff.mp q
      obtain ⟨as, r1⟩ := Dp.reads I (.tuple ds) x v (l1.dp l (shaped_noDict q1)) rx
      obtain ⟨bs, r2⟩ := Dp.reads I (.tuple es) y u (l2.dp l (shaped_noDict q2)) ry
      exact PySem.W.rcLt_alike (.tuple ds) (.tuple es) X.A s v u as bs r1 r2 q3 (fun z => by cases z) (SeqAt.room_of_shaped q1 hu) _ _ _ _ ⟨.bl _, H, I, rfl, k.val l (.bl _)⟩
    | _ => cases c
  | _ => cases f <;> cases c
theorem o2_eq (hu : X.A.units + 64 < cLine) : OpR X (compareOp .Eq) (rO2 X.K .eq) := by
  intro pins s σ H x y v u Q I rx ry h
  obtain ⟨F, w, z, r, l, rw1, rw2, e, k⟩ := h
  obtain ⟨d, f, t, a, b, c, rfl⟩ := op2_look e (by decide) (by decide) (by decide) (by decide) (by decide)
  have c2 : (if eqOk d f then some (PyData.bool (PyData.eqv d f)) else none) = some t := by
    cases d <;> cases f <;> exact c
  obtain ⟨q, rfl⟩ := if_some c2
  rcases Bool.or_eq_true_iff.mp q with q | q
  · cases d with
    | str x1 =>
      cases f with
      | str y1 =>
        have l1 := lk_of l rw1 a
        have l2 := lk_of l rw2 b
        cases l1
        cases l2
        refine op_eq pins s σ H _ _ v u Q I rx ry ⟨rfl, ?_⟩
        rw [dec_str]
        exact k.val l (.bl _)
      | _ => cases q
    | _ => cases q
  obtain ⟨q1, q2⟩ := Bool.and_eq_true_iff.mp q
  exact op_eqD hu pins s σ H _ _ v u Q I rx ry ⟨d, f, (lk_of l rw1 a).dp l (shaped_noDict q1), (lk_of l rw2 b).dp l (shaped_noDict q2), q1, q2, k.val l (.bl _)⟩
theorem o2_ne (hu : X.A.units + 64 < cLine) : OpR X (compareOp .NotEq) (rO2 X.K .ne) := by
  intro pins s σ H x y v u Q I rx ry h
  obtain ⟨F, w, z, r, l, rw1, rw2, e, k⟩ := h
  obtain ⟨d, f, t, a, b, c, rfl⟩ := op2_look e (by decide) (by decide) (by decide) (by decide) (by decide)
  have c2 : (if eqOk d f then some (PyData.bool (!PyData.eqv d f)) else none) = some t := by
    cases d <;> cases f <;> exact c
  obtain ⟨q, rfl⟩ := if_some c2
  rcases Bool.or_eq_true_iff.mp q with q | q
  · cases d with
    | str x1 =>
      cases f with
      | str y1 =>
        have l1 := lk_of l rw1 a
        have l2 := lk_of l rw2 b
        cases l1
        cases l2
        refine op_ne pins s σ H _ _ v u Q I rx ry ⟨rfl, ?_⟩
        rw [dec_str]
        exact k.val l (.bl _)
      | _ => cases q
    | _ => cases q
  obtain ⟨q1, q2⟩ := Bool.and_eq_true_iff.mp q
  exact op_neD hu pins s σ H _ _ v u Q I rx ry ⟨d, f, (lk_of l rw1 a).dp l (shaped_noDict q1), (lk_of l rw2 b).dp l (shaped_noDict q2), q1, q2, k.val l (.bl _)⟩
theorem o2_isN : OpR X (compareOp .Is) (rO2 X.K .isN) := by
  intro pins s σ H x y v u Q I rx ry h
  obtain ⟨F, w, z, r, l, rw1, rw2, e, k⟩ := h
  obtain ⟨d, f, t, a, b, c, rfl⟩ := op2_look e (by decide) (by decide) (by decide) (by decide) (by decide)
  have l1 := lk_of l rw1 a
  have l2 := lk_of l rw2 b
  cases f with
  | none =>
    have q : ∀ bb, decide (x = V.non) = bb → t = .bool bb → Q (.bl (decide (x = V.non))) H := fun bb e1 e2 => by
      rw [e1]
      subst e2
      exact k.val l (.bl _)
    refine op_isN pins s σ H _ _ v u Q I rx ry ⟨by cases l2; rfl, ?_⟩
    cases d with
    | none =>
      cases l1
      cases c
      exact q true rfl rfl
    | list ds =>
      obtain ⟨_, _, rfl, _⟩ := l1
      cases c
      exact q false rfl rfl
    | tuple ds =>
      obtain ⟨_, _, rfl, _⟩ := l1
      cases c
      exact q false rfl rfl
    | bool _ =>
      cases l1
      cases c
      exact q false rfl rfl
    | int _ =>
      cases l1
      cases c
      exact q false rfl rfl
    | str _ =>
      cases l1
      cases c
      exact q false rfl rfl
    | dict _ =>
      cases l1 <;>
      · cases c
        exact q false rfl rfl
  | _ => cases d <;> cases c
theorem o2_notN : OpR X (compareOp .IsNot) (rO2 X.K .notN) := by
  intro pins s σ H x y v u Q I rx ry h
  obtain ⟨F, w, z, r, l, rw1, rw2, e, k⟩ := h
  obtain ⟨d, f, t, a, b, c, rfl⟩ := op2_look e (by decide) (by decide) (by decide) (by decide) (by decide)
  have l1 := lk_of l rw1 a
  have l2 := lk_of l rw2 b
  cases f with
  | none =>
    have q : ∀ bb, (!decide (x = V.non)) = bb → t = .bool bb → Q (.bl (!decide (x = V.non))) H := fun bb e1 e2 => by
      rw [e1]
      subst e2
      exact k.val l (.bl _)
    refine op_notN pins s σ H _ _ v u Q I rx ry ⟨by cases l2; rfl, ?_⟩
    cases d with
    | none =>
      cases l1
      cases c
      exact q false rfl rfl
    | list ds =>
      obtain ⟨_, _, rfl, _⟩ := l1
      cases c
      exact q true rfl rfl
    | tuple ds =>
      obtain ⟨_, _, rfl, _⟩ := l1
      cases c
      exact q true rfl rfl
    | bool _ =>
      cases l1
      cases c
      exact q true rfl rfl
    | int _ =>
      cases l1
      cases c
      exact q true rfl rfl
    | str _ =>
      cases l1
      cases c
      exact q true rfl rfl
    | dict _ =>
      cases l1 <;>
      · cases c
        exact q true rfl rfl
  | _ => cases d <;> cases c
theorem o2_isB : OpR X (compareOp .Is) (rO2 X.K .isB) := by
  intro pins s σ H x y v u Q I rx ry h
  obtain ⟨F, w, z, r, l, rw1, rw2, e, k⟩ := h
  obtain ⟨d, f, t, a, b, c, rfl⟩ := op2_look e (by decide) (by decide) (by decide) (by decide) (by decide)
  have l1 := lk_of l rw1 a
  have l2 := lk_of l rw2 b
  cases d with
  | bool i =>
    cases f with
    | bool j =>
      cases c
      cases l1
      cases l2
      exact op_is_bl pins s σ H _ _ v u Q I rx ry ⟨i, j, rfl, rfl, k.val l (.bl _)⟩
    | _ => cases c
  | _ => cases f <;> cases c
theorem o2_notB : OpR X (compareOp .IsNot) (rO2 X.K .notB) := by
  intro pins s σ H x y v u Q I rx ry h
  obtain ⟨F, w, z, r, l, rw1, rw2, e, k⟩ := h
  obtain ⟨d, f, t, a, b, c, rfl⟩ := op2_look e (by decide) (by decide) (by decide) (by decide) (by decide)
  have l1 := lk_of l rw1 a
  have l2 := lk_of l rw2 b
  cases d with
  | bool i =>
    cases f with
    | bool j =>
      cases c
      cases l1
      cases l2
      exact op_isnot_bl pins s σ H _ _ v u Q I rx ry ⟨i, j, rfl, rfl, k.val l (.bl _)⟩
    | _ => cases c
  | _ => cases f <;> cases c

/-! ### in -/
theorem flat_V {F : Hp} {v : V} {d : D} (r : RF F v d) (h : flatD d = true) : flatV v = true := by
  cases r <;> first | rfl | cases h
theorem flat_Vs {F : Hp} : ∀ {vs : List V} {ds : List D}, RFs F vs ds → ds.all flatD = true → vs.all flatV = true
  | _, _, .nil, _ => rfl
  | _, _, .cons a h, e => by
    obtain ⟨e1, e2⟩ := Bool.and_eq_true_iff.mp (show (flatD _ && List.all _ flatD) = true from e)
    show (flatV _ && List.all _ flatV) = true
    rw [flat_V a e1, flat_Vs h e2]
    rfl
theorem eqv_V {F : Hp} {v u : V} {d e : D} (r : RF F v d) (r2 : RF F u e) (h : flatD d = true) (h2 : flatD e = true) : eqV v u = PyData.eqv d e := by
  cases r with
  | lst _ _ => cases h
  | tup _ _ => cases h
  | dk _ _ _ => cases h
  | non => cases r2 <;> first | (cases h2; done) | simp [eqV, PyData.eqv]
  | bl b => cases r2 <;> first | (cases h2; done) | simp [eqV, PyData.eqv]
  | int b => cases r2 <;> first | (cases h2; done) | simp [eqV, PyData.eqv]
  | str b => cases r2 <;> first | (cases h2; done) | simp [eqV, PyData.eqv]
theorem in_V {F : Hp} {x : V} {d : D} (r : RF F x d) (h : flatD d = true) : ∀ {vs : List V} {ds : List D}, RFs F vs ds → ds.all flatD = true → inV x vs = ds.any fun y => PyData.eqv y d
  | _, _, .nil, _ => rfl
  | _, _, .cons a t, e => by
    obtain ⟨e1, e2⟩ := Bool.and_eq_true_iff.mp (show (flatD _ && List.all _ flatD) = true from e)
    show (eqV _ x || inV x _) = (PyData.eqv _ d || List.any _ _)
    rw [eqv_V a r e1 h, in_V r h t e2]
theorem lk_flat {F H : Hp} {x : V} {d : D} (h : LK F H x d) (f : flatD d = true) : RF F x d := by
  cases d with
  | list _ => cases f
  | tuple _ => cases f
  | dict _ => cases f
  | _ => exact h
theorem sqT_le {K : PySem.W.Frag} {F H : Hp} {a : Addr} {xs : List V} (l : Le F H) (q : SqT K F a xs) : SqT K H a xs := by
  rcases q with (q | ⟨u, q⟩) | q
  · exact .inl (.inl (l _ _ q))
  · exact .inl (.inr ⟨u, l _ _ q⟩)
  · exact .inr q
theorem sqL_le {K : PySem.W.Frag} {F H : Hp} {a : Addr} {xs : List V} (l : Le F H) (q : SqL K F a xs) : SqL K H a xs := by
  rcases q with (q | ⟨u, q⟩) | q
  · exact .inl (.inl (l _ _ q))
  · exact .inl (.inr ⟨u, l _ _ q⟩)
  · exact .inr q
theorem within_of {K : PySem.W.Frag} {F H : Hp} {w : W} {x : V} {ds : List D} (l : Le F H) (r : RW K F H w x) (e : w.within? = some ds) : ∃ a xs, x = .ref a ∧ (SqL K H a xs ∨ SqT K H a xs) ∧ RFs F xs ds := by
  cases w with
  | ob _ _ => first | (cases e; done) | (cases e1; done) | (cases e2; done) | (cases e3; done) | (cases h; done) | (cases h1; done) | (cases h2; done) | exact p.elim | exact p2.elim | exact p3.elim | exact p4.elim | (cases o; done) | (cases q; done)
  | fz d =>
    cases d with
    | list zs =>
      cases e
      cases r with
      | lst a _ b => exact ⟨_, _, rfl, .inl (SqL.of (l _ _ a)), b⟩
    | tuple zs =>
      cases e
      cases r with
      | tup a _ b => exact ⟨_, _, rfl, .inr (SqT.of (l _ _ a)), b⟩
    | _ => cases e
  | ol zs =>
    cases e
    obtain ⟨a, xs, rfl, h, _, q⟩ := r
    exact ⟨a, xs, rfl, .inl (SqL.of h), q⟩
  | lk zs =>
    cases e
    obtain ⟨a, xs, rfl, h, _, q⟩ := r
    exact ⟨a, xs, rfl, .inl (SqL.of h), q⟩
  | gk zs =>
    cases e
    obtain ⟨a, xs, rfl, h, q⟩ := r
    exact ⟨a, xs, rfl, .inr (sqT_le l h), q⟩
  | od _ _ => cases e
  | ft _ => cases e
  | scr _ => cases e
theorem lk_key {F H : Hp} {x : V} {t : Bool} {d : D} (h : LK F H x d) (n : kindOk t d = true) : RF F x d := by
  cases d with
  | tuple ds =>
    obtain ⟨a, xs, rfl, _, e, z, r⟩ := h
    exact .tup e z r
  | list _ => cases t <;> cases n
  | _ => exact h
theorem dct_of {K : PySem.W.Frag} {F H : Hp} {w : W} {x : V} {d : D} {kvs : List (D × D)} (l : Le F H) (r : RW K F H w x) (e : w.dct? d = some kvs) : ∃ a t, x = .ref a ∧ DctR F H a t kvs ∧ kindOk t d = true := by
  cases w with
  | od t es =>
    have e2 : (if kindOk t d then some es else none) = some kvs := e
    split at e2
    · rename_i n
      cases e2
      obtain ⟨a, rfl, _, q⟩ := r
      refine ⟨a, t, rfl, ?_, n⟩
      cases t with
      | false => exact let ⟨es, e1, e2⟩ := q; ⟨es, .inl e1, e2⟩
      | true => exact let ⟨es, e1, e2⟩ := q; ⟨es, .inl e1, e2⟩
    · cases e2
  | fz f =>
    cases f with
    | dict es =>
      have e2 : (if kindOk false d then some es else none) = some kvs := e
      split at e2
      · rename_i n
        cases e2
        have r : RF F x (.dict kvs) := r
        cases r with
        | dk ha z b => exact ⟨_, false, rfl, ⟨_, .inr ⟨_, l _ _ ha⟩, b⟩, n⟩
      · cases e2
    | _ => cases e
  | ft es =>
    have e2 : (if kindOk true d then some es else none) = some kvs := e
    split at e2
    · rename_i n
      cases e2
      obtain ⟨a, o, xs, rfl, q, _, b⟩ := r
      exact ⟨a, true, rfl, ⟨_, .inr ⟨_, l _ _ q⟩, b⟩, n⟩
    · cases e2
  | _ => cases e
theorem o2_inW (hW : X.w = WorldI.w) (hu : X.A.units + 16 < cLine) {neg : Bool} {o : O2} {op : CmpOp} (rule : OpR X (compareOp op) (rIn X.K neg))
    (rule3 : OpR X (compareOp op) fun x y H Q => ∃ d ds, Dp X.K H x d ∧ Dp X.K H y (.list ds) ∧ SeqAt.shaped d = true ∧ SeqAt.shaped (.list ds) = true ∧ Q (.bl (if neg then !(ds.any fun z => PyData.eqv z d) else ds.any fun z => PyData.eqv z d)) H)
    (rule2 : ∀ {pins : List (Addr × Obj)} {σ : L2.St} {F H : Hp} {s : Shared} {a : Addr} {t : Bool} {kvs : List (D × D)} {d : D} {u : Value} {y : V} {Q : Value → Shared → Prop}, Inv X pins σ H s → Le F H → DctR F H a t kvs → kindOk t d = true → RF F y d → RelV y u → (∀ s', Inv X pins σ H s' → Q (.bool (if neg then !(dget kvs d).isSome else (dget kvs d).isSome)) s') → wpAny (model X.prog X.w) X.A (compareOp op u (.ref a)) Q X.xe s)
    (ho : ∀ w u, op2 o w u = w.look.bind fun d => match u.dct? d with
      | some kvs => some (.fz (.bool (if neg then !(dget kvs d).isSome else (dget kvs d).isSome)))
      | none => u.within?.bind fun ys => inW neg u.isL d ys) : OpR X (compareOp op) (rO2 X.K o) := by
  intro pins s σ H x y v u Q I rx ry h
  obtain ⟨F, w, z, r, l, rw1, rw2, e, k⟩ := h
  rw [ho] at e
  cases a : w.look with
  | none =>
    rw [a] at e
    cases e
  | some d =>
    rw [a] at e
    have l0 := lk_of l rw1 a
    cases q : z.dct? d with
    | some kvs =>
      have e2 : (match z.dct? d with
        | some kvs => some (W.fz (.bool (if neg then !(dget kvs d).isSome else (dget kvs d).isSome)))
        | none => z.within?.bind fun ys => inW neg z.isL d ys) = some r := e
      rw [q] at e2
      cases e2
      obtain ⟨ad, t, rfl, g, n⟩ := dct_of l rw2 q
      cases ry
      exact rule2 I l g n (lk_key l0 n) rx fun s' I' => ⟨.bl (if neg then !(dget kvs d).isSome else (dget kvs d).isSome), H, I', rfl, k.val l (.bl _)⟩
    | none =>
      have e2 : (match z.dct? d with
        | some kvs => some (W.fz (.bool (if neg then !(dget kvs d).isSome else (dget kvs d).isSome)))
        | none => z.within?.bind fun ys => inW neg z.isL d ys) = some r := e
      rw [q] at e2
      cases b : z.within? with
      | none =>
        rw [b] at e2
        cases e2
      | some ys =>
        rw [b] at e2
        have e3 : inW neg z.isL d ys = some r := e2
        obtain ⟨q, rfl⟩ := if_some e3
        rcases Bool.or_eq_true_iff.mp q with q | q
        · obtain ⟨q1, q2⟩ := Bool.and_eq_true_iff.mp q
          have l1 := lk_flat l0 q1
          obtain ⟨p, ps, rfl, hp, r2⟩ := within_of l rw2 b
          refine rule pins s σ H _ _ v u Q I rx ry ⟨p, ps, rfl, hp, flat_V l1 q1, flat_Vs r2 q2, ?_⟩
          rw [in_V l1 q1 r2 q2]
          exact k.val l (.bl _)
        · obtain ⟨q0, q3⟩ := Bool.and_eq_true_iff.mp q
          obtain ⟨q1, q2⟩ := Bool.and_eq_true_iff.mp q0
          have lz : z.look = some (.list ys) := by
            cases z with
            | fz f => cases f <;> first | (cases b; rfl) | cases q1
            | ol _ => cases b; rfl
            | lk _ => cases b; rfl
            | _ => cases q1
          refine rule3 pins s σ H _ _ v u Q I rx ry ⟨d, ys, l0.dp l (shaped_noDict q2), (lk_of l rw2 lz).dp l (shaped_noDict q3), q2, q3, ?_⟩
          have := k.val l (.bl (if neg then !(ys.any fun y => PyData.eqv y d) else ys.any fun y => PyData.eqv y d))
          exact this
theorem o2_in (hW : X.w = WorldI.w) (hu0 : X.A.units + 66 < cLine) : OpR X (compareOp .In) (rO2 X.K .isin) :=
  have hu : X.A.units + 16 < cLine := by omega
  o2_inW hW hu op_in_seq (op_inD (by omega)) (fun I l g n ry ru h => dct_in hW hu I l g n ry ru fun s' I' => by simpa using h s' I') fun _ _ => rfl
theorem o2_notin (hW : X.w = WorldI.w) (hu0 : X.A.units + 66 < cLine) : OpR X (compareOp .NotIn) (rO2 X.K .notin) :=
  have hu : X.A.units + 16 < cLine := by omega
  o2_inW hW hu op_notIn_seq (op_notInD (by omega)) (fun I l g n ry ru h => dct_notin hW hu I l g n ry ru fun s' I' => by simpa using h s' I') fun _ _ => rfl

/-! ### an item -/
theorem atD_I {α β : Type} {xs : List α} {ys : List β} (hl : xs.length = ys.length) {i : Int} {d : β} (h : atD ys i = some d) : ∃ j : Nat, ys[j]? = some d ∧ ∀ v, xs[j]? = some v → atI xs i = some v := by
  unfold atD at h
  unfold atI ixN
  by_cases h0 : 0 ≤ i
  · rw [if_pos h0] at h
    refine ⟨i.toNat, h, fun v hv => ?_⟩
    have hb := (List.getElem?_eq_some_iff.mp hv).1
    rw [if_pos h0, if_pos (by omega)]
    exact hv
  · rw [if_neg h0] at h
    split at h
    · rename_i h1
      refine ⟨(i + ys.length).toNat, h, fun v hv => ?_⟩
      rw [if_neg h0, if_pos (by rw [hl]; exact h1), hl]
      exact hv
    · cases h
theorem RFs.atI {F : Hp} {xs : List V} {ds : List D} {i : Int} {d : D} (r : RFs F xs ds) (h : atD ds i = some d) : ∃ v, atI xs i = some v ∧ RF F v d := by
  obtain ⟨j, h1, h2⟩ := atD_I r.len h
  obtain ⟨v, h3, h4⟩ := r.get h1
  exact ⟨v, h2 v h3, h4⟩
theorem int_of {K : PySem.W.Frag} {F H : Hp} {w : W} {x : V} {i : Int} (r : RW K F H w x) (e : w.int? = some i) : x = .int i := by
  cases w with
  | fz d =>
    cases d with
    | int j =>
      cases e
      cases r
      rfl
    | _ => cases e
  | _ => cases e
theorem map_fz {o : Option D} {r : W} (h : o.map W.fz = some r) : ∃ d, o = some d ∧ r = .fz d := by
  cases o with
  | none => cases h
  | some d =>
    cases h
    exact ⟨d, rfl, rfl⟩
def rIxD : R2 := fun x y H Q => ∃ F a t kvs d e, Le F H ∧ x = .ref a ∧ DctR F H a t kvs ∧ kindOk t d = true ∧ RF F y d ∧ dget kvs d = some e ∧ ∀ v, RF F v e → Q v H
theorem ix_dict (hW : X.w = WorldI.w) (hu : X.A.units + 16 < cLine) : IxR X rIxD := by
  intro value slice pins s σ H x y v u Q I rx ry h hs
  obtain ⟨F, a, t, kvs, d, e, l, rfl, g, n, rd, hg, k⟩ := h
  cases rx
  have hT := (dct_type hW I l g).1
  have h2 : wpAny (model X.prog X.w) X.A (getItem (.ref a) u) (EP X pins σ Q) X.xe s := dct_get hW hu I l g n rd ry hg fun v w' s' rv rw' I' => ⟨v, H, I', rw', k v rv⟩
  unfold subscriptTail
  refine wpAny_bind ?_
  rw [getitemInPython_of_ne hT.not_modules]
  refine wpAny_bind (wpAny_specialOf hT PySem.F.slot_dict_getitem.lookup ?_)
  have fin : wpAny (model X.prog X.w) X.A (subscripted slice false (.ref a) u) (fun r s₃ => wpAny (model X.prog X.w) X.A (letTemporaryGo value (.ref a) r >>= fun _ => pure r) (EP X pins σ Q) X.xe s₃) X.xe s := by
    rw [hs]
    exact wpAny_operating (wpAny_mono h2 (fun r s₃ h₃ => wpAny_bind (wpAny_letTemporaryGo (wpAny_pure h₃))) fun _ _ x => x)
  first
    | exact wpAny_pure (wpAny_bind fin)
    | exact wpAny_bind (wpAny_pure (wpAny_bind fin))
    | exact wpAny_bind fin
theorem idx_dct {w z r : W} (e : op2 .idx w z = some r) (hd : ∀ d, w.dct? d = none) : (z.int?.bind fun i => idxW w i) = some r := by
  cases w with
  | od t kvs =>
    have q : (z.look.bind fun d => if kindOk t d then (dget kvs d).map W.fz else none) = some r := e
    cases a : z.look with
    | none =>
      rw [a] at q
      cases q
    | some d =>
      rw [a] at q
      have q2 : (if kindOk t d then (dget kvs d).map W.fz else none) = some r := q
      have := hd d
      unfold W.dct? at this
      split at q2
      · rename_i n
        simp [n] at this
      · cases q2
  | fz f =>
    cases f with
    | dict kvs =>
      have q : (z.look.bind fun d => if kindOk false d then (dget kvs d).map W.fz else none) = some r := e
      cases a : z.look with
      | none =>
        rw [a] at q
        cases q
      | some d =>
        rw [a] at q
        have q2 : (if kindOk false d then (dget kvs d).map W.fz else none) = some r := q
        have := hd d
        unfold W.dct? at this
        split at q2
        · rename_i n
          simp [n] at this
        · cases q2
    | _ => exact e
  | ft kvs =>
    have q : (z.look.bind fun d => if kindOk true d then (dget kvs d).map W.fz else none) = some r := e
    cases a : z.look with
    | none =>
      rw [a] at q
      cases q
    | some d =>
      rw [a] at q
      have q2 : (if kindOk true d then (dget kvs d).map W.fz else none) = some r := q
      have := hd d
      unfold W.dct? at this
      split at q2
      · rename_i n
        simp [n] at this
      · cases q2
  | _ => exact e
theorem idx_dct2 {w z r : W} (e : op2 .idx w z = some r) (hd : ∃ d kvs, w.dct? d = some kvs) : ∃ d kvs e', z.look = some d ∧ w.dct? d = some kvs ∧ dget kvs d = some e' ∧ r = .fz e' := by
  obtain ⟨d0, kvs0, hd⟩ := hd
  cases w with
  | od t kvs =>
    have q : (z.look.bind fun d => if kindOk t d then (dget kvs d).map W.fz else none) = some r := e
    cases a : z.look with
    | none =>
      rw [a] at q
      cases q
    | some d =>
      rw [a] at q
      have q2 : (if kindOk t d then (dget kvs d).map W.fz else none) = some r := q
      split at q2
      · rename_i n
        obtain ⟨e', h1, h2⟩ := map_fz q2
        exact ⟨d, kvs, e', rfl, if_pos n, h1, h2⟩
      · cases q2
  | fz f =>
    cases f with
    | dict kvs =>
      have q : (z.look.bind fun d => if kindOk false d then (dget kvs d).map W.fz else none) = some r := e
      cases a : z.look with
      | none =>
        rw [a] at q
        cases q
      | some d =>
        rw [a] at q
        have q2 : (if kindOk false d then (dget kvs d).map W.fz else none) = some r := q
        split at q2
        · rename_i n
          obtain ⟨e', h1, h2⟩ := map_fz q2
          exact ⟨d, kvs, e', rfl, if_pos n, h1, h2⟩
        · cases q2
    | _ => cases hd
  | ft kvs =>
    have q : (z.look.bind fun d => if kindOk true d then (dget kvs d).map W.fz else none) = some r := e
    cases a : z.look with
    | none =>
      rw [a] at q
      cases q
    | some d =>
      rw [a] at q
      have q2 : (if kindOk true d then (dget kvs d).map W.fz else none) = some r := q
      split at q2
      · rename_i n
        obtain ⟨e', h1, h2⟩ := map_fz q2
        exact ⟨d, kvs, e', rfl, if_pos n, h1, h2⟩
      · cases q2
  | _ => cases hd
theorem o2_idx (hW : X.w = WorldI.w) (hu : X.A.units + 16 < cLine) : IxR X (rO2 X.K .idx) := by
  have rule : IxR X (fun x y H Q => rIxD x y H Q ∨ (rIxL X.K x y H Q ∨ rIxT X.K x y H Q)) := (ix_dict hW hu).or (ix_list.or ix_tup)
  intro value slice pins s σ H x y v u Q I rx ry h hs
  refine rule value slice pins s σ H x y v u Q I rx ry ?_ hs
  obtain ⟨F, w, z, r, l, rw1, rw2, e, k⟩ := h
  by_cases hd : ∃ d kvs, w.dct? d = some kvs
  · obtain ⟨d, kvs, e', h1, h2, h3, rfl⟩ := idx_dct2 e hd
    obtain ⟨a, t, rfl, g, n⟩ := dct_of l rw1 h2
    exact .inl ⟨F, a, t, kvs, d, e', l, rfl, g, n, lk_key (lk_of l rw2 h1) n, h3, fun v rv => k.val l rv⟩
  refine .inr ?_
  have e2 : (z.int?.bind fun i => idxW w i) = some r := idx_dct e fun d => by
    cases q : w.dct? d with
    | none => rfl
    | some kvs => exact absurd ⟨d, kvs, q⟩ hd
  cases b : z.int? with
  | none =>
    rw [b] at e2
    cases e2
  | some i =>
    rw [b] at e2
    have e3 : idxW w i = some r := e2
    have ey := int_of rw2 b
    subst ey
    cases w with
    | ob _ _ => first | (cases e; done) | (cases e1; done) | (cases e2; done) | (cases e3; done) | (cases h; done) | (cases h1; done) | (cases h2; done) | exact p.elim | exact p2.elim | exact p3.elim | exact p4.elim | (cases o; done) | (cases q; done)
    | fz d =>
      cases d with
      | tuple ds =>
        obtain ⟨d, h1, rfl⟩ := map_fz e3
        cases rw1 with
        | tup a _ q =>
          obtain ⟨vv, h2, h3⟩ := q.atI h1
          exact .inr ⟨_, _, i, vv, rfl, rfl, SqT.of (l _ _ a), h2, k.val l h3⟩
      | list ds =>
        obtain ⟨d, h1, rfl⟩ := map_fz e3
        cases rw1 with
        | lst a _ q =>
          obtain ⟨vv, h2, h3⟩ := q.atI h1
          exact .inl ⟨_, _, i, vv, rfl, rfl, SqL.of (l _ _ a), h2, k.val l h3⟩
      | _ => cases e3
    | ol ds =>
      obtain ⟨d, h1, rfl⟩ := map_fz e3
      obtain ⟨a, xs, rfl, h, _, q⟩ := rw1
      obtain ⟨vv, h2, h3⟩ := q.atI h1
      exact .inl ⟨_, _, i, vv, rfl, rfl, SqL.of h, h2, k.val l h3⟩
    | lk ds =>
      obtain ⟨d, h1, rfl⟩ := map_fz e3
      obtain ⟨a, xs, rfl, h, _, q⟩ := rw1
      obtain ⟨vv, h2, h3⟩ := q.atI h1
      exact .inl ⟨_, _, i, vv, rfl, rfl, SqL.of h, h2, k.val l h3⟩
    | scr ns =>
      have e4 : ((atD ns i).map fun n => W.fz (.int n)) = some r := e3
      obtain ⟨a, rfl, q⟩ := rw1
      cases c : atD ns i with
      | none =>
        rw [c] at e4
        cases e4
      | some n =>
        rw [c] at e4
        cases e4
        obtain ⟨j, h1, h2⟩ := atD_I (xs := ns.map V.int) (ys := ns) (by rw [List.length_map]) c
        exact .inl ⟨a, _, i, .int n, rfl, rfl, sqL_le l q, h2 _ (by rw [List.getElem?_map, h1]; rfl), k.val l (.int n)⟩
    | od _ _ => cases e3
    | ft _ => cases e3
    | gk _ => cases e3

/-! ### calls of built-ins -/
/-- two ints -/
theorem o2_callI {o : O2} {f : Value} {g : Int → Int → Int} (rule : CallR X f (fun xs H Q => ∃ i j, xs = [.int i, .int j] ∧ Q (.int (g i j)) H)) (h1 : o ≠ .idx) (h2 : o ≠ .add) (h3 : o ≠ .mul) (h4 : o ≠ .isin) (h5 : o ≠ .notin)
    (hd : ∀ d e r, op2D o d e = some r → ∃ i j, d = .int i ∧ e = .int j ∧ r = .int (g i j)) : CallR X f (fun xs H Q => ∃ x y, xs = [x, y] ∧ rO2 X.K o x y H Q) := by
  intro pins s σ H xs us Q I rx h
  obtain ⟨x, y, rfl, F, w, z, r, l, rw1, rw2, e, k⟩ := h
  obtain ⟨d, f, t, a, b, c, rfl⟩ := op2_look e h1 h2 h3 h4 h5
  obtain ⟨i, j, rfl, rfl, rfl⟩ := hd d f t c
  have l1 := lk_of l rw1 a
  have l2 := lk_of l rw2 b
  cases l1
  cases l2
  exact rule pins s σ H _ us Q I rx ⟨i, j, rfl, k.val l (.int _)⟩
theorem o2_max2 (hc : X.calm = true) : CallR X (.builtin "max") (fun xs H Q => ∃ x y, xs = [x, y] ∧ rO2 X.K .max2 x y H Q) :=
  o2_callI (call_max2 hc) (by decide) (by decide) (by decide) (by decide) (by decide) fun d e r h => by
    cases d <;> cases e <;> cases h
    exact ⟨_, _, rfl, rfl, rfl⟩
end
end Sf

end

section
set_option maxRecDepth 100000
set_option maxHeartbeats 1000000
/-! Sf: built-in functions of one argument. -/
namespace Sf
open PySem PySem.Spec PyProof.Rows L2
variable [WorldI]

theorem bind_some' {α β : Type} {o : Option α} {f : α → Option β} {r : β} (h : o.bind f = some r) : ∃ a, o = some a ∧ f a = some r := by
  cases o with
  | none => cases h
  | some a => exact ⟨a, rfl, h⟩
theorem map_some' {α β : Type} {o : Option α} {f : α → β} {r : β} (h : o.map f = some r) : ∃ a, o = some a ∧ r = f a := by
  cases o with
  | none => cases h
  | some a => exact ⟨a, rfl, (Option.some.inj h).symm⟩

theorem lst_of {K : PySem.W.Frag} {F H : Hp} {w : W} {x : V} {ds : List D} (l : Le F H) (r : RW K F H w x) (e : w.lst? = some ds) : ∃ a xs, x = .ref a ∧ H a = some (.lst xs) ∧ ds.length ≤ lineN ∧ RFs F xs ds := by
  cases w with
  | ob _ _ => first | (cases e; done) | (cases e1; done) | (cases e2; done) | (cases e3; done) | (cases h; done) | (cases h1; done) | (cases h2; done) | exact p.elim | exact p2.elim | exact p3.elim | exact p4.elim | (cases o; done) | (cases q; done)
  | fz d =>
    cases d with
    | list zs =>
      cases e
      cases r with
      | lst a z b => exact ⟨_, _, rfl, l _ _ a, z, b⟩
    | _ => cases e
  | ol zs =>
    cases e
    exact r
  | lk zs =>
    cases e
    exact r
  | od _ _ => cases e
  | ft _ => cases e
  | gk _ => cases e
  | scr _ => cases e

/-! ### least, greatest, sorted -/
theorem minL_spec : ∀ {ns : List Int} {m : Int}, minL ns = some m → m ∈ ns ∧ ∀ y ∈ ns, m ≤ y
  | [], _, h => nomatch h
  | [x], m, h => by
    cases h
    exact ⟨by simp, fun y hy => by simp at hy; omega⟩
  | x :: y :: r, m, h => by
    obtain ⟨k, h1, h2⟩ := map_some' (show (minL (y :: r)).map (fun m => if x ≤ m then x else m) = some m from h)
    obtain ⟨i1, i2⟩ := minL_spec h1
    subst h2
    split
    · rename_i q
      refine ⟨by simp, fun z hz => ?_⟩
      rcases List.mem_cons.mp hz with e | hz
      · omega
      · have := i2 z hz
        omega
    · rename_i q
      refine ⟨List.mem_cons_of_mem _ i1, fun z hz => ?_⟩
      rcases List.mem_cons.mp hz with e | hz
      · omega
      · exact i2 z hz
theorem maxL_spec : ∀ {ns : List Int} {m : Int}, maxL ns = some m → m ∈ ns ∧ ∀ y ∈ ns, y ≤ m
  | [], _, h => nomatch h
  | [x], m, h => by
    cases h
    exact ⟨by simp, fun y hy => by simp at hy; omega⟩
  | x :: y :: r, m, h => by
    obtain ⟨k, h1, h2⟩ := map_some' (show (maxL (y :: r)).map (fun m => if m ≤ x then x else m) = some m from h)
    obtain ⟨i1, i2⟩ := maxL_spec h1
    subst h2
    split
    · rename_i q
      refine ⟨by simp, fun z hz => ?_⟩
      rcases List.mem_cons.mp hz with e | hz
      · omega
      · have := i2 z hz
        omega
    · rename_i q
      refine ⟨List.mem_cons_of_mem _ i1, fun z hz => ?_⟩
      rcases List.mem_cons.mp hz with e | hz
      · omega
      · exact i2 z hz
theorem insI_perm (x : Int) : ∀ l : List Int, (insI x l).Perm (x :: l)
  | [] => List.Perm.refl _
  | y :: r => by
    unfold insI
    split
    · exact List.Perm.refl _
    · exact ((insI_perm x r).cons y).trans (List.Perm.swap x y r)
theorem sortI_perm : ∀ l : List Int, (sortI l).Perm l
  | [] => List.Perm.refl _
  | x :: r => (insI_perm x (sortI r)).trans ((sortI_perm r).cons x)
theorem insI_sorted (x : Int) : ∀ l : List Int, l.Pairwise (· ≤ ·) → (insI x l).Pairwise (· ≤ ·)
  | [], _ => by
    unfold insI
    exact List.pairwise_singleton _ _
  | y :: r, h => by
    unfold insI
    obtain ⟨h1, h2⟩ := List.pairwise_cons.mp h
    split
    · rename_i q
      refine List.pairwise_cons.mpr ⟨fun z hz => ?_, h⟩
      rcases List.mem_cons.mp hz with e | hz
      · omega
      · have := h1 z hz
        omega
    · rename_i q
      refine List.pairwise_cons.mpr ⟨fun z hz => ?_, insI_sorted x r h2⟩
      rcases List.mem_cons.mp ((insI_perm x r).mem_iff.mp hz) with e | hz
      · omega
      · exact h1 z hz
theorem sortI_sorted : ∀ l : List Int, (sortI l).Pairwise (· ≤ ·)
  | [] => List.Pairwise.nil
  | x :: r => insI_sorted x _ (sortI_sorted r)
theorem sortI_unique {a l : List Int} (h : a.Perm l) (s : a.Pairwise (· ≤ ·)) : a = sortI l :=
  (h.trans (sortI_perm l).symm).eq_of_pairwise (fun x y _ _ h1 h2 => Int.le_antisymm h1 h2) s (sortI_sorted l)

section
variable {X : Cx}
theorem o1_neg : UnR X (unaryOp .USub) (fun x H Q => rO1 X.K .neg [x] H Q) := by
  intro pins s σ H x v Q I rx h
  obtain ⟨F, w, y, r, e, l, rw1, h1, k⟩ := h
  cases e
  cases w with
  | fz d =>
    cases d with
    | int i =>
      cases h1
      cases rw1
      exact un_neg pins s σ H _ v Q I rx ⟨i, rfl, k.val l (.int _)⟩
    | _ => cases h1
  | _ => cases h1
theorem o1_len (hW : X.w = WorldI.w) : CallR X (.builtin "len") (rO1 X.K .len) := by
  intro pins s σ H xs us Q I rx h
  obtain ⟨F, w, y, r, rfl, l, rw1, h1, k⟩ := h
  cases w with
  | ob _ _ => first | (cases e; done) | (cases e1; done) | (cases e2; done) | (cases e3; done) | (cases h; done) | (cases h1; done) | (cases h2; done) | exact p.elim | exact p2.elim | exact p3.elim | exact p4.elim | (cases o; done) | (cases q; done)
  | fz d =>
    cases d with
    | list ds =>
      cases h1
      cases rw1 with
      | lst a _ b => exact call_len_seq pins s σ H _ us Q I rx ⟨_, _, rfl, .inl (SqL.of (l _ _ a)), by rw [b.len]; exact k.val l (.int _)⟩
    | tuple ds =>
      cases h1
      cases rw1 with
      | tup a _ b => exact call_len_seq pins s σ H _ us Q I rx ⟨_, _, rfl, .inr (SqT.of (l _ _ a)), by rw [b.len]; exact k.val l (.int _)⟩
    | str z =>
      obtain ⟨q, rfl⟩ := if_some (show (if z.length ≤ lineN then some (W.fz (.int z.length)) else none) = some r from h1)
      cases rw1
      exact call_len_str pins s σ H _ us Q I rx ⟨z, rfl, by rw [line_eq]; exact q, k.val l (.int _)⟩
    | dict kvs =>
      cases h1
      obtain ⟨u, rfl, ru⟩ := vals1 rx
      have rw1 : RF F y (.dict kvs) := rw1
      cases rw1 with
      | dk e z b =>
        cases ru
        exact dct_len hW I l (t := false) ⟨_, .inr ⟨_, l _ _ e⟩, b⟩ fun tk s' I' => ⟨.int kvs.length, H, I', ⟨tk, rfl⟩, k.val l (.int _)⟩
    | _ => cases h1
  | ol ds =>
    cases h1
    obtain ⟨a, zs, rfl, h2, z, b⟩ := rw1
    exact call_len_seq pins s σ H _ us Q I rx ⟨_, _, rfl, .inl (SqL.of h2), by rw [b.len]; exact k.val l (.int _)⟩
  | lk ds =>
    cases h1
    obtain ⟨a, zs, rfl, h2, z, b⟩ := rw1
    exact call_len_seq pins s σ H _ us Q I rx ⟨_, _, rfl, .inl (SqL.of h2), by rw [b.len]; exact k.val l (.int _)⟩
  | scr ns =>
    cases h1
    obtain ⟨a, rfl, h2⟩ := rw1
    exact call_len_seq pins s σ H _ us Q I rx ⟨_, _, rfl, .inl (sqL_le l h2), by rw [List.length_map]; exact k.val l (.int _)⟩
  | gk ds =>
    cases h1
    obtain ⟨a, zs, rfl, h2, b⟩ := rw1
    exact call_len_seq pins s σ H _ us Q I rx ⟨_, _, rfl, .inr (sqT_le l h2), by rw [b.len]; exact k.val l (.int _)⟩
  | od t kvs =>
    cases h1
    obtain ⟨u, rfl, ru⟩ := vals1 rx
    obtain ⟨a, rfl, z, q⟩ := rw1
    cases ru
    have g : DctR F H a t kvs := by
      cases t with
      | false => exact let ⟨es, e1, e2⟩ := q; ⟨es, .inl e1, e2⟩
      | true => exact let ⟨es, e1, e2⟩ := q; ⟨es, .inl e1, e2⟩
    exact dct_len hW I l g fun tk s' I' => ⟨.int kvs.length, H, I', ⟨tk, rfl⟩, k.val l (.int _)⟩
  | ft kvs =>
    cases h1
    obtain ⟨u, rfl, ru⟩ := vals1 rx
    obtain ⟨a, o, xs, rfl, e, z, b⟩ := rw1
    cases ru
    exact dct_len hW I l (t := true) ⟨_, .inr ⟨_, l _ _ e⟩, b⟩ fun tk s' I' => ⟨.int kvs.length, H, I', ⟨tk, rfl⟩, k.val l (.int _)⟩
theorem o1_tup : CallR X (.type "tuple") (rO1 X.K .tup) := by
  intro pins s σ H xs us Q I rx h
  obtain ⟨F, w, y, r, rfl, l, rw1, h1, k⟩ := h
  cases w with
  | fz d =>
    cases d with
    | list ds =>
      cases h1
      cases rw1 with
      | lst a z b => exact call_tuple_of pins s σ H _ us Q I rx ⟨_, _, rfl, .inl ⟨SqL.of (l _ _ a), fun p hp => k.tup l z b hp⟩⟩
    | tuple ds =>
      cases h1
      cases rw1 with
      | tup a z b => exact call_tuple_of pins s σ H _ us Q I rx ⟨_, _, rfl, .inr ⟨SqT.of (l _ _ a), k.val l (.tup a z b)⟩⟩
    | _ => cases h1
  | ol ds =>
    cases h1
    obtain ⟨a, zs, rfl, h2, z, b⟩ := rw1
    exact call_tuple_of pins s σ H _ us Q I rx ⟨_, _, rfl, .inl ⟨SqL.of h2, fun p hp => k.tup l z b hp⟩⟩
  | lk ds =>
    cases h1
    obtain ⟨a, zs, rfl, h2, z, b⟩ := rw1
    exact call_tuple_of pins s σ H _ us Q I rx ⟨_, _, rfl, .inl ⟨SqL.of h2, fun p hp => k.tup l z b hp⟩⟩
  | _ => cases h1
theorem o1_lis : CallR X (.type "list") (rO1 X.K .lis) := by
  intro pins s σ H xs us Q I rx h
  obtain ⟨F, w, y, r, rfl, l, rw1, h1, k⟩ := h
  cases w with
  | fz d =>
    cases d with
    | list ds =>
      cases h1
      cases rw1 with
      | lst a z b => exact call_list_of pins s σ H _ us Q I rx ⟨_, _, rfl, .inl (SqL.of (l _ _ a)), fun p hp => k.lst l z b hp⟩
    | tuple ds =>
      cases h1
      cases rw1 with
      | tup a z b => exact call_list_of pins s σ H _ us Q I rx ⟨_, _, rfl, .inr (SqT.of (l _ _ a)), fun p hp => k.lst l z b hp⟩
    | _ => cases h1
  | ol ds =>
    cases h1
    obtain ⟨a, zs, rfl, h2, z, b⟩ := rw1
    exact call_list_of pins s σ H _ us Q I rx ⟨_, _, rfl, .inl (SqL.of h2), fun p hp => k.lst l z b hp⟩
  | lk ds =>
    cases h1
    obtain ⟨a, zs, rfl, h2, z, b⟩ := rw1
    exact call_list_of pins s σ H _ us Q I rx ⟨_, _, rfl, .inl (SqL.of h2), fun p hp => k.lst l z b hp⟩
  | _ => cases h1
theorem o1_int : CallR X (.type "int") (rO1 X.K .int) := by
  intro pins s σ H xs us Q I rx h
  obtain ⟨F, w, y, r, rfl, l, rw1, h1, k⟩ := h
  cases w with
  | fz d =>
    cases d with
    | int i =>
      cases h1
      cases rw1
      exact call_int1 pins s σ H _ us Q I rx (.inl ⟨i, rfl, k.val l (.int _)⟩)
    | bool b =>
      cases h1
      cases rw1
      exact call_int1 pins s σ H _ us Q I rx (.inr ⟨b, rfl, k.val l (.int _)⟩)
    | _ => cases h1
  | _ => cases h1
theorem o1_all (hc : X.calm = true) : CallR X (.builtin "all") (rO1 X.K .all) := by
  intro pins s σ H xs us Q I rx h
  obtain ⟨F, w, y, r, rfl, l, rw1, h1, k⟩ := h
  obtain ⟨ds, a, h2⟩ := bind_some' (show (w.lst?.bind fun ds => (bools? ds).map fun bs => W.fz (.bool (bs.all id))) = some r from h1)
  obtain ⟨bs, b, rfl⟩ := map_some' h2
  obtain ⟨p, zs, rfl, h3, hz, h4⟩ := lst_of l rw1 a
  have e := h4.bools b
  subst e
  exact cr_all hc pins s σ H _ us Q I rx ⟨p, bs, rfl, SqL.of h3, k.val l (.bl _)⟩
theorem o1_any (hc : X.calm = true) : CallR X (.builtin "any") (rO1 X.K .any) := by
  intro pins s σ H xs us Q I rx h
  obtain ⟨F, w, y, r, rfl, l, rw1, h1, k⟩ := h
  obtain ⟨ds, a, h2⟩ := bind_some' (show (w.lst?.bind fun ds => (bools? ds).map fun bs => W.fz (.bool (bs.any id))) = some r from h1)
  obtain ⟨bs, b, rfl⟩ := map_some' h2
  obtain ⟨p, zs, rfl, h3, hz, h4⟩ := lst_of l rw1 a
  have e := h4.bools b
  subst e
  exact cr_any hc pins s σ H _ us Q I rx ⟨p, bs, rfl, SqL.of h3, k.val l (.bl _)⟩
theorem o1_sum (hc : X.calm = true) : CallR X (.builtin "sum") (rO1 X.K .sum) := by
  intro pins s σ H xs us Q I rx h
  obtain ⟨F, w, y, r, rfl, l, rw1, h1, k⟩ := h
  obtain ⟨ds, a, h2⟩ := bind_some' (show (w.lst?.bind fun ds => (ints? ds).map fun ns => W.fz (.int ns.sum)) = some r from h1)
  obtain ⟨ns, b, rfl⟩ := map_some' h2
  obtain ⟨p, zs, rfl, h3, hz, h4⟩ := lst_of l rw1 a
  have e := h4.ints b
  subst e
  exact cr_sum hc pins s σ H _ us Q I rx ⟨p, ns, rfl, SqL.of h3, k.val l (.int _)⟩
theorem pos_of_mem {m : Int} {ns : List Int} (h : m ∈ ns) : 0 < ns.length := by
  cases ns with
  | nil => cases h
  | cons x r => exact Nat.succ_pos _
theorem o1_max (hc : X.calm = true) : CallR X (.builtin "max") (rO1 X.K .max) := by
  intro pins s σ H xs us Q I rx h
  obtain ⟨F, w, y, r, rfl, l, rw1, h1, k⟩ := h
  obtain ⟨ds, a, h2⟩ := bind_some' (show (w.lst?.bind fun ds => (ints? ds).bind fun ns => (maxL ns).map fun m => W.fz (.int m)) = some r from h1)
  obtain ⟨ns, b, h5⟩ := bind_some' h2
  obtain ⟨m, c, rfl⟩ := map_some' h5
  obtain ⟨p, zs, rfl, h3, hz, h4⟩ := lst_of l rw1 a
  have e := h4.ints b
  subst e
  obtain ⟨m1, m2⟩ := maxL_spec c
  refine cr_max hc pins s σ H _ us Q I rx ⟨p, ns, rfl, SqL.of h3, pos_of_mem m1, fun j j1 j2 => ?_⟩
  have e : j = m := Int.le_antisymm (m2 j j1) (j2 m m1)
  subst e
  exact k.val l (.int _)
theorem o1_sorted : CallR X (.builtin "sorted") (rO1 X.K .sorted) := by
  intro pins s σ H xs us Q I rx h
  obtain ⟨F, w, y, r, rfl, l, rw1, h1, k⟩ := h
  obtain ⟨ds, a, h2⟩ := bind_some' (show (w.lst?.bind fun ds => (ints? ds).bind fun ns => if ns.length < 64 then some (W.ol ((sortI ns).map .int)) else none) = some r from h1)
  obtain ⟨ns, b, h5⟩ := bind_some' h2
  obtain ⟨c, rfl⟩ := if_some h5
  obtain ⟨p, zs, rfl, h3, hz, h4⟩ := lst_of l rw1 a
  have e := h4.ints b
  subst e
  refine cr_sorted pins s σ H _ us Q I rx ⟨p, ns, rfl, SqL.of h3, c, fun ns' q hp hs hq => ?_⟩
  have e := sortI_unique hp hs
  subst e
  exact k.lst l (by rw [List.length_map, (sortI_perm ns).length_eq]; exact Nat.le_trans (Nat.le_of_lt c) (by decide)) (RFs.ofInts _) hq

/-! ### isinstance -/
def tyD : D → String
  | .none => "NoneType"
  | .bool _ => "bool"
  | .int _ => "int"
  | .str _ => "str"
  | .list _ => "list"
  | .tuple _ => "tuple"
  | .dict _ => "dict"
theorem tyX_of {K : PySem.W.Frag} {F H : Hp} {x : V} {d : D} (l : Le F H) (h : LK F H x d) : TyX K H x (.type (tyD d)) := by
  cases d with
  | list ds =>
    obtain ⟨a, xs, rfl, e, _⟩ := h
    exact .base (.lst e)
  | tuple ds =>
    obtain ⟨a, xs, rfl, e, _⟩ := h
    exact .base (.tup e)
  | none =>
    cases h
    exact .base .non
  | bool _ =>
    cases h
    exact .base (.bl _)
  | int _ =>
    cases h
    exact .base (.int _)
  | str _ =>
    cases h
    exact .base (.str _)
  | dict _ =>
    cases h with
    | dk e _ _ => exact .fDict (l _ _ e)
def O1.ty : O1 → String
  | .isInt => "int"
  | .isBool => "bool"
  | .isStr => "str"
  | .isTup => "tuple"
  | _ => "list"
def O1.isi (o : O1) (d : D) : Bool := match o with
  | .isInt => (match d with | .int _ => true | .bool _ => true | _ => false)
  | .isBool => (match d with | .bool _ => true | _ => false)
  | .isStr => (match d with | .str _ => true | _ => false)
  | .isTup => (match d with | .tuple _ => true | _ => false)
  | _ => false
theorem isi_ok (o : O1) (ho : o = .isInt ∨ o = .isBool ∨ o = .isStr ∨ o = .isTup) (d : D) : kitB (tyD d) o.ty = some (o.isi d) := by
  rcases ho with rfl | rfl | rfl | rfl <;> cases d <;> simp only [tyD, O1.ty, O1.isi] <;> decide +kernel
theorem o1_isi (o : O1) (ho : o = .isInt ∨ o = .isBool ∨ o = .isStr ∨ o = .isTup) : CallR X (.builtin "isinstance") (fun xs H Q => ∃ x, xs = [x, .ty o.ty] ∧ rO1 X.K o [x] H Q) := by
  intro pins s σ H xs us Q I rx h
  obtain ⟨x, rfl, F, w, y, r, e, l, rw1, h1, k⟩ := h
  cases e
  have h2 : (w.look.map fun d => W.fz (.bool (o.isi d))) = some r := by
    rcases ho with rfl | rfl | rfl | rfl <;> exact h1
  obtain ⟨d, a, rfl⟩ := map_some' h2
  exact call_isi pins s σ H _ us Q I rx ⟨x, .ty o.ty, .type (tyD d), .type o.ty, _, rfl, .ty _, tyX_of l (lk_of l rw1 a), kit_ty (isi_ok o ho d), k.val l (.bl _)⟩

/-! ### repr -/
theorem o1_repr (hg : X.A.guards = some []) (hu : X.A.units + 72 < cLine) : CallR X (.builtin "repr") (rO1 X.K .repr) := by
  intro pins s σ H xs us Q I rx h
  obtain ⟨F, w, y, r, rfl, l, rw1, h1, k⟩ := h
  obtain ⟨d, a, h2⟩ := bind_some' (show (w.look.bind fun d => if reprOk d then some (W.fz (.str d.shown)) else none) = some r from h1)
  obtain ⟨ok, rfl⟩ := if_some h2
  unfold reprOk at ok
  simp only [Bool.and_eq_true, Bool.not_eq_true', decide_eq_true_eq] at ok
  obtain ⟨⟨⟨q1, q2⟩, q3⟩, q4⟩ := ok
  have lk := lk_of l rw1 a
  obtain ⟨u, rfl, ru⟩ := vals1 rx
  have sz : d.shown.length ≤ sizeLine := by rw [line_eq]; exact q4
  have fin := k.val l (.str d.shown)
  have cont : ∀ a2, y = .ref a2 → wpAny (model X.prog X.w) X.A (call (.builtin "repr") [.ref a2]) (EP X pins σ Q) X.xe s := fun a2 e => by
    subst e
    obtain ⟨as, rd⟩ := Dp.reads I d _ (.ref a2) (lk.dp l q2) rfl
    exact repr_of_reads' rd q1 (fun z => by rw [q2] at z; cases z) hg (by omega) (fun _ _ e => e) (fun h' u tk kk => ⟨.str d.shown, H, I.kept kk, ⟨_, rfl⟩, fin⟩) sz
  cases d with
  | list ds =>
    obtain ⟨b, zs, rfl, _⟩ := lk
    cases ru
    exact cont b rfl
  | tuple ds =>
    obtain ⟨b, zs, rfl, _⟩ := lk
    cases ru
    exact cont b rfl
  | none =>
    cases lk
    cases ru
    exact PySem.P.repr_of_none ⟨.str _, H, I.tok _, ⟨_, rfl⟩, fin⟩
  | bool b =>
    cases lk
    cases ru
    exact PySem.P.repr_of_bool ⟨.str _, H, I.tok _, ⟨_, rfl⟩, fin⟩
  | int i =>
    cases lk
    obtain ⟨t, rfl⟩ := ru
    exact PySem.P.repr_of_int (by simpa [PyData.showable] using q1) ⟨.str _, H, I.tok _, ⟨_, rfl⟩, fin⟩
  | str z =>
    cases lk
    obtain ⟨t, rfl⟩ := ru
    exact PySem.P.repr_of_str ⟨.str _, H, I.tok _, ⟨_, rfl⟩, fin⟩ (by simpa only [PyData.shown] using sz)
  | dict _ => simp [PyData.hasDict] at q2
end
end Sf

end

section
set_option maxRecDepth 100000
set_option maxHeartbeats 1000000
/-! Sf: the least of words. -/
namespace PySem
section
variable {prog : Program} {w : World} {A : Around} {E : Value → Shared → Prop} {s : Shared}
def WordAt (h : Heap) (v : Value) (ns : List Int) : Prop := ∃ a its, v = .ref a ∧ PyProof.Rows.IsTup h a its ∧ PyProof.Rows.IntsAre its.toList ns
theorem WordAt.keep {h h' : Heap} {v : Value} {ns : List Int} (x : WordAt h v ns) (k : ∀ b o, h.get? b = some o → h'.get? b = some o) : WordAt h' v ns := by
  obtain ⟨a, its, e, ⟨o, ho, r⟩, i⟩ := x
  exact ⟨a, its, e, ⟨o, k _ _ ho, r⟩, i⟩
theorem cmpIn_words {vs : List Value} {ws : List (List Int)} {H : Heap} (hw : ∀ i v, vs[i]? = some v → WordAt H v (ws.getD i [])) (hu : A.units < cLine) :
    CmpIn prog w A .Lt H (fun i v => vs.toArray[i]? = some v) (fun i j => HT.lexLt (ws.getD i []) (ws.getD j [])) := fun i j vi vj s' Q E hk hi hj hq => by
  obtain ⟨a, its, rfl, t1, i1⟩ := (hw i vi (by simpa using hi)).keep hk
  obtain ⟨b, its2, rfl, t2, i2⟩ := (hw j vj (by simpa using hj)).keep hk
  exact HT.lt_tupInts t1 t2 i1 i2 hu hq
theorem min_list_words {l : Addr} {vs : List Value} {x : List Int} {ws : List (List Int)} {Q : Value → Shared → Prop} (hh : A.handled = none) (hl : s.heap.IsList l vs.toArray) (hn : vs.length = ws.length + 1)
    (hw : ∀ i v, vs[i]? = some v → WordAt s.heap v ((x :: ws).getD i [])) (hu : A.units + 1 < cLine)
    (h : ∀ (i : Nat) v h' tk, vs[i]? = some v → (x :: ws).getD i [] = ws.foldl (fun a y => if HT.lexLt y a then y else a) x → (∀ b o, s.heap.get? b = some o → h'.get? b = some o) → Q v { s with heap := h', toks := tk }) :
    wpAny (model prog w) A (call (.builtin "min") [.ref l]) Q E s := by
  have hz : vs.toArray.size = ws.length + 1 := by rw [List.size_toArray, hn]
  refine call_min_walkH (PySem.W.iter_listW (A := A.in1) hh hl fun s₂ e W st hfp hw2 hk => ?_)
  refine ⟨_, _, _, _, _, _, _, s.heap, _, rfl, W, st, hfp, by omega, hw2, hk, cmpIn_words (A := A.in1) hw (by show A.units + 1 < _; exact hu), fun v s' hP m => ?_⟩
  obtain ⟨h', tk, rfl, hk'⟩ := PySem.W.moved_old e rfl m
  have e1 : vs.toArray.size - 1 = ws.length := by omega
  have e2 := (PySem.W.argBest_fold (fun a b => HT.lexLt a b) [] x ws ws.length (Nat.le_refl _)).2
  rw [List.take_length] at e2
  rw [e1] at hP
  exact h _ v h' tk (by simpa using hP) e2 hk'
theorem call_min_twoW {u v : Value} {ns ms : List Int} {Q : Value → Shared → Prop} (hh : A.handled = none) (h1 : WordAt s.heap u ns) (h2 : WordAt s.heap v ms) (hu : A.units + 1 < cLine)
    (h : ∀ h' tk, (∀ b o, s.heap.get? b = some o → h'.get? b = some o) → Q (if HT.lexLt ms ns then v else u) { s with heap := h', toks := tk }) :
    wpAny (model prog w) A (call (.builtin "min") [u, v]) Q E s := by
  have hname : (toString "min" ++ toString ".loop" : String) = "min.loop" := by decide
  refine call_function_tree F.kind_min F.plain_min F.entry_min (F.args_min2 _ _) ?_
  show wpAny _ A.in1 (Builtin.Builtins.bindParams "min" ["key", "default"] 0 ⟨[], []⟩ >>= _) _ _ s
  refine wpAny_bind (wpAny_of_eq (show Builtin.Builtins.bindParams "min" ["key", "default"] 0 ⟨[], []⟩ = pure [none, none] from rfl) ?_)
  show wpAny _ A.in1 (newTuple [u, v] >>= _) _ _ s
  refine wpAny_bind (wpAny_newObj_type ?_)
  have hl : (s.heap.push { cls := .type "tuple", data := .seq #[u, v] }).IsTuple s.heap.objs.size #[u, v] := ⟨_, Heap.get?_push_size _ rfl, rfl, _, rfl⟩
  refine wpAny_bind (PySem.W.iter_tupleW (A := A.in1) (s := { s with heap := s.heap.push { cls := .type "tuple", data := .seq #[u, v] } }) hh hl fun s₂ e W st hfp hw2 hk => ?_)
  refine wpAny_bind (wpAny_newObj_type ?_)
  have hSf := fun hm => Nat.lt_irrefl _ (hfp _ hm)
  have kp : ∀ b o, s.heap.get? b = some o → (s.heap.push { cls := .type "tuple", data := .seq #[u, v] }).get? b = some o := fun b o e => Heap.get?_push_of_some _ e
  rw [hname]
  have hcmp : CmpIn prog w A.in1 .Lt (s.heap.push { cls := .type "tuple", data := .seq #[u, v] }) (fun i x => #[u, v][i]? = some x) (fun i j => HT.lexLt ([ns, ms].getD i []) ([ns, ms].getD j [])) :=
    cmpIn_words (A := A.in1) (vs := [u, v]) (fun i x q => match i, q with
      | 0, q => by cases q; exact h1.keep kp
      | 1, q => by cases q; exact h2.keep kp
      | i + 2, q => by simp at q) (by show A.units + 1 < _; exact hu)
  refine wpAny_pure ⟨plainId_quiet F.plain_min_loop _, codeAny_min_loop_firstH W _ hw2 _ hcmp s₂.heap.objs.size hSf (fresh_in hk) _ (by show 0 < 2; decide) (fun b o e => Heap.get?_push_of_some _ (hk b o e)) (W.frame 0 s₂ _ s₂.toks st (Nat.le_refl _) fun b _ o e => Heap.get?_push_of_some _ e) (Heap.get?_push_size _ rfl) fun x s' hP hm => ?_⟩
  have hm2 := Moved.drop_new (tk := s₂.toks) hm (Nat.le_refl _)
  obtain ⟨h', tk, rfl, hk'⟩ := PySem.W.moved_old e rfl hm2
  have := h h' tk fun b o e => hk' b o (kp b o e)
  have hP : #[u, v][argBest (fun i j => HT.lexLt ([ns, ms].getD i []) ([ns, ms].getD j [])) 1]? = some x := hP
  unfold argBest argBest at hP
  have e0 : HT.lexLt ([ns, ms].getD (0 + 1) []) ([ns, ms].getD 0 []) = HT.lexLt ms ns := rfl
  rw [e0] at hP
  cases g : HT.lexLt ms ns with
  | true =>
    rw [g] at hP this
    cases hP
    exact this
  | false =>
    rw [g] at hP this
    cases hP
    exact this
end
end PySem

namespace Sf
open PySem PySem.Spec PyProof.Rows L2
variable [WorldI]
section
variable {X : Cx}
theorem ints_eq : ∀ {ds : List D} {ns : List Int}, ints? ds = some ns → ds = ns.map .int
  | [], _, e => by
    cases e
    rfl
  | d :: ds, ns, e => by
    cases d with
    | int i =>
      obtain ⟨ms, e1, rfl⟩ := map_some' (show (ints? ds).map (i :: ·) = some ns from e)
      rw [ints_eq e1]
      rfl
    | _ => cases e
theorem vals_at {xs : List V} {us : List Value} {i : Nat} {u : Value} (r : Vals xs us) (h : us[i]? = some u) : ∃ v, xs[i]? = some v ∧ RelV v u := by
  have hi : i < us.length := (List.getElem?_eq_some_iff.mp h).1
  have hx : i < xs.length := by rw [r.length]; exact hi
  obtain ⟨u', h1, h2⟩ := r.get (List.getElem?_eq_getElem hx)
  rw [h] at h1
  cases h1
  exact ⟨_, List.getElem?_eq_getElem hx, h2⟩
theorem RFs.wordAt {F : Hp} {vs : List V} {ds : List D} {wss : List (List Int)} (r : RFs F vs ds) (e : words? ds = some wss) : ds.length = wss.length ∧ vs.length = wss.length ∧ ∀ i v, vs[i]? = some v → ∃ a, v = .ref a ∧ F a = some (.tup ((wss.getD i []).map V.int)) ∧ RF F v (.tuple ((wss.getD i []).map .int)) := by
  induction ds generalizing vs wss with
  | nil =>
    cases e
    cases r
    exact ⟨rfl, rfl, fun i v h => by simp at h⟩
  | cons d ds ih =>
    cases r with
    | cons a b =>
    rename_i v0 vs
    cases d with
    | tuple es =>
      obtain ⟨ns, e1, e2⟩ := bind_some' (show ((ints? es).bind fun ns => (words? ds).map (ns :: ·)) = some wss from e)
      obtain ⟨ws, e3, rfl⟩ := map_some' e2
      obtain ⟨i1, i2, i3⟩ := ih b e3
      refine ⟨by simp [i1], by simp [i2], fun i v h => ?_⟩
      cases i with
      | zero =>
        cases h
        have ee := ints_eq e1
        subst ee
        cases a with
        | tup h1 z h2 =>
          have := h2.ints e1
          subst this
          exact ⟨_, rfl, h1, .tup h1 z h2⟩
      | succ i => exact i3 i v (by simpa using h)
    | _ => cases e
theorem wordAt_of {K : PySem.W.Frag} {pins : List (Addr × Obj)} {s : Shared} {σ : L2.St} {H : Hp} {a : Addr} {ns : List Int} (I : L2.Inv X pins σ H s) (h : SqT X.K H a (ns.map V.int)) : WordAt s.heap (.ref a) ns := by
  obtain ⟨its, r1, p1, _⟩ := I.tuple h
  exact ⟨a, its.toArray, rfl, p1, intsAre_of r1⟩
theorem o2_min2 (hc : X.calm = true) (hu : X.A.units + 64 < cLine) : CallR X (.builtin "min") (fun xs H Q => ∃ x y, xs = [x, y] ∧ rO2 X.K .min2 x y H Q) := by
  intro pins s σ H xs us Q I rx h
  obtain ⟨x, y, rfl, F, w, z, r, l, rw1, rw2, e, k⟩ := h
  obtain ⟨d, f, t, a, b, c, rfl⟩ := op2_look e (by decide) (by decide) (by decide) (by decide) (by decide)
  have l1 := lk_of l rw1 a
  have l2 := lk_of l rw2 b
  cases d with
  | int i =>
    cases f with
    | int j =>
      cases c
      cases l1
      cases l2
      exact call_min2 hc pins s σ H _ us Q I rx ⟨i, j, rfl, k.val l (.int _)⟩
    | _ => cases c
  | tuple ds =>
    cases f with
    | tuple es =>
      obtain ⟨ns, e1, e2⟩ := bind_some' (show ((ints? ds).bind fun ns => (ints? es).map fun ms => PyData.tuple (if HT.lexLt ms ns then es else ds)) = some t from c)
      obtain ⟨ms, e3, rfl⟩ := map_some' e2
      obtain ⟨p, xs, rfl, h1, h2, z1, q1⟩ := l1
      obtain ⟨q, ys, rfl, h3, h4, z2, q2⟩ := l2
      have := q1.ints e1
      subst this
      have := q2.ints e3
      subst this
      cases rx with
      | cons r1 rx =>
      cases rx with
      | cons r2 rx =>
      cases rx
      obtain rfl : _ = Value.ref p := r1
      obtain rfl : _ = Value.ref q := r2
      refine call_min_twoW (I.ok.hd hc) (wordAt_of (K := X.K) I (SqT.of h1)) (wordAt_of (K := X.K) I (SqT.of h3)) (by omega) fun h' tk kk => ?_
      cases g : HT.lexLt ms ns with
      | true =>
        rw [g] at k
        exact ⟨.ref q, H, I.kept kk, rfl, k.val l (.tup h4 z2 q2)⟩
      | false =>
        rw [g] at k
        exact ⟨.ref p, H, I.kept kk, rfl, k.val l (.tup h2 z1 q1)⟩
    | _ => cases c
  | _ => cases c
theorem o1_min (hc : X.calm = true) (hu : X.A.units + 64 < cLine) : CallR X (.builtin "min") (rO1 X.K .min) := by
  intro pins s σ H xs us Q I rx h
  obtain ⟨F, w, y, r, rfl, l, rw1, h1, k⟩ := h
  obtain ⟨ds, a, h2⟩ := bind_some' (show (w.lst?.bind fun ds => match ints? ds with
    | some ns => (minL ns).map fun m => W.fz (.int m)
    | none => (words? ds).bind fun ws => (minW ws).map fun ns => W.fz (.tuple (ns.map .int))) = some r from h1)
  obtain ⟨p, zs, rfl, h3, hz, h4⟩ := lst_of l rw1 a
  cases b : ints? ds with
  | some ns =>
    rw [b] at h2
    obtain ⟨m, c, rfl⟩ := map_some' h2
    have e := h4.ints b
    subst e
    obtain ⟨m1, m2⟩ := minL_spec c
    refine cr_min hc pins s σ H _ us Q I rx ⟨p, ns, rfl, SqL.of h3, pos_of_mem m1, fun j j1 j2 => ?_⟩
    have e : j = m := Int.le_antisymm (j2 m m1) (m2 j j1)
    subst e
    exact k.val l (.int _)
  | none =>
    rw [b] at h2
    obtain ⟨ws, e1, e2⟩ := bind_some' h2
    obtain ⟨m, e3, rfl⟩ := map_some' e2
    cases ws with
    | nil => cases e3
    | cons x ws =>
      cases e3
      obtain ⟨n1, n2, n3⟩ := h4.wordAt e1
      obtain ⟨its, r1, p1, _⟩ := I.list (SqL.of h3)
      obtain ⟨u, rfl, ru⟩ := vals1 rx
      obtain rfl : u = Value.ref p := ru
      refine min_list_words (x := x) (ws := ws) (I.ok.hd hc) p1.isList (by rw [← r1.length, n2]; rfl) (fun i v hv => ?_) (by omega) fun i v h' tk hv he kk => ?_
      · obtain ⟨v0, q1, q2⟩ := vals_at r1 hv
        obtain ⟨a0, rfl, f1, f2⟩ := n3 i v0 q1
        obtain rfl : v = Value.ref a0 := q2
        exact wordAt_of (K := X.K) I (SqT.of (l _ _ f1))
      · obtain ⟨v0, q1, q2⟩ := vals_at r1 hv
        obtain ⟨a0, rfl, f1, f2⟩ := n3 i v0 q1
        rw [he] at f2
        exact ⟨.ref a0, H, I.kept kk, q2, k.val l f2⟩
end
end Sf

end

section
set_option maxRecDepth 100000
set_option maxHeartbeats 1000000
/-! Sf: what an evaluation asks of an expression. -/
namespace Sf
open PySem PySem.Spec PyProof.Rows L2
variable [WorldI]

/-! ### stores and slots -/
theorem getS_at {E : Sto} {i : Nat} {w : W} (h : getS E i = some w) : E[i]? = some (some w) := by
  unfold getS at h
  cases e : E[i]? with
  | none =>
    rw [e] at h
    cases h
  | some o =>
    rw [e] at h
    cases h
    rfl
theorem at_getS {E : Sto} {i : Nat} {w : W} (h : E[i]? = some (some w)) : getS E i = some w := by
  unfold getS
  rw [h]
  rfl
theorem setS_self {E : Sto} {i : Nat} {w w0 : W} (h : E[i]? = some (some w0)) : (setS E i w)[i]? = some (some w) := by
  unfold setS
  exact List.getElem?_set_self (List.getElem?_eq_some_iff.mp h).1
theorem setS_ne {E : Sto} {i j : Nat} {w : W} (h : i ≠ j) : (setS E i w)[j]? = E[j]? := by
  unfold setS
  exact List.getElem?_set_ne h
theorem setS_len {E : Sto} {i : Nat} {w : W} : (setS E i w).length = E.length := by
  unfold setS
  exact List.length_set

section
variable {K : PySem.W.Frag} {F H F' H' : Hp} {E E' : Sto} {σ : L2.St}
theorem SR.val (S : SR K F H E σ) {i : Nat} {w : W} (h : getS E i = some w) : ∃ v, σ[i]? = some (some v) ∧ RW K F H w v := S.at_ i w (getS_at h)

/-- the heap grows by new things -/
theorem SR.grow (S : SR K F H E σ) (g : Grow F H F' H') : SR K F' H' E σ := by
  obtain ⟨g1, g2, g3, g4⟩ := g
  refine ⟨S.len, fun i w e => ?_, S.sep, fun i a o => ?_, g3⟩
  · obtain ⟨v, h1, h2⟩ := S.at_ i w e
    exact ⟨v, h1, h2.keep g1 fun _ a o e2 q => g2 a o q⟩
  · cases q : F' a with
    | none => rfl
    | some u =>
      exfalso
      rcases g4 a (by rw [q]; exact fun z => nomatch z) with z | z
      · exact z (S.free i a o)
      · exact o.some_at S z
theorem Ext.grow (S : SR K F H E σ) (g : Grow F H F' H') : Ext F H E σ F' H' E := by
  obtain ⟨g1, g2, g3, g4⟩ := g
  refine ⟨g1, fun b o h _ => g2 b o h, fun b h => ?_, fun _ _ h => h, fun _ _ h => h, fun b h => ?_⟩
  · rcases g4 b h with q | q
    · exact .inl q
    · exact .inr (.inr q)
  · cases q : H b with
    | none => exact absurd q h
    | some o => rw [g2 b o q]; exact fun z => nomatch z
theorem Rn.rs {r : W} {v : V} (S : SR K F H E σ) (n : Rn K F' H' H r v) : Rs K F' H' H E σ r v :=
  ⟨n.1, fun o a e => ⟨(n.2 o a e).1, (n.2 o a e).2, fun i q => q.some_at S (n.2 o a e).1⟩⟩

/-- a list that a name owns is given out of hand -/
theorem SR.freeze (S : SR K F H E σ) {i : Nat} {ds : List D} {a : Addr} {xs : List V} (e : E[i]? = some (some (.ol ds))) (s : σ[i]? = some (some (.ref a))) (h : H a = some (.lst xs)) (hz : ds.length ≤ lineN) (r : RFs F xs ds) :
    SR K (upd F a (.lst xs)) H (setS E i (.fz (.list ds))) σ ∧ Ext F H E σ (upd F a (.lst xs)) H (setS E i (.fz (.list ds))) ∧ RF (upd F a (.lst xs)) (.ref a) (.list ds) := by
  have oa : ownAt E σ i a := ⟨_, e, rfl, s⟩
  have fa := S.free i a oa
  have lf : Le F (upd F a (.lst xs)) := Le.new fa
  have rf : RF (upd F a (.lst xs)) (.ref a) (.list ds) := .lst upd_same hz (r.up lf)
  have own' : ∀ j b, ownAt (setS E i (.fz (.list ds))) σ j b → ownAt E σ j b ∧ j ≠ i := fun j b ⟨w, q1, q2, q3⟩ => by
    by_cases z : i = j
    · subst z
      rw [setS_self e] at q1
      cases q1
      cases q2
    · rw [setS_ne z] at q1
      exact ⟨⟨w, q1, q2, q3⟩, fun y => z y.symm⟩
  have mut' : ∀ j b, mutAt (setS E i (.fz (.list ds))) σ j b → mutAt E σ j b := fun j b ⟨w, q1, q2, q3⟩ => by
    by_cases z : i = j
    · subst z
      rw [setS_self e] at q1
      cases q1
      cases q2
    · rw [setS_ne z] at q1
      exact ⟨w, q1, q2, q3⟩
  refine ⟨⟨by rw [setS_len]; exact S.len, fun j w q => ?_, fun j k b q1 q2 => S.sep j k b (own' j b q1).1 (own' k b q2).1, fun j b q => ?_, fun b o q => ?_⟩, ⟨lf, fun b o q _ => q, fun b q => ?_, fun j b q => (own' j b q).1, mut', fun _ q => q⟩, rf⟩
  · by_cases z : i = j
    · subst z
      rw [setS_self e] at q
      cases q
      exact ⟨_, s, rf⟩
    · rw [setS_ne z] at q
      obtain ⟨v, h1, h2⟩ := S.at_ j w q
      exact ⟨v, h1, h2.keep lf fun _ _ _ _ y => y⟩
  · obtain ⟨q1, q2⟩ := own' j b q
    have ne : b ≠ a := fun z => by
      subst z
      exact q2 (S.sep j i b q1 oa)
    rw [upd_ne ne]
    exact S.free j b q1
  · by_cases z : b = a
    · subst z
      rw [upd_same] at q
      cases q
      exact h
    · rw [upd_ne z] at q
      exact S.le b o q
  · by_cases z : b = a
    · subst z
      exact .inr (.inl ⟨i, _, e, rfl, s⟩)
    · rw [upd_ne z] at q
      exact .inl q
/-- .. a list that stands alone -/
theorem SR.freezeT (S : SR K F H E σ) {H0 : Hp} {ds : List D} {v : V} (r : Rs K F H H0 E σ (.ol ds) v) :
    ∃ F1, SR K F1 H E σ ∧ Le F F1 ∧ (∀ b, F1 b ≠ none → F b ≠ none ∨ H0 b = none) ∧ RF F1 v (.list ds) := by
  obtain ⟨⟨a, xs, rfl, h, hz, q⟩, t⟩ := r
  obtain ⟨t1, t2, t3⟩ := t rfl a rfl
  have lf : Le F (upd F a (.lst xs)) := Le.new t2
  refine ⟨upd F a (.lst xs), ⟨S.len, fun j w q => ?_, S.sep, fun j b o => ?_, fun b o q => ?_⟩, lf, fun b q => ?_, .lst upd_same hz (q.up lf)⟩
  · obtain ⟨v, h1, h2⟩ := S.at_ j w q
    exact ⟨v, h1, h2.keep lf fun _ _ _ _ y => y⟩
  · have ne : b ≠ a := fun z => by
      subst z
      exact t3 j o
    rw [upd_ne ne]
    exact S.free j b o
  · by_cases z : b = a
    · subst z
      rw [upd_same] at q
      cases q
      exact h
    · rw [upd_ne z] at q
      exact S.le b o q
  · by_cases z : b = a
    · subst z
      exact .inr t1
    · rw [upd_ne z] at q
      exact .inl q
/-- a dict that a name owns is given out of hand -/
def fro (t : Bool) (kvs : List (D × D)) : W := match t with
  | false => .fz (.dict kvs)
  | true => .ft kvs
theorem fro_own {t : Bool} {kvs : List (D × D)} : (fro t kvs).own = false := by cases t <;> rfl
theorem fro_mu {t : Bool} {kvs : List (D × D)} : (fro t kvs).mu = false := by cases t <;> rfl
theorem od_at {t : Bool} {kvs : List (D × D)} {v : V} (r : RW K F H (.od t kvs) v) : ∃ a u, v = .ref a ∧ H a = some u ∧ Mut (some u) ∧ ∀ od, F a = none → RW K (upd F a (.frz od u)) (upd H a (.frz od u)) (fro t kvs) (.ref a) := by
  obtain ⟨a, rfl, z, q⟩ := r
  cases t with
  | false =>
    obtain ⟨es, e, b⟩ := q
    exact ⟨a, _, rfl, e, True.intro, fun od fa => RF.dk upd_same z (b.up (Le.new fa))⟩
  | true =>
    obtain ⟨es, e, b⟩ := q
    exact ⟨a, _, rfl, e, True.intro, fun od fa => ⟨a, od, es, rfl, upd_same, z, b.up (Le.new fa)⟩⟩
theorem SR.freezeD (S : SR K F H E σ) {i : Nat} {t : Bool} {kvs : List (D × D)} {v : V} (e : E[i]? = some (some (.od t kvs))) (s : σ[i]? = some (some v)) (r : RW K F H (.od t kvs) v) :
    ∃ a u, v = .ref a ∧ H a = some u ∧ Mut (some u) ∧ ∀ od, SR K (upd F a (.frz od u)) (upd H a (.frz od u)) (setS E i (fro t kvs)) σ ∧ Ext F H E σ (upd F a (.frz od u)) (upd H a (.frz od u)) (setS E i (fro t kvs)) ∧ RW K (upd F a (.frz od u)) (upd H a (.frz od u)) (fro t kvs) v := by
  obtain ⟨a, u, rfl, h, mu, rr⟩ := od_at r
  have oa : ownAt E σ i a := ⟨_, e, rfl, s⟩
  have fa := S.free i a oa
  refine ⟨a, u, rfl, h, mu, fun od => ?_⟩
  have lf : Le F (upd F a (.frz od u)) := Le.new fa
  have rf := rr od fa
  have own' : ∀ j b, ownAt (setS E i (fro t kvs)) σ j b → ownAt E σ j b ∧ j ≠ i := fun j b ⟨w, q1, q2, q3⟩ => by
    by_cases z : i = j
    · subst z
      rw [setS_self e] at q1
      cases q1
      rw [fro_own] at q2
      cases q2
    · rw [setS_ne z] at q1
      exact ⟨⟨w, q1, q2, q3⟩, fun y => z y.symm⟩
  have mut' : ∀ j b, mutAt (setS E i (fro t kvs)) σ j b → mutAt E σ j b := fun j b ⟨w, q1, q2, q3⟩ => by
    by_cases z : i = j
    · subst z
      rw [setS_self e] at q1
      cases q1
      rw [fro_mu] at q2
      cases q2
    · rw [setS_ne z] at q1
      exact ⟨w, q1, q2, q3⟩
  refine ⟨⟨by rw [setS_len]; exact S.len, fun j w q => ?_, fun j k b q1 q2 => S.sep j k b (own' j b q1).1 (own' k b q2).1, fun j b q => ?_, fun b o q => ?_⟩, ⟨lf, fun b o q n => ?_, fun b q => ?_, fun j b q => (own' j b q).1, mut', fun b q => ?_⟩, rf⟩
  · by_cases z : i = j
    · subst z
      rw [setS_self e] at q
      cases q
      exact ⟨_, s, rf⟩
    · rw [setS_ne z] at q
      obtain ⟨v, h1, h2⟩ := S.at_ j w q
      refine ⟨v, h1, h2.keep lf fun ow b o e2 y => ?_⟩
      have ne : b ≠ a := fun c => by
        subst c e2
        exact z (S.sep i j _ oa ⟨w, q, ow, h1⟩)
      rw [upd_ne ne]
      exact y
  · obtain ⟨q1, q2⟩ := own' j b q
    have ne : b ≠ a := fun z => by
      subst z
      exact q2 (S.sep j i b q1 oa)
    rw [upd_ne ne]
    exact S.free j b q1
  · by_cases z : b = a
    · subst z
      rw [upd_same] at q ⊢
      exact q
    · rw [upd_ne z] at q ⊢
      exact S.le b o q
  · have ne : b ≠ a := fun z => by
      subst z
      exact n i ⟨_, e, rfl, s⟩
    rw [upd_ne ne]
    exact q
  · by_cases z : b = a
    · subst z
      exact .inr (.inl ⟨i, _, e, rfl, s⟩)
    · rw [upd_ne z] at q
      exact .inl q
  · by_cases z : b = a
    · subst z
      rw [upd_same]
      exact fun y => nomatch y
    · rw [upd_ne z]
      exact q
/-- .. a dict that stands alone -/
theorem SR.freezeTD (S : SR K F H E σ) {H0 : Hp} {t : Bool} {kvs : List (D × D)} {v : V} (r : Rs K F H H0 E σ (.od t kvs) v) :
    ∃ a u, v = .ref a ∧ H a = some u ∧ Mut (some u) ∧ H0 a = none ∧ ∀ od, SR K (upd F a (.frz od u)) (upd H a (.frz od u)) E σ ∧ Le F (upd F a (.frz od u)) ∧ RW K (upd F a (.frz od u)) (upd H a (.frz od u)) (fro t kvs) v := by
  obtain ⟨r, tm⟩ := r
  obtain ⟨a, u, rfl, h, mu, rr⟩ := od_at r
  obtain ⟨t1, t2, t3⟩ := tm rfl a rfl
  refine ⟨a, u, rfl, h, mu, t1, fun od => ?_⟩
  have lf : Le F (upd F a (.frz od u)) := Le.new t2
  refine ⟨⟨S.len, fun j w q => ?_, S.sep, fun j b o => ?_, fun b o q => ?_⟩, lf, rr od t2⟩
  · obtain ⟨v, h1, h2⟩ := S.at_ j w q
    refine ⟨v, h1, h2.keep lf fun ow b o e2 y => ?_⟩
    have ne : b ≠ a := fun c => by
      subst c e2
      exact t3 j ⟨w, q, ow, h1⟩
    rw [upd_ne ne]
    exact y
  · have ne : b ≠ a := fun z => by
      subst z
      exact t3 j o
    rw [upd_ne ne]
    exact S.free j b o
  · by_cases z : b = a
    · subst z
      rw [upd_same] at q ⊢
      exact q
    · rw [upd_ne z] at q ⊢
      exact S.le b o q
theorem Ext.lockN {a : Addr} {u ob : HO} (x : Ext F H E σ F' H' E') (n : H a = none) (h : H' a = some u) (fa : F' a = none) : Ext F H E σ (upd F' a ob) (upd H' a ob) E' := by
  refine ⟨x.fle.trans (Le.new fa), fun b o q m => ?_, fun b q => ?_, x.own, x.mta, fun b q => ?_⟩
  · have ne : b ≠ a := fun z => by
      subst z
      rw [n] at q
      cases q
    rw [upd_ne ne]
    exact x.keep b o q m
  · by_cases z : b = a
    · subst z
      exact .inr (.inr n)
    · rw [upd_ne z] at q
      exact x.fnew b q
  · by_cases z : b = a
    · subst z
      rw [upd_same]
      exact fun y => nomatch y
    · rw [upd_ne z]
      exact x.thr b q
theorem free_tm {H0 : Hp} {w : W} {a : Addr} (r : Rs K F H H0 E σ w (.ref a)) (o : w.own = true) : F a = none := (r.2 o a rfl).2.1
/-- what is known of F alone widens -/
theorem Ext.widen {F1 : Hp} (x : Ext F H E σ F' H' E') (l : Le F' F1) (n : ∀ b, F1 b ≠ none → F' b ≠ none ∨ H b = none) : Ext F H E σ F1 H' E' :=
  ⟨x.fle.trans l, x.keep, fun b q => (n b q).elim (x.fnew b) fun z => .inr (.inr z), x.own, x.mta, x.thr⟩
end

/-! ### what is wanted behind an evaluation -/
section
variable (K : PySem.W.Frag) (xa : Nat → Addr) (Z : WX)
def Post {α : Type} (r : Res α) (F H : Hp) (E : Sto) (σ : L2.St) (k : α → Sto → Hp → Hp → Prop) : Prop := match r with
  | .stuck => False
  | .ok a E' => ∀ F' H', SR K F' H' E' σ → Ext F H E σ F' H' E' → k a E' F' H'
  | .exc c E' => ∀ F' H', SR K F' H' E' σ → Ext F H E σ F' H' E' → c.flds = [] ∧ Z (.ref (xa c.cls)) none σ H'
end
section
variable {K : PySem.W.Frag} {xa : Nat → Addr} {Z : WX} {F H F1 H1 : Hp} {E E1 : Sto} {σ : L2.St}
theorem Post.mono {α : Type} {r : Res α} {k k' : α → Sto → Hp → Hp → Prop} (h : Post K xa Z r F H E σ k) (f : ∀ a E' F' H', r = .ok a E' → SR K F' H' E' σ → Ext F H E σ F' H' E' → k a E' F' H' → k' a E' F' H') : Post K xa Z r F H E σ k' := by
  cases r with
  | stuck => exact h
  | ok a E' => exact fun F' H' S x => f a E' F' H' rfl S x (h F' H' S x)
  | exc c E' => exact h
theorem Post.rebase {α : Type} {r : Res α} {k : α → Sto → Hp → Hp → Prop} (h : Post K xa Z r F H E σ k) (x : Ext F H E σ F1 H1 E1) : Post K xa Z r F1 H1 E1 σ k := by
  cases r with
  | stuck => exact h
  | ok a E' => exact fun F' H' S y => h F' H' S (x.trans y)
  | exc c E' => exact fun F' H' S y => h F' H' S (x.trans y)
theorem Post.bind_ {α β : Type} {r : Res α} {g : α → Sto → Res β} {k : β → Sto → Hp → Hp → Prop} (h : Post K xa Z (r.bind g) F H E σ k) : Post K xa Z r F H E σ (fun a E1 F1 H1 => Post K xa Z (g a E1) F1 H1 E1 σ k) := by
  cases r with
  | stuck => exact h
  | ok a E1 => exact fun F1 H1 S1 x => Post.rebase (show Post K xa Z (g a E1) F H E σ k from h) x
  | exc c E1 => exact h
theorem Post.bindB {α β : Type} {r : Res α} {g : α → Sto → Res β} {k : β → Sto → Hp → Hp → Prop} (h : Post K xa Z (r.bind g) F H E σ k) : Post K xa Z r F H E σ (fun a E1 F1 H1 => Post K xa Z (g a E1) F H E σ k) := by
  cases r with
  | stuck => exact h
  | ok a E1 => exact fun F1 H1 S1 x => h
  | exc c E1 => exact h
/-- .. not at the place where it began -/
theorem Post.liftB {α : Type} {o : Option α} {k : α → Sto → Hp → Hp → Prop} (h : Post K xa Z (Res.lift o E1) F H E σ k) : ∃ a, o = some a ∧ ∀ F' H', SR K F' H' E1 σ → Ext F H E σ F' H' E1 → k a E1 F' H' := by
  cases o with
  | none => exact h.elim
  | some a => exact ⟨a, rfl, h⟩
theorem Post.lift_ {α : Type} {o : Option α} {k : α → Sto → Hp → Hp → Prop} (h : Post K xa Z (Res.lift o E) F H E σ k) : ∃ a, o = some a ∧ ∀ F' H', SR K F' H' E σ → Ext F H E σ F' H' E → k a E F' H' := by
  cases o with
  | none => exact h.elim
  | some a => exact ⟨a, rfl, h⟩
end

/-- an expression's reading -/
def toTE (K : PySem.W.Frag) (xa : Nat → Addr) (Z : WX) (f : Sto → Res W) : TE := fun σ H Q => ∃ F E, SR K F H E σ ∧ Post K xa Z (f E) F H E σ fun w E' F' H' => ∀ v, Rs K F' H' H E' σ w v → Q v H'
/-- an argument: a name, a value -/
def RA (K : PySem.W.Frag) (F H H0 : Hp) (E : Sto) (σ : L2.St) (x : Sum Nat W) (v : V) : Prop := match x with
  | .inl i => σ[i]? = some (some v)
  | .inr w => Rs K F H H0 E σ w v
def toTA (K : PySem.W.Frag) (xa : Nat → Addr) (Z : WX) (f : Sto → Res (Sum Nat W)) : TE := fun σ H Q => ∃ F E, SR K F H E σ ∧ Post K xa Z (f E) F H E σ fun x E' F' H' => ∀ v, RA K F' H' H E' σ x v → Q v H'
/-- a value given out of hand -/
def toTD (K : PySem.W.Frag) (xa : Nat → Addr) (Z : WX) (f : Sto → Res D) : TE := fun σ H Q => ∃ F E, SR K F H E σ ∧ Post K xa Z (f E) F H E σ fun d E' F' H' => ∀ v, RF F' v d → Q v H'
def toTT (K : PySem.W.Frag) (xa : Nat → Addr) (Z : WX) (f : Sto → Res Bool) : TT := fun σ H Q => ∃ F E, SR K F H E σ ∧ Post K xa Z (f E) F H E σ fun b E' F' H' => Q b H'

theorem pe_imp {X : Cx} {e : Expr} {t t' : TE} (h : PE X e t) (f : ∀ σ H Q, t' σ H Q → t σ H Q) : PE X e t' := ⟨fun pins s σ H Q I q => h.run pins s σ H Q I (f σ H Q q)⟩
theorem pt_imp {X : Cx} {e : Expr} {t t' : TT} (h : PT X e t) (f : ∀ σ H Q, t' σ H Q → t σ H Q) : PT X e t' := ⟨fun pins s σ H Q I q => h.run pins s σ H Q I (f σ H Q q)⟩
theorem ps_imp {X : Cx} {e : Stmt} {t t' : TS} (h : PS X e t) (f : ∀ D σ H, t' D σ H → t D σ H) : PS X e t' := ⟨fun pins s σ H D I q => h.run pins s σ H D I (f D σ H q)⟩
theorem pss_imp {X : Cx} {e : List Stmt} {t t' : TS} (h : PSs X e t) (f : ∀ D σ H, t' D σ H → t D σ H) : PSs X e t' := ⟨fun pins s σ H D I q => h.run pins s σ H D I (f D σ H q)⟩

section
variable {X : Cx} {xa : Nat → Addr} {Z : WX} {cl : Nat → List W → CRes}

/-- a dict that comes may be locked -/
theorem pe_lk {e : Expr} {t : TE} (h : PE X e t) : PE X e (fun σ H Q => t σ H fun v H1 => Q v H1 ∨ ∃ d u, v = .ref d ∧ H1 d = some u ∧ Mut (some u) ∧ ∀ od, Q v (upd H1 d (.frz od u))) := ⟨fun pins s σ H Q I q => thn (h.run pins s σ H _ I q) fun u s1 ⟨x, H1, I1, rx, q1⟩ => by
  rcases q1 with q1 | ⟨d, ob, rfl, hd, mu, q1⟩
  · exact ⟨x, H1, I1, rx, q1⟩
  · obtain ⟨od, I2⟩ := I1.lock hd mu
    exact ⟨_, _, I2, rx, q1 od⟩⟩

/-! ### constants, names -/
theorem de_con {e : Expr} {d : D} {v : V} (h : PE X e (tC v)) (r : ∀ F, RF F v d) : PE X e (toTE X.K xa Z (ev cl (.con d))) := by
  refine pe_imp h fun σ H Q ⟨F, E, S, p⟩ => ?_
  unfold ev at p
  exact p F H S (Ext.refl ..) v ⟨r F, fun o => nomatch o⟩
theorem de_var {e : Expr} {i : Nat} (h : PE X e (tVar i)) : PE X e (toTE X.K xa Z (ev cl (.var i))) := by
  refine pe_imp (pe_lk h) fun σ H Q ⟨F, E, S, p⟩ => ?_
  unfold ev readS at p
  cases g : getS E i with
  | none =>
    rw [g] at p
    exact p.elim
  | some w =>
    rw [g] at p
    obtain ⟨v, s, r⟩ := S.val g
    cases w with
    | ob _ _ => first | (cases e; done) | (cases e1; done) | (cases e2; done) | (cases e3; done) | (cases h; done) | (cases h1; done) | (cases h2; done) | exact p.elim | exact p2.elim | exact p3.elim | exact p4.elim | (cases o; done) | (cases q; done)
    | fz d => exact ⟨v, s, .inl ((show Post X.K xa Z (.ok (W.fz d) E) F H E σ _ from p) F H S (Ext.refl ..) v ⟨r, fun o => nomatch o⟩)⟩
    | scr d => exact ⟨v, s, .inl ((show Post X.K xa Z (.ok (W.scr d) E) F H E σ _ from p) F H S (Ext.refl ..) v ⟨r, fun o => nomatch o⟩)⟩
    | gk d => exact ⟨v, s, .inl ((show Post X.K xa Z (.ok (W.gk d) E) F H E σ _ from p) F H S (Ext.refl ..) v ⟨r, fun o => nomatch o⟩)⟩
    | ft d => exact ⟨v, s, .inl ((show Post X.K xa Z (.ok (W.ft d) E) F H E σ _ from p) F H S (Ext.refl ..) v ⟨r, fun o => nomatch o⟩)⟩
    | od t kvs =>
      obtain ⟨a, u, ev, hu, mu, q⟩ := S.freezeD (getS_at g) s r
      refine ⟨v, s, .inr ⟨a, u, ev, hu, mu, fun od => ?_⟩⟩
      obtain ⟨S1, x1, r1⟩ := q od
      cases t with
      | false => exact (show Post X.K xa Z (.ok (W.fz (.dict kvs)) (setS E i (.fz (.dict kvs)))) F H E σ _ from p) _ _ S1 x1 _ ⟨r1, fun o => nomatch o⟩
      | true => exact (show Post X.K xa Z (.ok (W.ft kvs) (setS E i (.ft kvs))) F H E σ _ from p) _ _ S1 x1 _ ⟨r1, fun o => nomatch o⟩
    | lk d => exact p.elim
    | ol ds =>
      obtain ⟨a, xs, rfl, h, hz, q⟩ := r
      obtain ⟨S1, x1, r1⟩ := S.freeze (getS_at g) s h hz q
      exact ⟨_, s, .inl ((show Post X.K xa Z (.ok (W.fz (.list ds)) (setS E i (.fz (.list ds)))) F H E σ _ from p) _ _ S1 x1 _ ⟨r1, fun o => nomatch o⟩)⟩
theorem da_p {e : Expr} {i : Nat} (h : PE X e (tVar i)) : PE X e (toTA X.K xa Z (evA cl (.p i))) := by
  refine pe_imp h fun σ H Q ⟨F, E, S, p⟩ => ?_
  unfold evA at p
  obtain ⟨w, g, p2⟩ := Post.lift_ (Post.bind_ p)
  obtain ⟨v, s, r⟩ := S.val g
  exact ⟨v, s, p2 F H S (Ext.refl ..) F H S (Ext.refl ..) v s⟩
theorem da_e {e : Expr} {x : IE} (h : PE X e (toTE X.K xa Z (ev cl x))) : PE X e (toTA X.K xa Z (evA cl (.e x))) := by
  refine pe_imp h fun σ H Q ⟨F, E, S, p⟩ => ?_
  unfold evA at p
  exact ⟨F, E, S, (Post.bind_ p).mono fun w E1 F1 H1 _ S1 x1 k v r => k F1 H1 S1 (Ext.refl ..) v r⟩
/-- an argument as it stands when it is used -/
theorem RA.use {K : PySem.W.Frag} {F H H0 : Hp} {E : Sto} {σ : L2.St} {x : Sum Nat W} {v : V} {w : W} (r : RA K F H H0 E σ x v) (S : SR K F H E σ) (e : resolve [x] E = some [w]) : RW K F H w v := by
  cases x with
  | inl i =>
    obtain ⟨w0, g, e2⟩ := bind_some' (show (getS E i).bind (fun w => (resolve [] E).map (w :: ·)) = some [w] from e)
    cases e2
    obtain ⟨v2, s, q⟩ := S.val g
    have s2 : σ[i]? = some (some v) := r
    rw [s] at s2
    cases s2
    exact q
  | inr u =>
    cases e
    exact r.1
theorem RA.carry {K : PySem.W.Frag} {F H H0 F' H' : Hp} {E E' : Sto} {σ : L2.St} {x : Sum Nat W} {v : V} (h : RA K F H H0 E σ x v) (y : Ext F H E σ F' H' E') : RA K F' H' H0 E' σ x v := by
  cases x with
  | inl i => exact h
  | inr w => exact Rs.carry h y
theorem resolve_one {x : Sum Nat W} {E : Sto} {ws : List W} (h : resolve [x] E = some ws) : ∃ w, ws = [w] := by
  cases x with
  | inl i =>
    obtain ⟨w0, g, e2⟩ := bind_some' (show (getS E i).bind (fun w => (resolve [] E).map (w :: ·)) = some ws from h)
    cases e2
    exact ⟨_, rfl⟩
  | inr u =>
    cases h
    exact ⟨_, rfl⟩
theorem resolve_two {x y : Sum Nat W} {E : Sto} {ws : List W} (h : resolve [x, y] E = some ws) : ∃ w u, ws = [w, u] ∧ resolve [x] E = some [w] ∧ resolve [y] E = some [u] := by
  cases x with
  | inl i =>
    obtain ⟨w0, g, e2⟩ := bind_some' (show (getS E i).bind (fun w => (resolve [y] E).map (w :: ·)) = some ws from h)
    obtain ⟨us, e3, rfl⟩ := map_some' e2
    obtain ⟨u, rfl⟩ := resolve_one e3
    refine ⟨w0, u, rfl, ?_, e3⟩
    show (getS E i).bind (fun w => (resolve [] E).map (w :: ·)) = some [w0]
    rw [g]
    rfl
  | inr w0 =>
    obtain ⟨us, e3, rfl⟩ := map_some' (show (resolve [y] E).map (w0 :: ·) = some ws from h)
    obtain ⟨u, rfl⟩ := resolve_one e3
    exact ⟨w0, u, rfl, rfl, e3⟩
/-- an operation's answer -/
theorem K1.of_post {K : PySem.W.Frag} {F H H0 : Hp} {E : Sto} {σ : L2.St} {Q : VK} {r : W} (S : SR K F H E σ) (x0 : ∀ b, H0 b ≠ none → H b ≠ none) (p : ∀ F' H', SR K F' H' E σ → Ext F H E σ F' H' E → ∀ v, Rs K F' H' H0 E σ r v → Q v H') : K1 K H Q F r :=
  fun F' H' v g n => p F' H' (S.grow g) (Ext.grow S g) v ((n.rs S).since x0)

/-! ### operators -/
theorem de_o1 {e e' : Expr} {o : O1} {a : IA} {r : V → Hp → VK → Prop} (h : ∀ ta, PE X e' ta → PE X e (tUn r ta)) (ha : PE X e' (toTA X.K xa Z (evA cl a))) (hr : ∀ x H Q, rO1 X.K o [x] H Q → r x H Q) : PE X e (toTE X.K xa Z (ev cl (.o1 o a))) := by
  refine pe_imp (h _ ha) fun σ H Q ⟨F, E, S, p⟩ => ?_
  unfold ev at p
  refine ⟨F, E, S, (Post.bind_ p).mono fun x E1 F1 H1 _ S1 x1 p2 v rv => ?_⟩
  obtain ⟨w, e1, p3⟩ := Post.lift_ p2
  obtain ⟨ws, e2, e3⟩ := bind_some' e1
  obtain ⟨w0, rfl⟩ := resolve_one e2
  exact hr v H1 Q ⟨F1, w0, v, w, rfl, S1.le, rv.use S1 e2, e3, K1.of_post S1 x1.thr p3⟩
theorem de_o2 {e a' b' : Expr} {o : O2} {a b : IA} {r : R2} (h : ∀ ta tb, PE X a' ta → PE X b' tb → PE X e (tOp r ta tb)) (ha : PE X a' (toTA X.K xa Z (evA cl a))) (hb : PE X b' (toTA X.K xa Z (evA cl b))) (hr : ∀ x y H Q, rO2 X.K o x y H Q → r x y H Q) :
    PE X e (toTE X.K xa Z (ev cl (.o2 o a b))) := by
  refine pe_imp (h _ _ ha hb) fun σ H Q ⟨F, E, S, p⟩ => ?_
  unfold ev at p
  refine ⟨F, E, S, (Post.bind_ p).mono fun x E1 F1 H1 _ S1 x1 p2 v rv => ?_⟩
  refine ⟨F1, E1, S1, (Post.bind_ p2).mono fun y E2 F2 H2 _ S2 x2 p3 u ru => ?_⟩
  obtain ⟨w, e1, p4⟩ := Post.lift_ p3
  obtain ⟨ws, e2, e3⟩ := bind_some' e1
  obtain ⟨w0, u0, rfl, q1, q2⟩ := resolve_two e2
  exact hr v u H2 Q ⟨F2, w0, u0, w, S2.le, (rv.carry x2).use S2 q1, ru.use S2 q2, e3, K1.of_post S2 (fun b z => x2.thr b (x1.thr b z)) p4⟩

/-! ### given out of hand -/
theorem dd_of {e : Expr} {x : IE} {g : Sto → Res D} (h : PE X e (toTE X.K xa Z (ev cl x))) (hg : ∀ E, g E = (ev cl x E).bind fun w E1 => Res.lift w.frz E1) : PE X e (toTD X.K xa Z g) := by
  refine pe_imp (pe_lk h) fun σ H Q ⟨F, E, S, p⟩ => ?_
  rw [hg] at p
  refine ⟨F, E, S, (Post.bindB p).mono fun w E1 F1 H1 _ S1 x1 p2 v r => ?_⟩
  obtain ⟨d, e1, p3⟩ := Post.liftB p2
  cases w with
  | fz d0 =>
    cases e1
    exact .inl (p3 F1 H1 S1 x1 v r.1)
  | ol ds =>
    cases e1
    obtain ⟨F2, S2, l2, n2, r2⟩ := S1.freezeT r
    exact .inl (p3 F2 H1 S2 (x1.widen l2 n2) v r2)
  | od t kvs =>
    cases t with
    | true => cases e1
    | false =>
      cases e1
      obtain ⟨a, u, rfl, hu, mu, n0, q⟩ := S1.freezeTD r
      refine .inr ⟨a, u, rfl, hu, mu, fun od => ?_⟩
      obtain ⟨S2, l2, r2⟩ := q od
      exact p3 _ _ S2 (x1.lockN n0 hu (free_tm r rfl)) _ r2
  | _ => cases e1

/-- displays: each item is given out of hand -/
def IEs.len : IEs → Nat
  | .nil => 0
  | .cons _ xs => xs.len + 1
  | .star _ xs => xs.len + 1000
def toTDs (K : PySem.W.Frag) (xa : Nat → Addr) (Z : WX) (f : Sto → Res (List D)) : TA := fun σ H Q => ∃ F E, SR K F H E σ ∧ Post K xa Z (f E) F H E σ fun ds E' F' H' => ∀ vs, RFs F' vs ds → Q vs H'
theorem pa_imp {es : List Expr} {t t' : TA} (h : PA X es t) (f : ∀ σ H Q, t' σ H Q → t σ H Q) : PA X es t' := ⟨fun pos pins s σ H Q I q => h.run pos pins s σ H Q I (f σ H Q q)⟩
theorem dds_nil : PA X [] (toTDs X.K xa Z (evDs cl .nil)) := by
  refine pa_imp pa_nil fun σ H Q ⟨F, E, S, p⟩ => ?_
  unfold evDs at p
  exact p F H S (Ext.refl ..) [] .nil
theorem dds_cons {e : Expr} {es : List Expr} {x : IE} {xs : IEs} (h : PE X e (toTE X.K xa Z (ev cl x))) (hs : PA X es (toTDs X.K xa Z (evDs cl xs))) (hst : starEach (e :: es) X.env = (false, eval e X.env) :: starEach es X.env) : PA X (e :: es) (toTDs X.K xa Z (evDs cl (.cons x xs))) := by
  have hd : PE X e (toTD X.K xa Z (fun E => (ev cl x E).bind fun w E1 => Res.lift w.frz E1)) := dd_of h fun _ => rfl
  refine pa_imp (pa_cons hd hs hst) fun σ H Q ⟨F, E, S, p⟩ => ?_
  have p2 : Post X.K xa Z (((ev cl x E).bind fun w E1 => Res.lift w.frz E1).bind fun d E2 => (evDs cl xs E2).bind fun ds E3 => .ok (d :: ds) E3) F H E σ (fun ds E' F' H' => ∀ vs, RFs F' vs ds → Q vs H') := by
    unfold evDs at p
    cases q : ev cl x E with
    | stuck =>
      rw [q] at p
      exact p.elim
    | exc c E1 =>
      rw [q] at p
      exact p
    | ok w E1 =>
      rw [q] at p
      exact p
  refine ⟨F, E, S, (Post.bind_ p2).mono fun d E1 F1 H1 _ S1 x1 p3 v r => ?_⟩
  refine ⟨F1, E1, S1, (Post.bind_ p3).mono fun ds E2 F2 H2 _ S2 x2 p4 vs rs => ?_⟩
  exact p4 F2 H2 S2 (Ext.refl ..) (v :: vs) (.cons (r.up x2.fle) rs)
theorem evDs_len : ∀ {xs : IEs} {E E1 : Sto} {ds : List D}, evDs cl xs E = .ok ds E1 → ds.length ≤ xs.len
  | .nil, _, _, _, h => by
    unfold evDs at h
    cases h
    exact Nat.zero_le _
  | .cons x xs, E, E1, ds, h => by
    unfold evDs at h
    cases q : ev cl x E with
    | stuck =>
      rw [q] at h
      cases h
    | exc c E1 =>
      rw [q] at h
      cases h
    | ok w E2 =>
      rw [q] at h
      simp only [Res.bind_ok] at h
      cases q2 : w.frz with
      | none =>
        rw [q2] at h
        cases h
      | some d =>
        rw [q2] at h
        simp only [Res.lift_some, Res.bind_ok] at h
        cases q3 : evDs cl xs E2 with
        | stuck =>
          rw [q3] at h
          cases h
        | exc c E1 =>
          rw [q3] at h
          cases h
        | ok es E3 =>
          rw [q3] at h
          cases h
          have := evDs_len q3
          show es.length + 1 ≤ xs.len + 1
          omega
  | .star x xs, E, E1, ds, h => by
    unfold evDs at h
    cases q : ev cl x E with
    | stuck =>
      rw [q] at h
      cases h
    | exc c E1 =>
      rw [q] at h
      cases h
    | ok w E2 =>
      rw [q] at h
      simp only [Res.bind_ok] at h
      cases q2 : (w.frz.bind fun d => (W.fz d).items?) with
      | none =>
        rw [q2] at h
        cases h
      | some d =>
        rw [q2] at h
        simp only [Res.lift_some, Res.bind_ok] at h
        split at h
        · rename_i hz
          cases q3 : evDs cl xs E2 with
          | stuck =>
            rw [q3] at h
            cases h
          | exc c E1 =>
            rw [q3] at h
            cases h
          | ok es E3 =>
            rw [q3] at h
            cases h
            have := evDs_len q3
            show (d ++ es).length ≤ xs.len + 1000
            rw [List.length_append]
            omega
        · cases h
theorem de_tup {es : List Expr} {xs : IEs} {k : Nat} {pos : Pos} (h : PA X es (toTDs X.K xa Z (evDs cl xs))) (hz : decide (xs.len ≤ 1000000) = true) : PE X (.Tuple es k pos) (toTE X.K xa Z (ev cl (.dsp true xs))) := by
  refine pe_imp (pe_tup h) fun σ H Q ⟨F, E, S, p⟩ => ?_
  unfold ev at p
  refine ⟨F, E, S, (Post.bind_ p).mono fun ds E1 F1 H1 q S1 x1 p2 vs r => ⟨?_, fun a ha => ?_⟩⟩
  · rw [line_eq, r.len]
    have := evDs_len q
    have := of_decide_eq_true hz
    unfold lineN
    omega
  · have k1 : K1 X.K H1 Q F1 (.fz (.tuple ds)) := K1.of_post S1 x1.thr p2
    exact k1.tup S1.le (by have := evDs_len q; have := of_decide_eq_true hz; unfold lineN; omega) r ha
theorem de_lst {es : List Expr} {xs : IEs} {pos : Pos} (h : PA X es (toTDs X.K xa Z (evDs cl xs))) (hz : decide (xs.len ≤ 1000000) = true) : PE X (.List es pos) (toTE X.K xa Z (ev cl (.dsp false xs))) := by
  refine pe_imp (pe_lst h) fun σ H Q ⟨F, E, S, p⟩ => ?_
  unfold ev at p
  refine ⟨F, E, S, (Post.bind_ p).mono fun ds E1 F1 H1 q S1 x1 p2 vs r => ⟨?_, fun a ha => ?_⟩⟩
  · rw [line_eq, r.len]
    have := evDs_len q
    have := of_decide_eq_true hz
    unfold lineN
    omega
  · have k1 : K1 X.K H1 Q F1 (.ol ds) := K1.of_post S1 x1.thr p2
    exact k1.lst S1.le (by have := evDs_len q; have := of_decide_eq_true hz; unfold lineN; omega) r ha

/-! ### slices -/
def toTO (K : PySem.W.Frag) (xa : Nat → Addr) (Z : WX) (f : Sto → Res (Option Int)) : TO := fun σ H Q => ∃ F E, SR K F H E σ ∧ Post K xa Z (f E) F H E σ fun o E' F' H' => Q o H'
theorem do_no : PO X none (toTO X.K xa Z (evO cl .no)) := ⟨fun pins s σ H Q I ⟨F, E, S, p⟩ => po_none.run pins s σ H Q I (by
  unfold evO at p
  exact p F H S (Ext.refl ..))⟩
theorem do_yes {e : Expr} {x : IE} (h : PE X e (toTE X.K xa Z (ev cl x))) : PO X (some e) (toTO X.K xa Z (evO cl (.yes x))) := ⟨fun pins s σ H Q I ⟨F, E, S, p⟩ => (po_some h).run pins s σ H Q I (by
  unfold evO at p
  refine ⟨F, E, S, (Post.bind_ p).mono fun w E1 F1 H1 _ S1 x1 p2 v r => ?_⟩
  cases w with
  | fz d =>
    cases d with
    | int i =>
      have r1 : RF F1 v (.int i) := r.1
      cases r1
      exact ⟨i, rfl, p2 F1 H1 S1 (Ext.refl ..)⟩
    | _ => exact p2.elim
  | _ => exact p2.elim)⟩
theorem cut_eq {F : Hp} {xs : List V} {ds : List D} (r : RFs F xs ds) (lo hi : Option Int) : RFs F (cutV xs lo hi) (cutD ds lo hi) := by
  unfold cutV cutD
  rw [r.len]
  exact (r.drop _).take _
theorem cut_le {ds : List D} (h : ds.length ≤ lineN) (lo hi : Option Int) : (cutD ds lo hi).length ≤ lineN := by
  unfold cutD
  rw [List.length_take, List.length_drop]
  omega
theorem cut_whole {ds : List D} {lo hi : Option Int} (h : HT.sIx ds.length 0 lo = 0 ∧ HT.sIx ds.length ds.length hi = ds.length) : cutD ds lo hi = ds := by
  unfold cutD
  rw [h.1, h.2, List.drop_zero, Nat.sub_zero, List.take_length]
theorem sl_all : SlR X (fun x lo hi H Q => ∃ F w r, Le F H ∧ RW X.K F H w x ∧ sliceW w lo hi = some r ∧ K1 X.K H Q F r) := by
  have rule : SlR X (fun x lo hi H Q => rSlL X.K x lo hi H Q ∨ rSlA X.K x lo hi H Q) := sl_list.or sl_tupA
  intro pins s σ H x v vl vu lo hi sl Q I rx hs pl pu h
  refine rule pins s σ H x v vl vu lo hi sl Q I rx hs pl pu ?_
  obtain ⟨F, w, r, l, rw1, e, k⟩ := h
  cases w with
  | fz d =>
    cases d with
    | tuple ds =>
      cases e
      cases rw1 with
      | tup a z b =>
        refine .inr ⟨_, _, rfl, SqT.of (l _ _ a), fun q => ?_, fun _ p hp => k.tup l (cut_le z lo hi) (cut_eq b lo hi) hp⟩
        rw [b.len] at q
        rw [cut_whole q] at k
        exact k.val l (.tup a z b)
    | list ds =>
      cases e
      cases rw1 with
      | lst a z b => exact .inl ⟨_, _, rfl, SqL.of (l _ _ a), fun p hp => k.lst l (cut_le z lo hi) (cut_eq b lo hi) hp⟩
    | _ => cases e
  | ol ds =>
    cases e
    obtain ⟨a, xs, rfl, h, z, b⟩ := rw1
    exact .inl ⟨_, _, rfl, SqL.of h, fun p hp => k.lst l (cut_le z lo hi) (cut_eq b lo hi) hp⟩
  | lk ds =>
    cases e
    obtain ⟨a, xs, rfl, h, z, b⟩ := rw1
    exact .inl ⟨_, _, rfl, SqL.of h, fun p hp => k.lst l (cut_le z lo hi) (cut_eq b lo hi) hp⟩
  | _ => cases e
theorem de_slc {e : Expr} {a : IA} {lo hi : IO} {l h : Option Expr} {p2 pos : Pos} (ha : PE X e (toTA X.K xa Z (evA cl a))) (hl : PO X l (toTO X.K xa Z (evO cl lo))) (hh : PO X h (toTO X.K xa Z (evO cl hi))) :
    PE X (.Subscript e (.Slice l h none p2) pos) (toTE X.K xa Z (ev cl (.slc a lo hi))) := by
  refine pe_imp (pe_slice sl_all ha hl hh) fun σ H Q ⟨F, E, S, p⟩ => ?_
  unfold ev at p
  refine ⟨F, E, S, (Post.bind_ p).mono fun x E1 F1 H1 _ S1 x1 p2 v rv => ?_⟩
  refine ⟨F1, E1, S1, (Post.bind_ p2).mono fun o E2 F2 H2 _ S2 x2 p3 => ?_⟩
  refine ⟨F2, E2, S2, (Post.bind_ p3).mono fun u E3 F3 H3 _ S3 x3 p4 => ?_⟩
  obtain ⟨w, e1, p5⟩ := Post.lift_ p4
  obtain ⟨ws, e2, e3⟩ := bind_some' e1
  obtain ⟨w0, rfl⟩ := resolve_one e2
  exact ⟨F3, w0, w, S3.le, ((rv.carry x2).carry x3).use S3 e2, e3, K1.of_post S3 (fun b z => x3.thr b (x2.thr b (x1.thr b z))) p5⟩

/-! ### tests -/
theorem truth_of {F H : Hp} {d : D} {v : V} (l : Le F H) (r : RF F v d) (hs : ∀ x, d = .str x → x.length ≤ sizeLine) (nd : ∀ kvs, d ≠ .dict kvs) : TruV X.K v H (truthD d) := by
  cases r with
  | non => rfl
  | bl b => rfl
  | int i =>
    show (!decide (i = 0)) = (i != 0)
    by_cases h : i = 0
    · subst h
      rfl
    · rw [decide_eq_false h]
      simp [h]
  | str x =>
    refine ⟨hs x rfl, ?_⟩
    show (!decide (x.length = 0)) = ((x.length : Int) != 0)
    by_cases h : x.length = 0
    · rw [h]
      rfl
    · rw [decide_eq_false h]
      have h2 : ((x.length : Int) != 0) = true := by
        rw [bne_iff_ne]
        omega
      rw [h2]
      rfl
  | lst a _ b =>
    refine .inl ⟨_, SqL.of (l _ _ a), ?_⟩
    cases b <;> rfl
  | tup a _ b =>
    refine .inr (.inl ⟨_, SqT.of (l _ _ a), ?_⟩)
    cases b <;> rfl
  | dk _ _ _ => exact absurd rfl (nd _)
end
end Sf

end

section
set_option maxRecDepth 100000
set_option maxHeartbeats 1000000
/-! Sf: tests. -/
namespace Sf
open PySem PySem.Spec PyProof.Rows L2
variable [WorldI]
section
variable {X : Cx} {xa : Nat → Addr} {Z : WX} {cl : Nat → List W → CRes}

theorem truthW_of {F H : Hp} {w : W} {v : V} {b : Bool} (l : Le F H) (r : RW X.K F H w v) (e : truthW w = some b) : TruV X.K v H b := by
  cases w with
  | fz d =>
    cases d with
    | str x =>
      obtain ⟨q, rfl⟩ := if_some (show (if x.length ≤ lineN then some (!decide (x.length = 0)) else none) = some b from e)
      exact truth_of l r (fun y e2 => by
        cases e2
        rw [line_eq]
        exact q) fun _ z => nomatch z
    | dict _ => cases e
    | _ =>
      cases e
      exact truth_of l r (fun y e2 => nomatch e2) fun _ z => nomatch z
  | ol ds =>
    cases e
    obtain ⟨a, xs, rfl, h, _, q⟩ := r
    refine .inl ⟨xs, SqL.of h, ?_⟩
    cases q <;> rfl
  | lk ds =>
    cases e
    obtain ⟨a, xs, rfl, h, _, q⟩ := r
    refine .inl ⟨xs, SqL.of h, ?_⟩
    cases q <;> rfl
  | _ => cases e
/-- a test by truth -/
theorem dt_v {e : Expr} {a : IA} (h : PE X e (toTA X.K xa Z (evA cl a))) (he : ∀ whole, isTrue e X.env whole = (do let v ← whole; standAt e.pos; holding [v] (truthy v))) : PT X e (toTT X.K xa Z (evT cl (.v a))) := by
  refine pt_imp (pt_truth h he) fun σ H Q ⟨F, E, S, p⟩ => ?_
  unfold evT at p
  refine ⟨F, E, S, (Post.bind_ p).mono fun x E1 F1 H1 _ S1 x1 p2 v rv => ?_⟩
  obtain ⟨b, e1, p3⟩ := Post.lift_ p2
  obtain ⟨ws, e2, e3⟩ := bind_some' e1
  obtain ⟨w0, rfl⟩ := resolve_one e2
  exact ⟨b, truthW_of S1.le (rv.use S1 e2) e3, p3 F1 H1 S1 (Ext.refl ..)⟩
/-- a test that is a comparison: what it gives is a truth value -/
def tCmpT (te : TE) : TT := fun σ H Q => te σ H fun x H1 => ∃ k, x = .bl k ∧ Q k H1
theorem dt_cmp {e : Expr} {x : IE} {t : TE} (h : PT X e (tTest t)) (hx : ∀ σ H Q, toTE X.K xa Z (ev cl x) σ H Q → t σ H Q) (hb : ∀ E w E1, ev cl x E = .ok w E1 → ∃ b, w = .fz (.bool b)) : PT X e (toTT X.K xa Z (evT cl (.v (.e x)))) := by
  refine pt_imp h fun σ H Q ⟨F, E, S, p⟩ => hx σ H _ ⟨F, E, S, ?_⟩
  unfold evT evA at p
  cases q : ev cl x E with
  | stuck =>
    rw [q] at p
    exact p.elim
  | exc c E1 =>
    rw [q] at p
    exact p
  | ok w E1 =>
    rw [q] at p
    obtain ⟨b, rfl⟩ := hb E w E1 q
    intro F1 H1 S1 x1 v r
    have r1 : RF F1 v (.bool b) := r.1
    cases r1
    exact ⟨b, rfl, (show Post X.K xa Z (.ok b E1) F H E σ _ from p) F1 H1 S1 x1⟩
theorem dt_no {e : Expr} {t : IT} {pos : Pos} (h : PT X e (toTT X.K xa Z (evT cl t))) : PT X (.UnaryOp .Not e pos) (toTT X.K xa Z (evT cl (.no t))) := by
  refine pt_imp (pt_not h) fun σ H Q ⟨F, E, S, p⟩ => ?_
  unfold evT at p
  exact ⟨F, E, S, (Post.bind_ p).mono fun b E1 F1 H1 _ S1 x1 p2 => p2 F1 H1 S1 (Ext.refl ..)⟩
theorem pw_imp {e : Expr} {t t' : TT} (h : PW X e t) (f : ∀ σ H Q, t' σ H Q → t σ H Q) : PW X e t' := ⟨fun whole pins s σ H Q I q => h.run whole pins s σ H Q I (f σ H Q q)⟩
theorem dw_an1 {e : Expr} {t : IT} {pos : Pos} (h : PT X e (toTT X.K xa Z (evT cl t))) : PW X (.BoolOp .And [e] pos) (toTT X.K xa Z (evT cl t)) := pw_and1 h
theorem dw_or1 {e : Expr} {t : IT} {pos : Pos} (h : PT X e (toTT X.K xa Z (evT cl t))) : PW X (.BoolOp .Or [e] pos) (toTT X.K xa Z (evT cl t)) := pw_or1 h
theorem dw_an {e e2 : Expr} {rest : List Expr} {s t : IT} {pos : Pos} (h : PT X e (toTT X.K xa Z (evT cl s))) (hr : PW X (.BoolOp .And (e2 :: rest) pos) (toTT X.K xa Z (evT cl t))) : PW X (.BoolOp .And (e :: e2 :: rest) pos) (toTT X.K xa Z (evT cl (.an s t))) := by
  refine pw_imp (pw_and h hr) fun σ H Q ⟨F, E, S, p⟩ => ?_
  unfold evT at p
  refine ⟨F, E, S, (Post.bind_ p).mono fun b E1 F1 H1 _ S1 x1 p2 => ?_⟩
  cases b with
  | true => exact ⟨F1, E1, S1, p2⟩
  | false => exact p2 F1 H1 S1 (Ext.refl ..)
theorem dw_or {e e2 : Expr} {rest : List Expr} {s t : IT} {pos : Pos} (h : PT X e (toTT X.K xa Z (evT cl s))) (hr : PW X (.BoolOp .Or (e2 :: rest) pos) (toTT X.K xa Z (evT cl t))) : PW X (.BoolOp .Or (e :: e2 :: rest) pos) (toTT X.K xa Z (evT cl (.or s t))) := by
  refine pw_imp (pw_or h hr) fun σ H Q ⟨F, E, S, p⟩ => ?_
  unfold evT at p
  refine ⟨F, E, S, (Post.bind_ p).mono fun b E1 F1 H1 _ S1 x1 p2 => ?_⟩
  cases b with
  | false => exact ⟨F1, E1, S1, p2⟩
  | true => exact p2 F1 H1 S1 (Ext.refl ..)

/-! ### truth values as values -/
def toVB (K : PySem.W.Frag) (xa : Nat → Addr) (Z : WX) (f : Sto → Res Bool) : TE := fun σ H Q => ∃ F E, SR K F H E σ ∧ Post K xa Z (f E) F H E σ fun b E' F' H' => Q (.bl b) H'
theorem dv_v {e : Expr} {a : IA} (h : PE X e (toTA X.K xa Z (evA cl a))) : PE X e (toVB X.K xa Z (evV cl (.v a))) := by
  refine pe_imp h fun σ H Q ⟨F, E, S, p⟩ => ?_
  unfold evV at p
  refine ⟨F, E, S, (Post.bind_ p).mono fun x E1 F1 H1 _ S1 x1 p2 v rv => ?_⟩
  obtain ⟨b, e1, p3⟩ := Post.lift_ p2
  obtain ⟨ws, e2, e3⟩ := bind_some' e1
  obtain ⟨w0, rfl⟩ := resolve_one e2
  have q := rv.use S1 e2
  cases w0 with
  | fz d =>
    cases d with
    | bool c =>
      cases e3
      cases q
      exact p3 F1 H1 S1 (Ext.refl ..)
    | _ => cases e3
  | _ => cases e3
theorem dv_no {e : Expr} {t : IT} {pos : Pos} (h : PE X e (toVB X.K xa Z (evV cl t))) : PE X (.UnaryOp .Not e pos) (toVB X.K xa Z (evV cl (.no t))) := by
  refine pe_imp (pe_not h) fun σ H Q ⟨F, E, S, p⟩ => ?_
  unfold evV at p
  exact ⟨F, E, S, (Post.bind_ p).mono fun b E1 F1 H1 _ S1 x1 p2 => ⟨b, rfl, p2 F1 H1 S1 (Ext.refl ..)⟩⟩
theorem dv_one {op : BoolOp} {e : Expr} {t : IT} {pos : Pos} (h : PE X e (toVB X.K xa Z (evV cl t))) : PE X (.BoolOp op [e] pos) (toVB X.K xa Z (evV cl t)) := pe_one h
theorem dv_an {e e2 : Expr} {rest : List Expr} {s t : IT} {pos : Pos} (h : PE X e (toVB X.K xa Z (evV cl s))) (hr : PE X (.BoolOp .And (e2 :: rest) pos) (toVB X.K xa Z (evV cl t))) : PE X (.BoolOp .And (e :: e2 :: rest) pos) (toVB X.K xa Z (evV cl (.an s t))) := by
  refine pe_imp (pe_and h hr) fun σ H Q ⟨F, E, S, p⟩ => ?_
  unfold evV at p
  refine ⟨F, E, S, (Post.bind_ p).mono fun b E1 F1 H1 _ S1 x1 p2 => ⟨b, rfl, ?_⟩⟩
  cases b with
  | true => exact ⟨F1, E1, S1, p2⟩
  | false => exact p2 F1 H1 S1 (Ext.refl ..)
theorem dv_or {e e2 : Expr} {rest : List Expr} {s t : IT} {pos : Pos} (h : PE X e (toVB X.K xa Z (evV cl s))) (hr : PE X (.BoolOp .Or (e2 :: rest) pos) (toVB X.K xa Z (evV cl t))) : PE X (.BoolOp .Or (e :: e2 :: rest) pos) (toVB X.K xa Z (evV cl (.or s t))) := by
  refine pe_imp (pe_or h hr) fun σ H Q ⟨F, E, S, p⟩ => ?_
  unfold evV at p
  refine ⟨F, E, S, (Post.bind_ p).mono fun b E1 F1 H1 _ S1 x1 p2 => ⟨b, rfl, ?_⟩⟩
  cases b with
  | false => exact ⟨F1, E1, S1, p2⟩
  | true => exact p2 F1 H1 S1 (Ext.refl ..)
theorem de_tst {e : Expr} {t : IT} (h : PE X e (toVB X.K xa Z (evV cl t))) : PE X e (toTE X.K xa Z (ev cl (.tst t))) := by
  refine pe_imp h fun σ H Q ⟨F, E, S, p⟩ => ?_
  unfold ev at p
  exact ⟨F, E, S, (Post.bind_ p).mono fun b E1 F1 H1 _ S1 x1 p2 => p2 F1 H1 S1 (Ext.refl ..) (.bl b) ⟨.bl b, fun o => nomatch o⟩⟩
theorem de_ite {c a b : Expr} {t : IT} {x y : IE} {pos : Pos} (hc : PT X c (toTT X.K xa Z (evT cl t))) (ha : PE X a (toTE X.K xa Z (ev cl x))) (hb : PE X b (toTE X.K xa Z (ev cl y))) : PE X (.IfExp c a b pos) (toTE X.K xa Z (ev cl (.ite t x y))) := by
  refine pe_imp (pe_ifExp hc ha hb) fun σ H Q ⟨F, E, S, p⟩ => ?_
  unfold ev at p
  refine ⟨F, E, S, (Post.bind_ p).mono fun k E1 F1 H1 _ S1 x1 p2 => ?_⟩
  have wid : ∀ {z : IE}, Post X.K xa Z (ev cl z E1) F1 H1 E1 σ (fun w E' F' H' => ∀ v, Rs X.K F' H' H E' σ w v → Q v H') → toTE X.K xa Z (ev cl z) σ H1 Q := fun {z} p3 =>
    ⟨F1, E1, S1, p3.mono fun w E2 F2 H2 _ S2 x2 k2 v r => k2 v (r.since x1.thr)⟩
  cases k with
  | true => exact wid p2
  | false => exact wid p2

/-! ### chains -/
theorem bool_of {K : PySem.W.Frag} {F H : Hp} {w : W} {v : V} {b : Bool} (r : RW K F H w v) (e : w.bool? = some b) : v = .bl b := by
  cases w with
  | fz d =>
    cases d with
    | bool c =>
      cases e
      cases r
      rfl
    | _ => cases e
  | _ => cases e
theorem K1.imp {K : PySem.W.Frag} {H : Hp} {Q : VK} {F : Hp} {r : W} (h : ∀ F' H' v, Grow F H F' H' → Rn K F' H' H r v → Q v H') : K1 K H Q F r := h
theorem de_chn {a' b' c' : Expr} {o o2 : O2} {a b c : IA} {op op2' : CmpOp} (ho : OpR X (compareOp op) (rO2 X.K o)) (ho2 : OpR X (compareOp op2') (rO2 X.K o2))
    (ha : PE X a' (toTA X.K xa Z (evA cl a))) (hb : PE X b' (toTA X.K xa Z (evA cl b))) (hc : PE X c' (toTA X.K xa Z (evA cl c))) :
    ∀ σ H Q, toTE X.K xa Z (ev cl (.chn o o2 a b c)) σ H Q → tChain (rO2 X.K o) (rO2 X.K o2) (toTA X.K xa Z (evA cl a)) (toTA X.K xa Z (evA cl b)) (toTA X.K xa Z (evA cl c)) σ H Q := by
  intro σ H Q ⟨F, E, S, p⟩
  unfold ev at p
  refine ⟨F, E, S, (Post.bind_ p).mono fun x E1 F1 H1 _ S1 x1 p2 v rv => ?_⟩
  refine ⟨F1, E1, S1, (Post.bind_ p2).mono fun y E2 F2 H2 _ S2 x2 p3 u ru => ?_⟩
  obtain ⟨t, e1, p4⟩ := Post.lift_ (Post.bindB p3)
  obtain ⟨ws, e2, e3⟩ := bind_some' e1
  obtain ⟨w0, u0, rfl, q1, q2⟩ := resolve_two e2
  obtain ⟨r0, e4, e5⟩ := bind_some' e3
  refine ⟨F2, w0, u0, r0, S2.le, (rv.carry x2).use S2 q1, ru.use S2 q2, e4, fun F3 H3 z g n => ?_⟩
  have S3 := S2.grow g
  have x3 := Ext.grow S2 g
  have p5 := (p4 F3 H3 S3 x3).rebase x3
  refine ⟨t, bool_of n.1 e5, ?_⟩
  cases t with
  | true =>
    refine ⟨F3, E2, S3, (Post.bind_ p5).mono fun z2 E4 F4 H4 _ S4 x4 p6 q rq => ?_⟩
    obtain ⟨w, e6, p7⟩ := Post.lift_ p6
    obtain ⟨ws2, e7, e8⟩ := bind_some' e6
    obtain ⟨w1, u1, rfl, q3, q4⟩ := resolve_two e7
    exact ⟨F4, w1, u1, w, S4.le, ((ru.carry x3).carry x4).use S4 q3, rq.use S4 q4, e8, K1.of_post S4 (fun b z => x4.thr b (x3.thr b (x2.thr b (x1.thr b z)))) p7⟩
  | false => exact p5 F3 H3 S3 (Ext.refl ..) (.bl false) ⟨.bl false, fun o => nomatch o⟩
end
end Sf

end

section
set_option maxRecDepth 100000
set_option maxHeartbeats 1000000
/-! Sf: calls of the program's own functions. -/
namespace Sf
open PySem PySem.Spec PyProof.Rows L2
variable [WorldI]

/-! ### a promise that is kept where no repr runs -/
structure FnG (P : Program) (w : World) (K : PySem.W.Frag) (mg : Str → Option Value) (base : Heap) (k : Nat) (f : Addr) (fd : FuncData) (ps : List Str) (sp : Sp) : Prop where
  len : ∀ vs H Q E, sp vs H Q E → vs.length = ps.length
  run : ∀ (A : Around) (outer : List Env) (s : Shared) (H : Hp) (args : Args) (us : List Value) (vs : List V) (Q : VK) (E : XK), A.guards = some [] → Room k A → Env0 P w K mg base A outer s H → BindsTo s fd args (ps.zip us) → Vals vs us → sp vs H Q E →
    codeAny (model P w) A (.call (.ref f) args) (CR (L2.CX P w) outer P w H s Q E) s

section
variable {X : Cx} {k : Nat} {f : Addr} {fd : FuncData} {ps : List Str} {sp : Sp} {E : L2.St → XK} {x : Str} {p pos : Pos} {e : Expr} {es : List Expr} {t : TA}
theorem runG {pins : List (Addr × Obj)} {σ : L2.St} {H : Hp} {s : Shared} {Q : VK} {us : List Value} {vs : List V} (G : FnG X.prog X.w X.K X.mg X.base k f fd ps sp) (hg : X.A.guards = some []) (hr : Room k X.A) (hb : Binds X.K fd ps []) (hx : PassesAt (L2.CX X.prog X.w) X σ (E σ))
    (I : Inv X pins σ H s) (r : Vals vs us) (h : sp vs H Q (E σ)) : wpAny (model X.prog X.w) X.A (call (.ref f) us) (EP X pins σ Q) X.xe s := by
  have hl : us.length = ps.length := r.length.symm.trans (G.len _ _ _ _ h)
  have bd := hb s us I.kIn (by rw [List.append_nil]; exact hl)
  rw [List.append_nil] at bd
  refine wpAny_call (codeAny_mono (G.run X.A X.stack s H ⟨us, []⟩ us vs Q (E σ) hg hr I.env0 bd r h) ?_)
  intro rr s1 q
  match rr, q with
  | .error e, q => exact hx pins H s e s1 I q
  | .ok (.ret u), q => exact I.after q
  | .ok .next, q => exact q.elim
  | .ok .brk, q => exact q.elim
  | .ok .cont, q => exact q.elim
def tCallG (sp : Sp) (E : L2.St → XK) (t : TA) : TE := fun σ H Q => t σ H fun vs H1 => sp vs H1 Q (E σ)
theorem pe_callG (G : FnG X.prog X.w X.K X.mg X.base k f fd ps sp) (hgd : X.A.guards = some []) (hr : Room k X.A) (hg : Gl X x) (hm : X.mg x = some (.ref f)) (hk : PySem.W.keepIn X.K (.ref f) = true) (hb : Binds X.K fd ps []) (hx : ∀ σ, PassesAt (L2.CX X.prog X.w) X σ (E σ))
    (ha : PA X (e :: es) t) (hdb : (x == ("__debug__" : Str)) = false) (he : starEach (e :: es) X.env = (false, eval e X.env) :: starEach es X.env) (hpl : (backTo pos (starEach es X.env)).any (·.1) = false) :
    PE X (.Call (.Name x p) (e :: es) [] pos) (tCallG sp E t) := ⟨fun pins s σ H Q I h =>
  wpAny_Call_Name_kw (ld_glob I hg hm (PySem.W.callWith_K (h₀ := X.base) I.ok.mod.kin hk (thn (ha.run pos pins s σ H _ I h) fun _ s1 ⟨_, _, I1, r, q⟩ => ⟨I1.kIn, runG G hgd hr hb (hx σ) I1 r q⟩) he hpl) hdb)⟩
theorem pe_callG0 (G : FnG X.prog X.w X.K X.mg X.base k f fd ps sp) (hgd : X.A.guards = some []) (hr : Room k X.A) (hg : Gl X x) (hm : X.mg x = some (.ref f)) (hk : PySem.W.keepIn X.K (.ref f) = true) (hb : Binds X.K fd ps []) (hx : ∀ σ, PassesAt (L2.CX X.prog X.w) X σ (E σ))
    (hdb : (x == ("__debug__" : Str)) = false) : PE X (.Call (.Name x p) [] [] pos) (tCallG sp E tNil) := ⟨fun pins s σ H Q I h =>
  wpAny_Call_Name_kw (ld_glob I hg hm (PySem.W.callWith_K0 I.kIn hk (runG (us := []) G hgd hr hb (hx σ) I .nil h)) hdb)⟩
end

/-! ### arguments -/
def tmpAt (xs : List (Sum Nat W)) (vs : List V) (j : Nat) (a : Addr) : Prop := ∃ w, xs[j]? = some (.inr w) ∧ w.own = true ∧ vs[j]? = some (.ref a)
structure RAs (K : PySem.W.Frag) (F H H0 : Hp) (E : Sto) (σ : L2.St) (xs : List (Sum Nat W)) (vs : List V) : Prop where
  len : xs.length = vs.length
  at_ : ∀ (j : Nat) x v, xs[j]? = some x → vs[j]? = some v → RA K F H H0 E σ x v
  sep : ∀ (i j : Nat) (a : Addr), tmpAt xs vs i a → tmpAt xs vs j a → i = j
def toTAs (K : PySem.W.Frag) (xa : Nat → Addr) (Z : WX) (f : Sto → Res (List (Sum Nat W))) : TA := fun σ H Q => ∃ F E, SR K F H E σ ∧ Post K xa Z (f E) F H E σ fun xs E' F' H' => ∀ vs, RAs K F' H' H E' σ xs vs → Q vs H'

section
variable {X : Cx} {xa : Nat → Addr} {Z : WX} {cl : Nat → List W → CRes}
theorem das_nil : PA X [] (toTAs X.K xa Z (evAs cl .nil)) := by
  refine pa_imp pa_nil fun σ H Q ⟨F, E, S, p⟩ => ?_
  unfold evAs at p
  exact p F H S (Ext.refl ..) [] ⟨rfl, fun j x v h => by simp at h, fun i j a ⟨w, h, _⟩ => by simp at h⟩
theorem RAs.cons {K : PySem.W.Frag} {F1 H1 F2 H2 H0 : Hp} {E1 E2 : Sto} {σ : L2.St} {x : Sum Nat W} {v : V} {xs : List (Sum Nat W)} {vs : List V} (r : RA K F1 H1 H0 E1 σ x v) (y : Ext F1 H1 E1 σ F2 H2 E2) (t : ∀ b, H0 b ≠ none → H1 b ≠ none) (rs : RAs K F2 H2 H1 E2 σ xs vs) :
    RAs K F2 H2 H0 E2 σ (x :: xs) (v :: vs) := by
  have noHead : ∀ (j : Nat) (a : Addr), tmpAt (x :: xs) (v :: vs) 0 a → tmpAt (x :: xs) (v :: vs) (j + 1) a → False := fun j a ⟨w, h1, h2, h3⟩ ⟨w', h4, h5, h6⟩ => by
    simp only [List.getElem?_cons_zero, Option.some.injEq, List.getElem?_cons_succ] at h1 h3 h4 h6
    subst h1 h3
    have q1 : RW K F1 H1 w (.ref a) := r.1
    obtain ⟨b, e, n⟩ := q1.ref_of_own h2
    cases e
    exact n ((rs.at_ j _ _ h4 h6).2 h5 a rfl).1
  refine ⟨by simp [rs.len], fun j z u h1 h2 => ?_, fun i j a h1 h2 => ?_⟩
  · cases j with
    | zero =>
      simp only [List.getElem?_cons_zero, Option.some.injEq] at h1 h2
      subst h1 h2
      exact r.carry y
    | succ j =>
      simp only [List.getElem?_cons_succ] at h1 h2
      have q := rs.at_ j z u h1 h2
      cases z with
      | inl i => exact q
      | inr w => exact Rs.since q t
  · cases i with
    | zero =>
      cases j with
      | zero => rfl
      | succ j => exact (noHead j a h1 h2).elim
    | succ i =>
      cases j with
      | zero => exact (noHead i a h2 h1).elim
      | succ j =>
        refine congrArg Nat.succ (rs.sep i j a ?_ ?_)
        · obtain ⟨w, q1, q2, q3⟩ := h1
          exact ⟨w, by simpa using q1, q2, by simpa using q3⟩
        · obtain ⟨w, q1, q2, q3⟩ := h2
          exact ⟨w, by simpa using q1, q2, by simpa using q3⟩
theorem das_cons {e : Expr} {es : List Expr} {a : IA} {as : IAs} (h : PE X e (toTA X.K xa Z (evA cl a))) (hs : PA X es (toTAs X.K xa Z (evAs cl as))) (hst : starEach (e :: es) X.env = (false, eval e X.env) :: starEach es X.env) : PA X (e :: es) (toTAs X.K xa Z (evAs cl (.cons a as))) := by
  refine pa_imp (pa_cons h hs hst) fun σ H Q ⟨F, E, S, p⟩ => ?_
  unfold evAs at p
  refine ⟨F, E, S, (Post.bind_ p).mono fun x E1 F1 H1 _ S1 x1 p2 v rv => ?_⟩
  refine ⟨F1, E1, S1, (Post.bind_ p2).mono fun xs E2 F2 H2 _ S2 x2 p3 vs rs => ?_⟩
  exact p3 F2 H2 S2 (Ext.refl ..) (v :: vs) (RAs.cons rv x2 x1.thr rs)
end

/-! ### what a callee is handed -/
theorem resolve_at : ∀ {xs : List (Sum Nat W)} {E : Sto} {ws : List W}, resolve xs E = some ws → ws.length = xs.length ∧ ∀ (j : Nat) w, ws[j]? = some w → (∃ i, xs[j]? = some (.inl i) ∧ getS E i = some w) ∨ xs[j]? = some (.inr w)
  | [], E, ws, h => by
    cases h
    exact ⟨rfl, fun j w e => by simp at e⟩
  | .inr u :: r, E, ws, h => by
    obtain ⟨us, e, rfl⟩ := map_some' (show (resolve r E).map (u :: ·) = some ws from h)
    obtain ⟨h1, h2⟩ := resolve_at e
    refine ⟨by simp [h1], fun j w q => ?_⟩
    cases j with
    | zero =>
      simp at q
      subst q
      exact .inr rfl
    | succ j => exact h2 j w (by simpa using q)
  | .inl i :: r, E, ws, h => by
    obtain ⟨u, g, e0⟩ := bind_some' (show (getS E i).bind (fun w => (resolve r E).map (w :: ·)) = some ws from h)
    obtain ⟨us, e, rfl⟩ := map_some' e0
    obtain ⟨h1, h2⟩ := resolve_at e
    refine ⟨by simp [h1], fun j w q => ?_⟩
    cases j with
    | zero =>
      simp at q
      subst q
      exact .inl ⟨i, rfl, g⟩
    | succ j => exact h2 j w (by simpa using q)
theorem any_inl {r : List (Sum Nat W)} {i j : Nat} (h : r[j]? = some (.inl i)) : (r.any fun x => match x with | .inl j => decide (j = i) | .inr _ => false) = true :=
  List.any_eq_true.mpr ⟨_, List.mem_of_getElem? h, decide_eq_true rfl⟩
theorem apart_at : ∀ {xs : List (Sum Nat W)} {E : Sto}, apart xs E = true → ∀ (j k i : Nat) w, xs[j]? = some (.inl i) → xs[k]? = some (.inl i) → getS E i = some w → w.own = true → j = k
  | [], E, _, j, k, i, w, h1, _, _, _ => by simp at h1
  | .inr u :: r, E, h, j, k, i, w, h1, h2, g, o => by
    cases j with
    | zero => simp at h1
    | succ j =>
      cases k with
      | zero => simp at h2
      | succ k => exact congrArg Nat.succ (apart_at (xs := r) h j k i w (by simpa using h1) (by simpa using h2) g o)
  | .inl i0 :: r, E, h, j, k, i, w, h1, h2, g, o => by
    obtain ⟨q1, q2⟩ := Bool.and_eq_true_iff.mp (show ((match getS E i0 with
      | some w => !w.own || !(r.any fun x => match x with | .inl j => decide (j = i0) | .inr _ => false)
      | none => false) && apart r E) = true from h)
    have clash : ∀ m : Nat, i0 = i → r[m]? = some (.inl i) → False := fun m e q => by
      subst e
      rw [g] at q1
      have q1' : (!w.own || !(r.any fun x => match x with | .inl j => decide (j = i0) | .inr _ => false)) = true := q1
      rw [o, any_inl q] at q1'
      cases q1'
    cases j with
    | zero =>
      cases k with
      | zero => rfl
      | succ k =>
        simp only [List.getElem?_cons_zero, Option.some.injEq, Sum.inl.injEq] at h1
        exact (clash k h1 (by simpa using h2)).elim
    | succ j =>
      cases k with
      | zero =>
        simp only [List.getElem?_cons_zero, Option.some.injEq, Sum.inl.injEq] at h2
        exact (clash j h2 (by simpa using h1)).elim
      | succ k => exact congrArg Nat.succ (apart_at q2 j k i w (by simpa using h1) (by simpa using h2) g o)
theorem apart_tail {x : Sum Nat W} {r : List (Sum Nat W)} {E : Sto} (h : apart (x :: r) E = true) : apart r E = true := by
  cases x with
  | inr u => exact h
  | inl i => exact (Bool.and_eq_true_iff.mp h).2
theorem apart_congr : ∀ {xs : List (Sum Nat W)} {E E1 : Sto}, (∀ (j i : Nat), xs[j]? = some (.inl i) → getS E i = getS E1 i) → apart xs E = true → apart xs E1 = true
  | [], _, _, _, _ => rfl
  | .inr u :: r, E, E1, h, a => apart_congr (xs := r) (fun j i q => h (j + 1) i (by simpa using q)) a
  | .inl i0 :: r, E, E1, h, a => by
    have e := h 0 i0 rfl
    obtain ⟨q1, q2⟩ := Bool.and_eq_true_iff.mp (show ((match getS E i0 with
      | some w => !w.own || !(r.any fun x => match x with | .inl j => decide (j = i0) | .inr _ => false)
      | none => false) && apart r E) = true from a)
    refine Bool.and_eq_true_iff.mpr ⟨?_, apart_congr (xs := r) (fun j i q => h (j + 1) i (by simpa using q)) q2⟩
    rw [← e]
    exact q1
theorem getS_set {E : Sto} {i j : Nat} {w : W} (h : i ≠ j) : getS (setS E i w) j = getS E j := by
  unfold getS
  rw [setS_ne h]
theorem back_at : ∀ {xs : List (Sum Nat W)} {fin : List W} {E : Sto}, apart xs E = true → fin.length = xs.length → ∀ i : Nat,
    (∃ (j : Nat) (w0 w : W), xs[j]? = some (Sum.inl i : Sum Nat W) ∧ getS E i = some w0 ∧ w0.own = true ∧ fin[j]? = some w ∧ (back xs fin E)[i]? = some (some w)) ∨
    ((∀ (j : Nat) (w0 : W), xs[j]? = some (Sum.inl i : Sum Nat W) → getS E i = some w0 → w0.own = false) ∧ (back xs fin E)[i]? = E[i]?)
  | [], [], E, _, _, i => .inr ⟨fun j w0 h => by simp at h, rfl⟩
  | [], _ :: _, _, _, l, _ => by simp at l
  | _ :: _, [], _, _, l, _ => by simp at l
  | .inr u :: r, f :: fs, E, a, l, i => by
    rcases back_at (xs := r) (fin := fs) (E := E) a (by simpa using l) i with ⟨j, w0, w, h1, h2, h3, h4, h5⟩ | ⟨h1, h2⟩
    · exact .inl ⟨j + 1, w0, w, by simpa using h1, h2, h3, by simpa using h4, h5⟩
    · refine .inr ⟨fun j w0 q => ?_, h2⟩
      cases j with
      | zero => simp at q
      | succ j => exact h1 j w0 (by simpa using q)
  | .inl i0 :: r, f :: fs, E, a, l, i => by
    have at2 := apart_tail a
    have go : ∀ E1 : Sto, (∀ (j k : Nat), r[j]? = some (Sum.inl k : Sum Nat W) → getS E k = getS E1 k) → back r fs E1 = back (Sum.inl i0 :: r) (f :: fs) E → (i0 ≠ i → E1[i]? = E[i]?) → (i0 = i → (∃ w0, getS E i = some w0 ∧ w0.own = true) → E1[i]? = some (some f) ∧ ∀ j : Nat, r[j]? ≠ some (Sum.inl i : Sum Nat W)) → (i0 = i → (∀ w0, getS E i = some w0 → w0.own = false) → E1[i]? = E[i]?) →
        (∃ (j : Nat) (w0 w : W), (Sum.inl i0 :: r)[j]? = some (Sum.inl i : Sum Nat W) ∧ getS E i = some w0 ∧ w0.own = true ∧ (f :: fs)[j]? = some w ∧ (back (Sum.inl i0 :: r) (f :: fs) E)[i]? = some (some w)) ∨
        ((∀ (j : Nat) (w0 : W), (Sum.inl i0 :: r)[j]? = some (Sum.inl i : Sum Nat W) → getS E i = some w0 → w0.own = false) ∧ (back (Sum.inl i0 :: r) (f :: fs) E)[i]? = E[i]?) := fun E1 c e n o z => by
      rw [← e]
      by_cases hi : i0 = i
      · by_cases ho : ∃ w0, getS E i = some w0 ∧ w0.own = true
        · obtain ⟨e1, no⟩ := o hi ho
          obtain ⟨w0, g, ow⟩ := ho
          refine .inl ⟨0, w0, f, by rw [hi]; rfl, g, ow, rfl, ?_⟩
          rcases back_at (xs := r) (fin := fs) (E := E1) (apart_congr c at2) (by simpa using l) i with ⟨j, _, _, h1, _⟩ | ⟨_, h2⟩
          · exact absurd h1 (no j)
          · rw [h2]
            exact e1
        · have ho2 : ∀ w0, getS E i = some w0 → w0.own = false := fun w0 g => by
            cases q : w0.own with
            | false => rfl
            | true => exact absurd ⟨w0, g, q⟩ ho
          refine .inr ⟨fun j w0 _ g => ho2 w0 g, ?_⟩
          rcases back_at (xs := r) (fin := fs) (E := E1) (apart_congr c at2) (by simpa using l) i with ⟨j, w0, _, h1, h2, h3, _⟩ | ⟨_, h2⟩
          · rw [← c j i h1] at h2
            rw [ho2 w0 h2] at h3
            cases h3
          · rw [h2]
            exact z hi ho2
      · rcases back_at (xs := r) (fin := fs) (E := E1) (apart_congr c at2) (by simpa using l) i with ⟨j, w0, w, h1, h2, h3, h4, h5⟩ | ⟨h1, h2⟩
        · exact .inl ⟨j + 1, w0, w, by simpa using h1, by rw [c j i h1]; exact h2, h3, by simpa using h4, h5⟩
        · refine .inr ⟨fun j w0 q g => ?_, by rw [h2]; exact n hi⟩
          cases j with
          | zero =>
            simp only [List.getElem?_cons_zero, Option.some.injEq, Sum.inl.injEq] at q
            exact absurd q hi
          | succ j =>
            have q' : r[j]? = some (.inl i) := by simpa using q
            exact h1 j w0 q' (by rw [← c j i q']; exact g)
    have noR : ∀ w0, getS E i0 = some w0 → w0.own = true → ∀ j : Nat, r[j]? ≠ some (Sum.inl i0 : Sum Nat W) := fun w0 g ow j q => by
      have := apart_at a 0 (j + 1) i0 w0 rfl (by simpa using q) g ow
      omega
    cases g : getS E i0 with
    | none =>
      refine go E (fun _ _ _ => rfl) (by simp [back, g]) (fun _ => rfl) (fun e ⟨w0, g2, _⟩ => ?_) fun _ _ => rfl
      rw [← e, g] at g2
      cases g2
    | some w0 =>
      cases ow : w0.own with
      | false =>
        refine go E (fun _ _ _ => rfl) (by simp [back, g, ow]) (fun _ => rfl) (fun e ⟨w1, g2, o2⟩ => ?_) fun _ _ => rfl
        rw [← e, g] at g2
        cases g2
        rw [ow] at o2
        cases o2
      | true =>
        refine go (setS E i0 f) (fun j k q => ?_) (by simp [back, g, ow]) (fun h => setS_ne h) (fun e _ => ?_) fun e h => ?_
        · have hk : i0 ≠ k := fun z => noR w0 g ow j (by rw [z]; exact q)
          exact (getS_set hk).symm
        · subst e
          exact ⟨setS_self (getS_at g), noR w0 g ow⟩
        · subst e
          rw [h w0 g] at ow
          cases ow

section
variable {K : PySem.W.Frag} {F0 H0 F H F' H' : Hp} {E0 E : Sto} {σ : L2.St} {xs : List (Sum Nat W)} {vs : List V} {ws fin : List W}
theorem map_at {α : Type} {l : List α} {j : Nat} {x : α} (h : (l.map some)[j]? = some (some x)) : l[j]? = some x := by
  rw [List.getElem?_map] at h
  cases e : l[j]? with
  | none =>
    rw [e] at h
    cases h
  | some y =>
    rw [e] at h
    cases h
    rfl
theorem at_map {α : Type} {l : List α} {j : Nat} {x : α} (h : l[j]? = some x) : (l.map some)[j]? = some (some x) := by
  rw [List.getElem?_map, h]
  rfl
/-- who owns what a callee is handed -/
theorem own_arg (S : SR K F H E σ) (r : RAs K F H H0 E σ xs vs) (e : resolve xs E = some ws) {j : Nat} {a : Addr} (h : ownAt (ws.map some) (vs.map some) j a) :
    (∃ i w, xs[j]? = some (.inl i) ∧ getS E i = some w ∧ w.own = true ∧ ownAt E σ i a) ∨ tmpAt xs vs j a := by
  obtain ⟨w, h1, h2, h3⟩ := h
  rcases (resolve_at e).2 j w (map_at h1) with ⟨i, q1, q2⟩ | q
  · exact .inl ⟨i, w, q1, q2, h2, w, getS_at q2, h2, r.at_ j _ _ q1 (map_at h3)⟩
  · exact .inr ⟨w, q, h2, map_at h3⟩
theorem mut_arg (S : SR K F H E σ) (r : RAs K F H H0 E σ xs vs) (e : resolve xs E = some ws) {j : Nat} {a : Addr} (h : mutAt (ws.map some) (vs.map some) j a) :
    (∃ i, mutAt E σ i a) ∨ tmpAt xs vs j a := by
  obtain ⟨w, h1, h2, h3⟩ := h
  rcases (resolve_at e).2 j w (map_at h1) with ⟨i, q1, q2⟩ | q
  · exact .inl ⟨i, w, getS_at q2, h2, r.at_ j _ _ q1 (map_at h3)⟩
  · exact .inr ⟨w, q, mu_own h2, map_at h3⟩
theorem args_SR (S : SR K F H E σ) (r : RAs K F H H0 E σ xs vs) (e : resolve xs E = some ws) (ap : apart xs E = true) : SR K F H (ws.map some) (vs.map some) := by
  obtain ⟨hl, hat⟩ := resolve_at e
  refine ⟨by simp [hl, r.len], fun j w h => ?_, fun i j a h1 h2 => ?_, fun j a h => ?_, S.le⟩
  · have hj := map_at h
    have lt : j < vs.length := by
      rw [← r.len, ← hl]
      exact (List.getElem?_eq_some_iff.mp hj).1
    have hv : vs[j]? = some vs[j] := List.getElem?_eq_getElem lt
    refine ⟨vs[j], at_map hv, ?_⟩
    rcases hat j w hj with ⟨i, q1, q2⟩ | q
    · obtain ⟨v, s, rw1⟩ := S.val q2
      have s2 : σ[i]? = some (some vs[j]) := r.at_ j _ _ q1 hv
      rw [s] at s2
      cases s2
      exact rw1
    · exact (r.at_ j _ _ q hv).1
  · rcases own_arg S r e h1 with ⟨k, w, a1, a2, a3, a4⟩ | t1
    · rcases own_arg S r e h2 with ⟨m, u, b1, b2, b3, b4⟩ | t2
      · have := S.sep k m a a4 b4
        subst this
        exact apart_at ap i j k w a1 b1 a2 a3
      · obtain ⟨u, b1, b2, b3⟩ := t2
        exact (((r.at_ j _ _ b1 b3).2 b2 a rfl).2.2 k a4).elim
    · rcases own_arg S r e h2 with ⟨m, u, b1, b2, b3, b4⟩ | t2
      · obtain ⟨w, a1, a2, a3⟩ := t1
        exact (((r.at_ i _ _ a1 a3).2 a2 a rfl).2.2 m b4).elim
      · exact r.sep i j a t1 t2
  · rcases own_arg S r e h with ⟨k, w, a1, a2, a3, a4⟩ | ⟨w, a1, a2, a3⟩
    · exact S.free k a a4
    · exact ((r.at_ j _ _ a1 a3).2 a2 a rfl).2.1
/-- behind the call -/
theorem back_SR (S : SR K F H E σ) (x0 : Ext F0 H0 E0 σ F H E) (r : RAs K F H H0 E σ xs vs) (e : resolve xs E = some ws) (ap : apart xs E = true) (lf : fin.length = xs.length)
    (S' : SR K F' H' (fin.map some) (vs.map some)) (x : Ext F H (ws.map some) (vs.map some) F' H' (fin.map some)) : SR K F' H' (back xs fin E) σ ∧ Ext F0 H0 E0 σ F' H' (back xs fin E) ∧ ∀ i a, ownAt (back xs fin E) σ i a → ownAt E σ i a := by
  have hl : (back xs fin E).length = E.length := by
    have : ∀ (xs : List (Sum Nat W)) (fin : List W) (E : Sto), (back xs fin E).length = E.length := by
      intro xs
      induction xs with
      | nil => intro fin E; cases fin <;> rfl
      | cons y r ih =>
        intro fin E
        cases fin with
        | nil => cases y <;> rfl
        | cons f fs =>
          cases y with
          | inr u => exact ih fs E
          | inl i =>
            simp only [back]
            split
            · split
              · rw [ih, setS_len]
              · exact ih fs E
            · exact ih fs E
    exact this xs fin E
  have valAt : ∀ {i j : Nat} {w0 : W}, xs[j]? = some (.inl i) → getS E i = some w0 → ∃ v, σ[i]? = some (some v) ∧ vs[j]? = some v := fun {i j w0} h1 g => by
    obtain ⟨v, s, _⟩ := S.val g
    have lt : j < vs.length := by
      rw [← r.len]
      exact (List.getElem?_eq_some_iff.mp h1).1
    have hv : vs[j]? = some vs[j] := List.getElem?_eq_getElem lt
    have s2 : σ[i]? = some (some vs[j]) := r.at_ j _ _ h1 hv
    rw [s] at s2
    cases s2
    exact ⟨_, s, hv⟩
  -- an owner behind is an owner ahead
  have ownB : ∀ i a, ownAt (back xs fin E) σ i a → ownAt E σ i a ∧ ((∃ (j : Nat) (w0 : W), xs[j]? = some (Sum.inl i : Sum Nat W) ∧ getS E i = some w0 ∧ w0.own = true ∧ ownAt (fin.map some) (vs.map some) j a) ∨ ((∀ (j : Nat) (w0 : W), xs[j]? = some (Sum.inl i : Sum Nat W) → getS E i = some w0 → w0.own = false) ∧ (back xs fin E)[i]? = E[i]?)) := fun i a ⟨w, q1, q2, q3⟩ => by
    rcases back_at ap lf i with ⟨j, w0, w1, h1, h2, h3, h4, h5⟩ | ⟨h1, h2⟩
    · rw [q1] at h5
      cases h5
      obtain ⟨v, s, hv⟩ := valAt h1 h2
      rw [q3] at s
      cases s
      exact ⟨⟨w0, getS_at h2, h3, q3⟩, .inl ⟨j, w0, h1, h2, h3, w, at_map h4, q2, at_map hv⟩⟩
    · exact ⟨⟨w, by rw [← h2]; exact q1, q2, q3⟩, .inr ⟨h1, h2⟩⟩
  have mutB : ∀ i a, mutAt (back xs fin E) σ i a → mutAt E σ i a := fun i a ⟨w, q1, q2, q3⟩ => by
    rcases back_at ap lf i with ⟨j, w0, w1, h1, h2, h3, h4, h5⟩ | ⟨h1, h2⟩
    · rw [q1] at h5
      cases h5
      obtain ⟨v, s, hv⟩ := valAt h1 h2
      rw [q3] at s
      cases s
      obtain ⟨w2, m1, m2, m3⟩ := x.mta j a ⟨w, at_map h4, q2, at_map hv⟩
      rcases (resolve_at e).2 j w2 (map_at m1) with ⟨i2, n1, n2⟩ | n
      · rw [h1] at n1
        cases n1
        exact ⟨w2, getS_at n2, m2, q3⟩
      · rw [h1] at n
        cases n
    · exact ⟨w, by rw [← h2]; exact q1, q2, q3⟩
  -- what stands aside is not the callee's
  have aside : ∀ {i a}, ownAt E σ i a → (∀ (j : Nat) w0, xs[j]? = some (.inl i) → getS E i = some w0 → w0.own = false) → ∀ j, ¬ ownAt (ws.map some) (vs.map some) j a := fun {i a} o h j q => by
    rcases own_arg S r e q with ⟨k, w, a1, a2, a3, a4⟩ | ⟨w, a1, a2, a3⟩
    · have := S.sep i k a o a4
      subst this
      rw [h j w a1 a2] at a3
      cases a3
    · exact ((r.at_ j _ _ a1 a3).2 a2 a rfl).2.2 i o
  refine ⟨⟨by rw [hl]; exact S.len, fun i w q => ?_, fun i j a h1 h2 => S.sep i j a (ownB i a h1).1 (ownB j a h2).1, fun i a h => ?_, S'.le⟩, ⟨x0.fle.trans x.fle, fun b o h n => ?_, fun b h => ?_, fun i b h => x0.own i b (ownB i b h).1, fun i b h => x0.mta i b (mutB i b h), fun b h => x.thr b (x0.thr b h)⟩, fun i a h => (ownB i a h).1⟩
  · rcases back_at ap lf i with ⟨j, w0, w1, h1, h2, h3, h4, h5⟩ | ⟨h1, h2⟩
    · rw [q] at h5
      cases h5
      obtain ⟨v, s, hv⟩ := valAt h1 h2
      obtain ⟨v2, s2, r2⟩ := S'.at_ j w (at_map h4)
      rw [at_map hv] at s2
      cases s2
      exact ⟨v, s, r2⟩
    · rw [h2] at q
      obtain ⟨v, s, r2⟩ := S.at_ i w q
      refine ⟨v, s, r2.keep x.fle fun ow a o e2 e3 => x.keep a o e3 fun j z => ?_⟩
      subst e2
      exact aside ⟨w, q, ow, s⟩ h1 j z.own
  · obtain ⟨o, h | ⟨h1, _⟩⟩ := ownB i a h
    · obtain ⟨j, _, _, _, _, q⟩ := h
      exact S'.free j a q
    · cases z : F' a with
      | none => rfl
      | some u =>
        exfalso
        rcases x.fnew a (by rw [z]; exact fun y => nomatch y) with q | ⟨j, q⟩ | q
        · exact q (S.free i a o)
        · exact aside o h1 j q.own
        · exact o.some_at S q
  · refine x.keep b o (x0.keep b o h n) fun j q => ?_
    rcases mut_arg S r e q with ⟨k, a4⟩ | ⟨w, a1, a2, a3⟩
    · exact n k (x0.mta k b a4)
    · have z := ((r.at_ j _ _ a1 a3).2 a2 b rfl).1
      rw [h] at z
      cases z
  · rcases x.fnew b h with q | ⟨j, q⟩ | q
    · exact x0.fnew b q
    · rcases mut_arg S r e q with ⟨k, a4⟩ | ⟨w, a1, a2, a3⟩
      · exact .inr (.inl ⟨k, x0.mta k b a4⟩)
      · exact .inr (.inr ((r.at_ j _ _ a1 a3).2 a2 b rfl).1)
    · refine .inr (.inr ?_)
      cases z : H0 b with
      | none => rfl
      | some u => exact absurd q (x0.thr b (by rw [z]; exact fun y => nomatch y))
end
end Sf

end

section
set_option maxRecDepth 100000
set_option maxHeartbeats 1000000
/-! Sf: the promise of a function of the program. -/
namespace Sf
open PySem PySem.Spec PyProof.Rows L2
variable [WorldI]

def spF (K : PySem.W.Frag) (xa : Nat → Addr) (cl : List W → CRes) (np : Nat) : Sp := fun vs H Q E => vs.length = np ∧ ∃ F ws, SR K F H (ws.map some) (vs.map some) ∧ (match cl ws with
  | .stuck => False
  | .ret w fin => ∀ F' H' v, SR K F' H' (fin.map some) (vs.map some) → Ext F H (ws.map some) (vs.map some) F' H' (fin.map some) → Rs K F' H' H (fin.map some) (vs.map some) w v → Q v H'
  | .exc c fin => ∀ F' H', SR K F' H' (fin.map some) (vs.map some) → Ext F H (ws.map some) (vs.map some) F' H' (fin.map some) → c.flds = [] ∧ E (.ref (xa c.cls)) none H')

section
variable {X : Cx} {xa : Nat → Addr} {Z : WX} {cl : Nat → List W → CRes}
theorem call_ask {K : PySem.W.Frag} {F H F1 H1 : Hp} {E E1 : Sto} {σ : L2.St} {Q : VK} {f np : Nat} {xs : List (Sum Nat W)} {vs : List V} (hn : ∀ ws, ws.length ≠ np → cl f ws = .stuck) (S1 : SR K F1 H1 E1 σ) (x1 : Ext F H E σ F1 H1 E1) (rs : RAs K F1 H1 H E1 σ xs vs)
    (p : Post K xa Z (callR (cl f) xs E1) F H E σ fun w E' F' H' => ∀ v, Rs K F' H' H E' σ w v → Q v H') : spF K xa (cl f) np vs H1 Q (WE Z σ) := by
  unfold callR at p
  split at p
  · rename_i ap
    cases er : resolve xs E1 with
    | none =>
      rw [er] at p
      exact p.elim
    | some ws =>
      rw [er] at p
      have A := args_SR S1 rs er ap
      have lw : ws.length = vs.length := by
        have := A.len
        simpa using this
      have ln : vs.length = np := by
        by_cases q : ws.length = np
        · rw [← lw]
          exact q
        · have p2 : Post K xa Z (match cl f ws with
            | .stuck => Res.stuck
            | .ret w fin => .ok w (back xs fin E1)
            | .exc c fin => .exc c (back xs fin E1)) F H E σ _ := p
          rw [hn ws q] at p2
          exact p2.elim
      refine ⟨ln, F1, ws, A, ?_⟩
      have p2 : Post K xa Z (match cl f ws with
        | .stuck => Res.stuck
        | .ret w fin => .ok w (back xs fin E1)
        | .exc c fin => .exc c (back xs fin E1)) F H E σ (fun w E' F' H' => ∀ v, Rs K F' H' H E' σ w v → Q v H') := p
      cases ec : cl f ws with
      | stuck =>
        rw [ec] at p2
        exact p2.elim
      | ret w fin =>
        rw [ec] at p2
        intro F2 H2 v S2 x2 r
        have lf : fin.length = xs.length := by
          have := S2.len
          rw [List.length_map, List.length_map] at this
          rw [this, rs.len]
        obtain ⟨S3, x3, o3⟩ := back_SR S1 x1 rs er ap lf S2 x2
        refine p2 F2 H2 S3 x3 v ⟨r.1, fun ow a e => ?_⟩
        obtain ⟨t1, t2, t3⟩ := r.2 ow a e
        have h0 : H a = none := by
          cases z : H a with
          | none => rfl
          | some u => exact absurd t1 (x1.thr a (by rw [z]; exact fun y => nomatch y))
        exact ⟨h0, t2, fun i q => (o3 i a q).some_at S1 t1⟩
      | exc c fin =>
        rw [ec] at p2
        intro F2 H2 S2 x2
        have lf : fin.length = xs.length := by
          have := S2.len
          rw [List.length_map, List.length_map] at this
          rw [this, rs.len]
        obtain ⟨S3, x3, _⟩ := back_SR S1 x1 rs er ap lf S2 x2
        exact p2 F2 H2 S3 x3
  · exact p.elim
theorem de_call {k : Nat} {fa : Addr} {fd : FuncData} {ps : List Str} {f np : Nat} {x : Str} {p pos : Pos} {e : Expr} {es : List Expr} {as : IAs} (tk : Takes X Z) (hn : ∀ ws, ws.length ≠ np → cl f ws = .stuck)
    (G : FnG X.prog X.w X.K X.mg X.base k fa fd ps (spF X.K xa (cl f) np)) (hgd : X.A.guards = some []) (hr : Room k X.A) (hg : Gl X x) (hm : X.mg x = some (.ref fa)) (hk : PySem.W.keepIn X.K (.ref fa) = true) (hb : Binds X.K fd ps [])
    (ha : PA X (e :: es) (toTAs X.K xa Z (evAs cl as))) (hdb : (x == ("__debug__" : Str)) = false) (he : starEach (e :: es) X.env = (false, eval e X.env) :: starEach es X.env) (hpl : (backTo pos (starEach es X.env)).any (·.1) = false) :
    PE X (.Call (.Name x p) (e :: es) [] pos) (toTE X.K xa Z (ev cl (.call f as))) := by
  refine pe_imp (pe_callG (E := WE Z) G hgd hr hg hm hk hb (fun σ => passAt tk σ) ha hdb he hpl) fun σ H Q ⟨F, E, S, q⟩ => ?_
  unfold ev at q
  exact ⟨F, E, S, (Post.bindB q).mono fun xs E1 F1 H1 _ S1 x1 q2 vs rs => call_ask hn S1 x1 rs q2⟩
theorem de_call0 {k : Nat} {fa : Addr} {fd : FuncData} {ps : List Str} {f np : Nat} {x : Str} {p pos : Pos} (tk : Takes X Z) (hn : ∀ ws, ws.length ≠ np → cl f ws = .stuck)
    (G : FnG X.prog X.w X.K X.mg X.base k fa fd ps (spF X.K xa (cl f) np)) (hgd : X.A.guards = some []) (hr : Room k X.A) (hg : Gl X x) (hm : X.mg x = some (.ref fa)) (hk : PySem.W.keepIn X.K (.ref fa) = true) (hb : Binds X.K fd ps [])
    (hdb : (x == ("__debug__" : Str)) = false) : PE X (.Call (.Name x p) [] [] pos) (toTE X.K xa Z (ev cl (.call f .nil))) := by
  refine pe_imp (pe_callG0 (E := WE Z) G hgd hr hg hm hk hb (fun σ => passAt tk σ) hdb) fun σ H Q ⟨F, E, S, q⟩ => ?_
  unfold ev evAs at q
  exact call_ask hn S (Ext.refl ..) ⟨rfl, fun j x v h => by simp at h, fun i j a ⟨w, h, _⟩ => by simp at h⟩ q
end
end Sf

end

section
set_option maxRecDepth 100000
set_option maxHeartbeats 1000000
/-! Sf: statements. -/
namespace Sf
open PySem PySem.Spec PyProof.Rows L2
variable [WorldI]

abbrev bOf (bo : List Bool) (i : Nat) : Bool := bo.getD i false

structure XS (bo : List Bool) (F H : Hp) (E : Sto) (σ : L2.St) (F' H' : Hp) (E' : Sto) (σ' : L2.St) : Prop where
  fle : Le F F'
  keep : ∀ b o, H b = some o → (∀ i, ¬ mutAt E σ i b) → H' b = some o
  fnew : ∀ b, F' b ≠ none → F b ≠ none ∨ (∃ i, mutAt E σ i b) ∨ H b = none
  own : ∀ i b, ownAt E' σ' i b → ownAt E σ i b ∨ (bOf bo i = false ∧ H b = none)
  mta : ∀ i b, mutAt E' σ' i b → (∃ j, mutAt E σ j b) ∨ H b = none
  thr : ∀ b, H b ≠ none → H' b ≠ none
  par : ∀ i, bOf bo i = true → σ'[i]? = σ[i]?
  ln : σ'.length = σ.length

theorem cases_bo (b : Bool) : b = true ∨ b = false := by cases b <;> simp
section
variable {bo : List Bool} {F H F1 H1 F2 H2 : Hp} {E E1 E2 : Sto} {σ σ1 σ2 : L2.St}
theorem XS.refl : XS bo F H E σ F H E σ := ⟨Le.refl F, fun _ _ h _ => h, fun _ h => .inl h, fun i b h => .inl h, fun i b h => .inl ⟨i, h⟩, fun _ h => h, fun _ _ => rfl, rfl⟩
theorem XS.trans (a : XS bo F H E σ F1 H1 E1 σ1) (b : XS bo F1 H1 E1 σ1 F2 H2 E2 σ2) : XS bo F H E σ F2 H2 E2 σ2 := by
  have hn : ∀ x, H1 x = none → H x = none := fun x q => by
    cases z : H x with
    | none => rfl
    | some u => exact absurd q (a.thr x (by rw [z]; exact fun y => nomatch y))
  refine ⟨a.fle.trans b.fle, fun x o h n => b.keep x o (a.keep x o h n) fun i q => ?_, fun x h => ?_, fun i x h => ?_, fun i x h => ?_, fun x h => b.thr x (a.thr x h), fun i q => (b.par i q).trans (a.par i q), b.ln.trans a.ln⟩
  · rcases a.mta i x q with ⟨j, z⟩ | z
    · exact n j z
    · rw [h] at z
      cases z
  · rcases b.fnew x h with q | ⟨i, q⟩ | q
    · exact a.fnew x q
    · rcases a.mta i x q with ⟨j, z⟩ | z
      · exact .inr (.inl ⟨j, z⟩)
      · exact .inr (.inr z)
    · exact .inr (.inr (hn x q))
  · rcases b.own i x h with z | ⟨q, z⟩
    · exact a.own i x z
    · exact .inr ⟨q, hn x z⟩
  · rcases b.mta i x h with ⟨j, q⟩ | q
    · exact a.mta j x q
    · exact .inr (hn x q)
theorem Ext.xs (x : Ext F H E σ F1 H1 E1) : XS bo F H E σ F1 H1 E1 σ :=
  ⟨x.fle, x.keep, x.fnew, fun i b h => .inl (x.own i b h), fun i b h => .inl ⟨i, x.mta i b h⟩, x.thr, fun _ _ => rfl, rfl⟩
end

/-- a value that is handed back -/
def Rt (K : PySem.W.Frag) (bo : List Bool) (F H : Hp) (H0 : Hp) (E0 : Sto) (σ0 : L2.St) (E : Sto) (σ : L2.St) (w : W) (v : V) : Prop :=
  RW K F H w v ∧ (w.own = true → ∀ a, v = .ref a → F a = none ∧ (∀ i, ¬ ownAt E σ i a) ∧ (H0 a = none ∨ ∃ i, bOf bo i = false ∧ ownAt E0 σ0 i a))

section
variable (K : PySem.W.Frag) (xa : Nat → Addr) (Z : WX) (bo : List Bool)
def PostS (r : Res Fl) (F H : Hp) (E : Sto) (σ : L2.St) (D : Ends) : Prop := match r with
  | .stuck => False
  | .ok fl E' => ∀ F' H' σ', SR K F' H' E' σ' → XS bo F H E σ F' H' E' σ' → (match fl with
    | .next => D.nx σ' H'
    | .brk => D.bk σ' H'
    | .cont => D.ct σ' H'
    | .ret w => ∀ v, Rt K bo F' H' H E σ E' σ' w v → D.rt v H')
  | .exc c E' => ∀ F' H' σ', SR K F' H' E' σ' → XS bo F H E σ F' H' E' σ' → c.flds = [] ∧ Z (.ref (xa c.cls)) none σ' H'
def toTS (f : Sto → Res Fl) : TS := fun D σ H => ∃ F E, SR K F H E σ ∧ PostS K xa Z bo (f E) F H E σ D
end

section
variable {K : PySem.W.Frag} {xa : Nat → Addr} {Z : WX} {bo : List Bool} {F H F1 H1 : Hp} {E E1 : Sto} {σ σ1 : L2.St} {D : Ends}
theorem PostS.rebase {r : Res Fl} (h : PostS K xa Z bo r F H E σ D) (x : XS bo F H E σ F1 H1 E1 σ1) : PostS K xa Z bo r F1 H1 E1 σ1 D := by
  cases r with
  | stuck => exact h
  | ok fl E' =>
    intro F' H' σ' S y
    have q := h F' H' σ' S (x.trans y)
    cases fl with
    | next => exact q
    | brk => exact q
    | cont => exact q
    | ret w =>
      refine fun v r => q v ⟨r.1, fun o a e => ?_⟩
      obtain ⟨t1, t2, t3⟩ := r.2 o a e
      refine ⟨t1, t2, ?_⟩
      rcases t3 with t3 | ⟨i, b, t3⟩
      · left
        cases z : H a with
        | none => rfl
        | some u => exact absurd t3 (x.thr a (by rw [z]; exact fun y => nomatch y))
      · rcases x.own i a t3 with y | ⟨_, y⟩
        · exact .inr ⟨i, b, y⟩
        · exact .inl y
  | exc c E' => exact fun F' H' σ' S y => h F' H' σ' S (x.trans y)
/-- behind an evaluation within a statement -/
theorem PostS.of_ev {α : Type} {r : Res α} {g : α → Sto → Res Fl} {k : α → Sto → Hp → Hp → Prop} (h : PostS K xa Z bo (r.bind g) F H E σ D)
    (f : ∀ a E' F' H', r = .ok a E' → SR K F' H' E' σ → Ext F H E σ F' H' E' → PostS K xa Z bo (g a E') F H E σ D → k a E' F' H') : Post K xa Z r F H E σ k := by
  cases r with
  | stuck => exact h
  | ok a E' => exact fun F' H' S x => f a E' F' H' rfl S x h
  | exc c E' => exact fun F' H' S x => h F' H' σ S x.xs
theorem PostS.mono {r : Res Fl} {D' : Ends} (h : PostS K xa Z bo r F H E σ D)
    (n : ∀ E' F' H' σ', r = .ok .next E' → SR K F' H' E' σ' → XS bo F H E σ F' H' E' σ' → D.nx σ' H' → D'.nx σ' H')
    (b : ∀ E' F' H' σ', r = .ok .brk E' → SR K F' H' E' σ' → XS bo F H E σ F' H' E' σ' → D.bk σ' H' → D'.bk σ' H')
    (c : ∀ E' F' H' σ', r = .ok .cont E' → SR K F' H' E' σ' → XS bo F H E σ F' H' E' σ' → D.ct σ' H' → D'.ct σ' H')
    (t : ∀ v H', D.rt v H' → D'.rt v H') : PostS K xa Z bo r F H E σ D' := by
  cases r with
  | stuck => exact h
  | ok fl E' =>
    intro F' H' σ' S y
    have q := h F' H' σ' S y
    cases fl with
    | next => exact n E' F' H' σ' rfl S y q
    | brk => exact b E' F' H' σ' rfl S y q
    | cont => exact c E' F' H' σ' rfl S y q
    | ret w => exact fun v r => t v H' (q v r)
  | exc c E' => exact h
end

section
variable {X : Cx} {xa : Nat → Addr} {Z : WX} {bo : List Bool} {cl : Nat → List W → CRes}

/-! ### blocks -/
theorem dss_nil : PSs X [] (toTS X.K xa Z bo (evS cl bo .skip)) := by
  refine pss_imp pss_nil fun D σ H ⟨F, E, S, p⟩ => ?_
  unfold evS at p
  exact p F H σ S XS.refl
theorem dss_one {st : Stmt} {s : S} (h : PS X st (toTS X.K xa Z bo (evS cl bo s))) : PSs X [st] (toTS X.K xa Z bo (evS cl bo s)) := pss_one h
theorem dss_cons {st : Stmt} {sts : List Stmt} {s t : S} (h : PS X st (toTS X.K xa Z bo (evS cl bo s))) (hs : PSs X sts (toTS X.K xa Z bo (evS cl bo t))) : PSs X (st :: sts) (toTS X.K xa Z bo (evS cl bo (.seq s t))) := by
  refine pss_imp (pss_cons h hs) fun D σ H ⟨F, E, S, p⟩ => ?_
  unfold evS at p
  refine ⟨F, E, S, ?_⟩
  cases q : evS cl bo s E with
  | stuck =>
    rw [q] at p
    exact p.elim
  | exc c E1 =>
    rw [q] at p
    exact p
  | ok fl E1 =>
    rw [q] at p
    cases fl with
    | next => exact fun F1 H1 σ1 S1 x1 => ⟨F1, E1, S1, (show PostS X.K xa Z bo (evS cl bo t E1) F H E σ D from p).rebase x1⟩
    | brk => exact p
    | cont => exact p
    | ret w => exact p
theorem ds_if {c : Expr} {a b : List Stmt} {t : IT} {s u : S} {pos : Pos} (hc : PT X c (toTT X.K xa Z (evT cl t))) (ha : PSs X a (toTS X.K xa Z bo (evS cl bo s))) (hb : PSs X b (toTS X.K xa Z bo (evS cl bo u))) :
    PS X (.If c a b pos) (toTS X.K xa Z bo (evS cl bo (.ifs t s u))) := by
  refine ps_imp (ps_if hc ha hb) fun D σ H ⟨F, E, S, p⟩ => ?_
  unfold evS at p
  refine ⟨F, E, S, p.of_ev fun k E1 F1 H1 _ S1 x1 p2 => ?_⟩
  cases k with
  | true => exact ⟨F1, E1, S1, (show PostS X.K xa Z bo (evS cl bo s E1) F H E σ D from p2).rebase x1.xs⟩
  | false => exact ⟨F1, E1, S1, (show PostS X.K xa Z bo (evS cl bo u E1) F H E σ D from p2).rebase x1.xs⟩
theorem ds_brk {pos : Pos} : PS X (.Break pos) (toTS X.K xa Z bo (evS cl bo .brk)) := by
  refine ps_imp ps_break fun D σ H ⟨F, E, S, p⟩ => ?_
  unfold evS at p
  exact p F H σ S XS.refl
theorem ds_cont {pos : Pos} : PS X (.Continue pos) (toTS X.K xa Z bo (evS cl bo .cont)) := by
  refine ps_imp ps_continue fun D σ H ⟨F, E, S, p⟩ => ?_
  unfold evS at p
  exact p F H σ S XS.refl
theorem ds_pass {pos : Pos} : PS X (.Pass pos) (toTS X.K xa Z bo (evS cl bo .skip)) := by
  refine ps_imp ps_pass fun D σ H ⟨F, E, S, p⟩ => ?_
  unfold evS at p
  exact p F H σ S XS.refl

/-! ### return -/
theorem Rs.rt {K : PySem.W.Frag} {F H H0 : Hp} {E0 E : Sto} {σ : L2.St} {w : W} {v : V} (r : Rs K F H H0 E σ w v) : Rt K bo F H H0 E0 σ E σ w v :=
  ⟨r.1, fun o a e => ⟨(r.2 o a e).2.1, (r.2 o a e).2.2, .inl (r.2 o a e).1⟩⟩
theorem ds_ret {e : Expr} {x : IE} {pos : Pos} (h : PE X e (toTE X.K xa Z (ev cl x))) : PS X (.Return (some e) pos) (toTS X.K xa Z bo (evS cl bo (.ret x))) := by
  refine ps_imp (ps_ret h) fun D σ H ⟨F, E, S, p⟩ => ?_
  unfold evS at p
  exact ⟨F, E, S, p.of_ev fun w E1 F1 H1 _ S1 x1 p2 v r => p2 F1 H1 σ S1 x1.xs v r.rt⟩
theorem ds_retN {pos : Pos} : PS X (.Return none pos) (toTS X.K xa Z bo (evS cl bo (.ret (.con .none)))) := by
  refine ps_imp ps_retN fun D σ H ⟨F, E, S, p⟩ => ?_
  unfold evS ev at p
  exact p F H σ S XS.refl .non ⟨.non, fun o => nomatch o⟩
theorem SR.drop {K : PySem.W.Frag} {F H : Hp} {E : Sto} {σ : L2.St} (S : SR K F H E σ) (i : Nat) : SR K F H (E.set i none) σ ∧ (∀ j a, ownAt (E.set i none) σ j a → ownAt E σ j a ∧ j ≠ i) ∧ ∀ j a, mutAt (E.set i none) σ j a → mutAt E σ j a := by
  have at_ : ∀ {j : Nat} {w : W}, (E.set i none)[j]? = some (some w) → E[j]? = some (some w) ∧ j ≠ i := fun {j w} h => by
    by_cases q : i = j
    · subst q
      by_cases l : i < E.length
      · rw [List.getElem?_set_self l] at h
        cases h
      · rw [List.getElem?_eq_none (by simpa using l)] at h
        cases h
    · rw [List.getElem?_set_ne q] at h
      exact ⟨h, fun z => q z.symm⟩
  have ow : ∀ j a, ownAt (E.set i none) σ j a → ownAt E σ j a ∧ j ≠ i := fun j a ⟨w, h1, h2, h3⟩ => ⟨⟨w, (at_ h1).1, h2, h3⟩, (at_ h1).2⟩
  exact ⟨⟨by rw [List.length_set]; exact S.len, fun j w h => S.at_ j w (at_ h).1, fun j k a h1 h2 => S.sep j k a (ow j a h1).1 (ow k a h2).1, fun j a h => S.free j a (ow j a h).1, S.le⟩, ow, fun j a ⟨w, h1, h2, h3⟩ => ⟨w, (at_ h1).1, h2, h3⟩⟩
theorem ds_rtv {x : Str} {i : Nat} {pos pos' : Pos} (h : PE X (.Name x pos') (tVar i)) : PS X (.Return (some (.Name x pos')) pos) (toTS X.K xa Z bo (evS cl bo (.rtv i))) := by
  by_cases hb : bOf bo i = true
  · have q := ds_ret (X := X) (xa := xa) (Z := Z) (bo := bo) (cl := cl) (pos := pos) (de_var h)
    refine ps_imp q fun D σ H ⟨F, E, S, p⟩ => ⟨F, E, S, ?_⟩
    unfold evS at p
    rw [if_pos hb] at p
    unfold evS ev
    exact p
  · refine ps_imp (ps_ret h) fun D σ H ⟨F, E, S, p⟩ => ?_
    unfold evS at p
    rw [if_neg hb] at p
    have hb2 : bOf bo i = false := by
      cases q : bOf bo i with
      | false => rfl
      | true => exact absurd q hb
    cases g : getS E i with
    | none =>
      rw [g] at p
      exact p.elim
    | some w =>
      rw [g] at p
      obtain ⟨v, s, r⟩ := S.val g
      obtain ⟨S1, o1, m1⟩ := S.drop i
      refine ⟨v, s, ?_⟩
      refine (show PostS X.K xa Z bo (.ok (.ret w) (E.set i none)) F H E σ D from p) F H σ S1 ⟨Le.refl F, fun _ _ q _ => q, fun _ q => .inl q, fun j b q => ?_, fun j b q => .inl ⟨j, m1 j b q⟩, fun _ q => q, fun _ _ => rfl, rfl⟩ v ⟨r, fun o a e => ?_⟩
      · exact .inl (o1 j b q).1
      · subst e
        have oa : ownAt E σ i a := ⟨w, getS_at g, o, s⟩
        exact ⟨S.free i a oa, fun j q => (o1 j a q).2 (S.sep j i a (o1 j a q).1 oa), .inr ⟨i, hb2, oa⟩⟩

/-! ### names are stored -/
theorem SR.storeX {K : PySem.W.Frag} {F H F0 H0 : Hp} {E0 E : Sto} {σ σ0 : L2.St} {w : W} {v : V} (S : SR K F H E σ) (x : XS bo F0 H0 E0 σ0 F H E σ) (r : Rs K F H H0 E σ w v) {i : Nat} (hi : i < σ.length) (hb : bOf bo i = false) :
    SR K F H (setS E i w) (σ.set i (some v)) ∧ XS bo F0 H0 E0 σ0 F H (setS E i w) (σ.set i (some v)) := by
  have hE : i < E.length := by rw [S.len]; exact hi
  have at_ : ∀ {j : Nat} {u : W}, (setS E i w)[j]? = some (some u) → (j = i ∧ u = w) ∨ (j ≠ i ∧ E[j]? = some (some u)) := fun {j u} h => by
    by_cases q : i = j
    · subst q
      unfold setS at h
      rw [List.getElem?_set_self hE] at h
      cases h
      exact .inl ⟨rfl, rfl⟩
    · rw [setS_ne q] at h
      exact .inr ⟨fun z => q z.symm, h⟩
  have sg : ∀ {j : Nat}, j ≠ i → (σ.set i (some v))[j]? = σ[j]? := fun {j} h => List.getElem?_set_ne fun z => h z.symm
  have ss : (σ.set i (some v))[i]? = some (some v) := List.getElem?_set_self hi
  have ow : ∀ j a, ownAt (setS E i w) (σ.set i (some v)) j a → (j = i ∧ w.own = true ∧ v = .ref a) ∨ (j ≠ i ∧ ownAt E σ j a) := fun j a ⟨u, h1, h2, h3⟩ => by
    rcases at_ h1 with ⟨e, e2⟩ | ⟨e, h⟩
    · subst e e2
      rw [ss] at h3
      cases h3
      exact .inl ⟨rfl, h2, rfl⟩
    · rw [sg e] at h3
      exact .inr ⟨e, u, h, h2, h3⟩
  have mw : ∀ j a, mutAt (setS E i w) (σ.set i (some v)) j a → (w.own = true ∧ v = .ref a) ∨ mutAt E σ j a := fun j a ⟨u, h1, h2, h3⟩ => by
    rcases at_ h1 with ⟨e, e2⟩ | ⟨e, h⟩
    · subst e e2
      rw [ss] at h3
      cases h3
      exact .inl ⟨mu_own h2, rfl⟩
    · rw [sg e] at h3
      exact .inr ⟨u, h, h2, h3⟩
  refine ⟨⟨by rw [setS_len, List.length_set]; exact S.len, fun j u h => ?_, fun j k a h1 h2 => ?_, fun j a h => ?_, S.le⟩, ⟨x.fle, x.keep, x.fnew, fun j b h => ?_, fun j b h => ?_, x.thr, fun j q => ?_, by rw [List.length_set]; exact x.ln⟩⟩
  · rcases at_ h with ⟨e, e2⟩ | ⟨e, h⟩
    · subst e e2
      exact ⟨v, ss, r.1⟩
    · rw [sg e]
      exact S.at_ j u h
  · rcases ow j a h1 with ⟨e1, o1, v1⟩ | ⟨e1, o1⟩
    · rcases ow k a h2 with ⟨e2, o2, v2⟩ | ⟨e2, o2⟩
      · rw [e1, e2]
      · exact ((r.2 o1 a v1).2.2 k o2).elim
    · rcases ow k a h2 with ⟨e2, o2, v2⟩ | ⟨e2, o2⟩
      · exact ((r.2 o2 a v2).2.2 j o1).elim
      · exact S.sep j k a o1 o2
  · rcases ow j a h with ⟨e1, o1, v1⟩ | ⟨e1, o1⟩
    · exact (r.2 o1 a v1).2.1
    · exact S.free j a o1
  · rcases ow j b h with ⟨e1, o1, v1⟩ | ⟨e1, o1⟩
    · subst e1
      exact .inr ⟨hb, (r.2 o1 b v1).1⟩
    · exact x.own j b o1
  · rcases mw j b h with ⟨o1, v1⟩ | o1
    · exact .inr (r.2 o1 b v1).1
    · exact x.mta j b o1
  · have : j ≠ i := fun z => by
      subst z
      rw [hb] at q
      cases q
    rw [sg this]
    exact x.par j q
theorem SR.store {K : PySem.W.Frag} {F H F0 H0 : Hp} {E0 E : Sto} {σ : L2.St} {w : W} {v : V} (S : SR K F H E σ) (x : Ext F0 H0 E0 σ F H E) (r : Rs K F H H0 E σ w v) {i : Nat} (hi : i < σ.length) (hb : bOf bo i = false) :
    SR K F H (setS E i w) (σ.set i (some v)) ∧ XS bo F0 H0 E0 σ F H (setS E i w) (σ.set i (some v)) := S.storeX x.xs r hi hb
theorem stoS_ok {E : Sto} {i : Nat} {w : W} {K : PySem.W.Frag} {F H : Hp} {E0 : Sto} {σ : L2.St} {D : Ends} (p : PostS K xa Z bo (stoS bo E i w) F H E0 σ D) : bOf bo i = false ∧ PostS K xa Z bo (.ok .next (setS E i w)) F H E0 σ D := by
  unfold stoS at p
  split at p
  · exact p.elim
  · rename_i h
    refine ⟨?_, p⟩
    cases q : bOf bo i with
    | false => rfl
    | true => exact absurd q h
/-- name = e, by any rule of this form -/
theorem ds_set_of {st : Stmt} {i : Nat} {x : IE} {te : TE} (h : PS X st (tAsg te (gName i))) (hi : i < X.N.length) (ht : ∀ σ H Q, toTE X.K xa Z (ev cl x) σ H Q → te σ H Q) : PS X st (toTS X.K xa Z bo (evS cl bo (.set i x))) := by
  refine ⟨fun pins s σ H D I q => h.run pins s σ H D I ?_⟩
  obtain ⟨F, E, S, p⟩ := q
  unfold evS at p
  refine ht σ H _ ⟨F, E, S, p.of_ev fun w E1 F1 H1 _ S1 x1 p2 v r => ?_⟩
  obtain ⟨hb, p3⟩ := stoS_ok p2
  obtain ⟨S2, x2⟩ := S1.store x1 r (bo := bo) (i := i) (by rw [I.len]; exact hi) hb
  exact p3 F1 H1 _ S2 x2
theorem ds_expr {e : Expr} {x : IE} {pos : Pos} (h : PE X e (toTE X.K xa Z (ev cl x))) (hs : swapsWith e none pos.line X.env = pure false) : PS X (.Expr e pos) (toTS X.K xa Z bo (evS cl bo (.expr x))) := by
  refine ps_imp (ps_expr h hs) fun D σ H ⟨F, E, S, p⟩ => ?_
  unfold evS at p
  exact ⟨F, E, S, p.of_ev fun w E1 F1 H1 _ S1 x1 p2 v r => p2 F1 H1 σ S1 x1.xs⟩
theorem ds_aug {o : O2} {i : Nat} {x : Str} {e : Expr} {y : IE} {op : Operator} {pos pos' : Pos} {g : Int → Int → Int} (hN : X.N.Nodup) (hi : X.N[i]? = some x) (hx : Loc X.env.scope x) (he : PE X e (toTE X.K xa Z (ev cl y))) (ho : PIp X op (ipI g)) (hf : X.fn x = true ∨ X.env.scope.names.lookup x = some .local)
    (hg : (o = .add ∧ g = fun i j => i + j) ∨ (o = .sub ∧ g = fun i j => i - j)) : PS X (.AugAssign (.Name x pos') op e pos) (toTS X.K xa Z bo (evS cl bo (.aug i o y))) := by
  refine ⟨fun pins s σ H D I q => (ps_aug hN hi hx he ho hf).run pins s σ H D I ?_⟩
  obtain ⟨F, E, S, p⟩ := q
  unfold evS at p
  cases gt : getS E i with
  | none =>
    rw [gt] at p
    exact p.elim
  | some w =>
    rw [gt] at p
    cases w with
    | fz d =>
      cases d with
      | int j =>
        obtain ⟨v, s1, r⟩ := S.val gt
        have r2 : RF F v (.int j) := r
        cases r2
        refine ⟨_, s1, F, E, S, ?_⟩
        have p2 : PostS X.K xa Z bo ((ev cl y E).bind fun w E1 => (Res.lift (augW o j w) E1).bind fun u E2 => stoS bo E2 i u) F H E σ D := p
        refine p2.of_ev fun w E1 F1 H1 _ S1 x1 p3 v r => ?_
        have ask : ∃ k, w = .fz (.int k) ∧ PostS X.K xa Z bo (stoS bo E1 i (.fz (.int (g j k)))) F H E σ D := by
          rcases hg with ⟨rfl, rfl⟩ | ⟨rfl, rfl⟩
          · cases w with
            | fz d =>
              cases d with
              | int k => exact ⟨k, rfl, p3⟩
              | _ => exact p3.elim
            | _ => exact p3.elim
          · cases w with
            | fz d =>
              cases d with
              | int k => exact ⟨k, rfl, p3⟩
              | _ => exact p3.elim
            | _ => exact p3.elim
        obtain ⟨k, rfl, p4⟩ := ask
        have r3 : RF F1 v (.int k) := r.1
        cases r3
        refine ⟨j, k, rfl, rfl, ?_⟩
        obtain ⟨hb, p5⟩ := stoS_ok p4
        have lt : i < σ.length := (List.getElem?_eq_some_iff.mp s1).1
        obtain ⟨S2, x2⟩ := S1.store x1 (w := .fz (.int (g j k))) (v := .int (g j k)) ⟨RF.int _, fun o => nomatch o⟩ (bo := bo) (i := i) lt hb
        exact p5 F1 H1 _ S2 x2
      | _ => exact p.elim
    | _ => exact p.elim
end
end Sf

end

section
set_option maxRecDepth 100000
set_option maxHeartbeats 1000000
/-! Sf: walks over a dict that nobody changes any more. -/
namespace Sf
open PySem PySem.Spec PyProof.Rows L2

def EnR (H : Hp) (d : Addr) (o : Obj) (ps : List (V × V)) : Prop := ∃ u, H d = some (.frz o u) ∧ ((∃ es : List (Key × V), u = .dK es ∧ ps = es.map fun p => (kV p.1, p.2)) ∨ ∃ w xs, u = DT w d xs ∧ ps = xs.map fun x => (V.ref x.2.1, x.2.2))
theorem EnR.mono {H H' : Hp} {d : Addr} {o : Obj} {ps : List (V × V)} (h : EnR H d o ps) (l : Le H H') : EnR H' d o ps := let ⟨u, e, r⟩ := h; ⟨u, l _ _ e, r⟩
theorem txr_get {xs : TE3} {ys : TE3v} (r : TXr xs ys) {i : Nat} {x : NestedKey × Addr × V} (e : xs[i]? = some x) : ∃ y, ys[i]? = some y ∧ x.1 = y.1 ∧ x.2.1 = y.2.1 ∧ RelV x.2.2 y.2.2 := paired_get r e
section
variable {X : Cx} {pins : List (Addr × Obj)} {σ : L2.St} {H : Hp} {s : Shared}
theorem frz_at (I : Inv X pins σ H s) {d : Addr} {o : Obj} {ps : List (V × V)} (h : EnR H d o ps) :
    (d == sysModules) = false ∧ s.heap.get? d = some o ∧ o.ExactDict ∧ ∃ (es : Array DictEntry) (ep : Nat), o.data = .dict es ep ∧ es.size = ps.length ∧ ∀ i (hi : i < es.size) k v, ps[i]? = some (k, v) → RelV k es[i].key ∧ RelV v es[i].val := by
  obtain ⟨u, hd, r⟩ := h
  rcases r with ⟨es, rfl, rfl⟩ | ⟨w, xs, rfl, rfl⟩
  · obtain ⟨h1, h2, h3, es', ep, vs, h4, h5, h6, h7⟩ := I.frzK hd
    refine ⟨h1, h2, h3, es', ep, h4, by rw [List.length_map]; exact h5, fun i hi k v e => ?_⟩
    rw [List.getElem?_map] at e
    cases q : es[i]? with
    | none =>
      rw [q] at e
      cases e
    | some p =>
      rw [q] at e
      cases e
      obtain ⟨u, e2, ru⟩ := kv_get (k := p.1) (v := p.2) h6 q
      obtain ⟨es2, ep2, ⟨o2, g1, g2, g3⟩, g4, g5⟩ := h7.dictOf.raw
      rw [h2] at g1
      cases g1
      obtain ⟨rfl, rfl⟩ := dict_ep h4 g3
      obtain ⟨f1, f2⟩ := g5 i hi p.1 u e2
      exact ⟨relV_key f1, by rw [f2]; exact ru⟩
  · obtain ⟨hx, a1, a2, ys, o', es', ep, r, e, c1, c2, c3, c4⟩ := (I.hok d _ hd : _ ∧ _ ∧ _) |> fun ⟨p, q, _⟩ => (⟨p, q⟩ : _ ∧ _)
    rw [hx] at e
    cases e
    have hz : es'.size = ys.length := by
      have := congrArg List.length c3
      simpa using this
    have hl : xs.length = ys.length := Paired.length r
    refine ⟨a1, hx, c1, es', ep, c2, by rw [List.length_map]; omega, fun i hi k v e => ?_⟩
    rw [List.getElem?_map] at e
    cases q : xs[i]? with
    | none =>
      rw [q] at e
      cases e
    | some p =>
      rw [q] at e
      cases e
      obtain ⟨y, e1, e2, e3, e4⟩ := txr_get r q
      have en : es'[i] = entryT w y := by
        have h1 : es'.toList[i]? = some es'[i] := by simp [hi]
        rw [c3, List.getElem?_map, e1] at h1
        exact (Option.some.inj h1).symm
      rw [en]
      exact ⟨by show Value.ref y.2.1 = Value.ref p.2.1; rw [e3], e4⟩
end

def ItI (d : Addr) (o : Obj) (ps : List (V × V)) : It :=
  ⟨fun i H => EnR H d o ps ∧ i < ps.length, fun i H x H' => ∃ T k v, ps[i]? = some (k, v) ∧ x = .ref T ∧ H T = none ∧ H' = upd H T (.tup [k, v]), fun i H => EnR H d o ps ∧ ps.length ≤ i⟩
def ItK (d : Addr) (o : Obj) (ps : List (V × V)) : It :=
  ⟨fun i H => EnR H d o ps ∧ i < ps.length, fun i H x H' => H' = H ∧ ∃ v, ps[i]? = some (x, v), fun i H => EnR H d o ps ∧ ps.length ≤ i⟩
def ItV (d : Addr) (o : Obj) (ps : List (V × V)) : It :=
  ⟨fun i H => EnR H d o ps ∧ i < ps.length, fun i H x H' => H' = H ∧ ∃ k, ps[i]? = some (k, x), fun i H => EnR H d o ps ∧ ps.length ≤ i⟩
section
variable {P : Program} {w : World} {K : PySem.W.Frag} {tg : Expr} {d : Addr} {o : Obj} {es : Array DictEntry} {ep : Nat} {ps : List (V × V)}
theorem turn_keysR (it : Addr) (hod : o.data = .dict es ep) (hn : es.size = ps.length) : Turn P w K tg (ItK d o ps) [it] it (fun i h => h.IsKeyIter it d i es.size ep) where
  mem := by simp
  obj := fun i h st b hb => by
    have e : b = it := by simpa using hb
    subst e
    obtain ⟨oi, e, c, dd⟩ := st
    exact ⟨oi, e, fun v z => by rw [dd] at z; cases z⟩
  keep := fun i h h' st k => st.at fun oi e => k it (by simp) oi e
  item := by
    intro X hP hw hK hc i pins s σ H E I hf st hg
    subst hP hw hK
    obtain ⟨hd, hi⟩ := hg
    obtain ⟨f0, f1, f2, f3, f4, f5⟩ := hf it (by simp)
    obtain ⟨hs, hgd, hx, es', ep', hdt, hsz, rel⟩ := frz_at I hd
    obtain ⟨rfl, rfl⟩ := dict_ep hod hdt
    obtain ⟨⟨k, v⟩, hkv⟩ : ∃ p, ps[i]? = some p := ⟨ps[i], List.getElem?_eq_getElem hi⟩
    refine wpAny_pyNext_keys_item_raw st ⟨o, hgd, hx, hdt⟩ (by omega) fun h' st' sb => ?_
    have I1 : Inv X pins σ H { s with heap := h' } := I.turned (t' := s.toks) (fun b ob hb e => (sb.2 b hb).trans e) f0 f1 f3 f4 f5
    obtain ⟨oi, e, c, dd⟩ := id st'
    exact ⟨_, rfl, go_of (s := { s with heap := h' }) e c dd (by decide) ⟨k, H, I1, (rel i (by omega) k v hkv).1, ⟨rfl, v, hkv⟩, st', fun b hb => (hf b hb).1⟩⟩
  done := by
    intro X hP hw hK hc i pins s σ H E I hf st hg
    subst hP hw hK
    obtain ⟨hd, hi⟩ := hg
    obtain ⟨f0, f1, f2, f3, f4, f5⟩ := hf it (by simp)
    obtain ⟨hs, hgd, hx, es', ep', hdt, hsz, rel⟩ := frz_at I hd
    obtain ⟨rfl, rfl⟩ := dict_ep hod hdt
    exact wpAny_pyNext_keys_end_raw (I.ok.hd hc) st ⟨o, hgd, hx, hdt⟩ (by omega) fun h' eb => ⟨rfl, I.turned (t' := s.toks) (fun b ob hb e => eb b ob hb e) f0 f1 f3 f4 f5⟩
  self := fun A i s Q E st h => wpAny_pyIter_keyiter st h
theorem turn_valsR (it : Addr) (hod : o.data = .dict es ep) (hn : es.size = ps.length) : Turn P w K tg (ItV d o ps) [it] it (fun i h => h.IsValIter it d i es.size ep) where
  mem := by simp
  obj := fun i h st b hb => by
    have e : b = it := by simpa using hb
    subst e
    obtain ⟨oi, e, c, dd⟩ := st
    exact ⟨oi, e, fun v z => by rw [dd] at z; cases z⟩
  keep := fun i h h' st k => st.at fun oi e => k it (by simp) oi e
  item := by
    intro X hP hw hK hc i pins s σ H E I hf st hg
    subst hP hw hK
    obtain ⟨hd, hi⟩ := hg
    obtain ⟨f0, f1, f2, f3, f4, f5⟩ := hf it (by simp)
    obtain ⟨hs, hgd, hx, es', ep', hdt, hsz, rel⟩ := frz_at I hd
    obtain ⟨rfl, rfl⟩ := dict_ep hod hdt
    obtain ⟨⟨k, v⟩, hkv⟩ : ∃ p, ps[i]? = some p := ⟨ps[i], List.getElem?_eq_getElem hi⟩
    refine wpAny_pyNext_values_item_raw st ⟨o, hgd, hx, hdt⟩ (by omega) fun h' st' sb => ?_
    have I1 : Inv X pins σ H { s with heap := h' } := I.turned (t' := s.toks) (fun b ob hb e => (sb.2 b hb).trans e) f0 f1 f3 f4 f5
    obtain ⟨oi, e, c, dd⟩ := id st'
    exact ⟨_, rfl, go_of (s := { s with heap := h' }) e c dd (by decide) ⟨v, H, I1, (rel i (by omega) k v hkv).2, ⟨rfl, k, hkv⟩, st', fun b hb => (hf b hb).1⟩⟩
  done := by
    intro X hP hw hK hc i pins s σ H E I hf st hg
    subst hP hw hK
    obtain ⟨hd, hi⟩ := hg
    obtain ⟨f0, f1, f2, f3, f4, f5⟩ := hf it (by simp)
    obtain ⟨hs, hgd, hx, es', ep', hdt, hsz, rel⟩ := frz_at I hd
    obtain ⟨rfl, rfl⟩ := dict_ep hod hdt
    exact wpAny_pyNext_values_end_raw (I.ok.hd hc) st ⟨o, hgd, hx, hdt⟩ (by omega) fun h' eb => ⟨rfl, I.turned (t' := s.toks) (fun b ob hb e => eb b ob hb e) f0 f1 f3 f4 f5⟩
  self := fun A i s Q E st h => wpAny_pyIter_valiter st h
theorem turn_itemsR {elts : List Expr} {kk : Nat} {tpos : Pos} (it : Addr) (hod : o.data = .dict es ep) (hn : es.size = ps.length) :
    Turn P w K (.Tuple elts kk tpos) (ItI d o ps) [it] it (fun i h => ∃ ok ov, IsItemIter h it d i es.size ep ok ov) where
  mem := by simp
  obj := fun i h st b hb => by
    have e : b = it := by simpa using hb
    subst e
    obtain ⟨ok, ov, e⟩ := st
    exact ⟨_, e, fun v z => nomatch z⟩
  keep := fun i h h' st k => let ⟨ok, ov, e⟩ := st; ⟨ok, ov, k it (by simp) _ e⟩
  item := by
    intro X hP hw hK hc i pins s σ H E I hf st hg
    subst hP hw hK
    obtain ⟨hd, hi⟩ := hg
    obtain ⟨hs, hgd, hx, es', ep', hdt, hsz, rel⟩ := frz_at I hd
    obtain ⟨rfl, rfl⟩ := dict_ep hod hdt
    obtain ⟨⟨k, v⟩, hkv⟩ : ∃ p, ps[i]? = some p := ⟨ps[i], List.getElem?_eq_getElem hi⟩
    obtain ⟨rk, rv⟩ := rel i (by omega) k v hkv
    obtain ⟨ok, ov, he⟩ := st
    have hlt : it < s.heap.objs.size := Heap.lt_size he
    refine wpAny_pyNext_items_item_raw he ⟨o, hgd, hx, hdt⟩ (by omega) fun h' ho hT hz hk => ?_
    refine ⟨_, rfl, wpAny_letOwnedTupleGo_items (s := { s with heap := h' }) ho fun h'' he' sb => ?_⟩
    have hT2 : h''.get? s.heap.objs.size = some { cls := .type "tuple", data := .seq #[es'[i].key, es'[i].val] } := (sb.2 _ (Nat.ne_of_gt hlt)).trans hT
    have new : ObjOk X.prog X.w (upd H s.heap.objs.size (.tup [k, v])) h'' s.heap.objs.size (.tup [k, v]) :=
      ⟨by show 2 ≤ sizeLine; decide, [es'[i].key, es'[i].val], .cons rk (.cons rv .nil), ⟨_, hT2, rfl, _, rfl⟩⟩
    have I1 : Inv X pins σ (upd H s.heap.objs.size (.tup [k, v])) { s with heap := h'' } :=
      I.turnedNew (t' := s.toks) (ch := [it]) (fun b ob hb e => (sb.2 b (by simpa using hb)).trans (hk b ob (by simpa using hb) e)) hf (Nat.le_refl _) new
    refine ⟨.ref s.heap.objs.size, _, I1, rfl, ⟨_, k, v, hkv, rfl, I.hok.fresh (Nat.le_refl _), rfl⟩, ⟨_, _, he'⟩, fun b hb => ?_⟩
    have e : b = it := by simpa using hb
    rw [e, upd_ne (Nat.ne_of_lt hlt)]
    exact (hf it (by simp)).1
  done := by
    intro X hP hw hK hc i pins s σ H E I hf st hg
    subst hP hw hK
    obtain ⟨hd, hi⟩ := hg
    obtain ⟨f0, f1, f2, f3, f4, f5⟩ := hf it (by simp)
    obtain ⟨hs, hgd, hx, es', ep', hdt, hsz, rel⟩ := frz_at I hd
    obtain ⟨rfl, rfl⟩ := dict_ep hod hdt
    obtain ⟨ok, ov, he⟩ := st
    exact wpAny_pyNext_items_end_raw (I.ok.hd hc) he ⟨o, hgd, hx, hdt⟩ (by omega) fun h' eb => ⟨rfl, I.turned (t' := s.toks) (fun b ob hb e => eb b ob hb e) f0 f1 f3 f4 f5⟩
  self := fun A i s Q E st h => let ⟨_, _, e⟩ := st; PySem.W.kcp_self e h
end

def iItR (J : Addr → Obj → List (V × V) → It) (td : TE) : TI := fun σ H R => td σ H fun x H1 => ∃ d o ps, x = .ref d ∧ EnR H1 d o ps ∧ R (J d o ps) H1
section
variable {X : Cx} {tg e : Expr} {td : TE} {apos cpos : Pos}
theorem pi_keysR (he : PE X e td) : PI X tg e (iItR ItK td) := by
  refine ⟨fun pins s σ H R I h => ?_⟩
  refine thn (he.run pins s σ H _ I h) fun u s1 ⟨x, H1, I1, rx, d, o, ps, ex, hd, q⟩ => ?_
  subst ex
  obtain rfl : u = Value.ref d := rx
  obtain ⟨hs, hgd, hx, es, ep, hdt, hsz, rel⟩ := frz_at I1 hd
  exact wpAny_pyIter_dict_raw hs ⟨o, hgd, hx, hdt⟩ (pi_one (tk := s1.toks) I1 _ (turn_keysR _ hdt hsz) ⟨_, Heap.get?_push_size _ rfl, rfl, rfl⟩ q)
theorem pi_valuesR (he : PE X e td) (hbase : attributeBase e "values" X.env (eval e X.env) = eval e X.env := by rfl) (hline : (apos.endLine == cpos.line) = true := by rfl) : PI X tg (.Call (.Attribute e "values" apos) [] [] cpos) (iItR ItV td) := by
  refine ⟨fun pins s σ H R I h => ?_⟩
  refine wpAny_Call_method (T := "dict") (id := "dict.values") hbase rfl hline F.plainAttrs_dict F.slot_dict_values F.type_dict_values (thn (he.run pins s σ H _ I h) fun u s1 ⟨x, H1, I1, rx, d, o, ps, ex, hd, q⟩ => ?_)
  subst ex
  obtain rfl : u = Value.ref d := rx
  obtain ⟨hs, hgd, hx, es, ep, hdt, hsz, rel⟩ := frz_at I1 hd
  have raw : s1.heap.DictRaw d es ep := ⟨o, hgd, hx, hdt⟩
  refine ⟨raw.typeIs, fun b q => ?_, ?_⟩
  · cases q
    exact ⟨o, hgd, hx.2.1⟩
  have I2 : Inv X pins σ H1 { s1 with heap := s1.heap.push { cls := .type "dict_values", data := .fields #[.ref d] } } := I1.kept (t' := s1.toks) fun b ob q => Heap.get?_push_of_some _ q
  have raw2 : (s1.heap.push { cls := .type "dict_values", data := .fields #[.ref d] }).DictRaw d es ep := ⟨o, Heap.get?_push_of_some _ hgd, hx, hdt⟩
  have fin : wpAny (model X.prog X.w) X.A (pyIter (.ref s1.heap.objs.size)) (PIE X pins σ tg R) X.xe { s1 with heap := s1.heap.push { cls := .type "dict_values", data := .fields #[.ref d] } } :=
    wpAny_pyIter_values_raw (d := d) ⟨_, Heap.get?_push_size _ rfl, rfl, rfl⟩ raw2 (pi_one (tk := s1.toks) I2 _ (turn_valsR _ hdt hsz) ⟨_, Heap.get?_push_size _ rfl, rfl, rfl⟩ q)
  show wpAny _ _ (callWith cpos (.builtin "dict.values") [.ref d] [] []) _ X.xe s1
  exact method_meetsIn F.slot_dict_values F.entry_dict_values rfl (PySem.evalArgs_none ⟨rfl, raw.typeIs, F.args_dict_values_1 _, _, meets_dict_values_raw d hs, ⟨es, ep, raw⟩, fin⟩)
theorem pi_itemsR {elts : List Expr} {kk : Nat} {tpos : Pos} (he : PE X e td) (hbase : attributeBase e "items" X.env (eval e X.env) = eval e X.env := by rfl) (hline : (apos.endLine == cpos.line) = true := by rfl) :
    PI X (.Tuple elts kk tpos) (.Call (.Attribute e "items" apos) [] [] cpos) (iItR ItI td) := by
  refine ⟨fun pins s σ H R I h => ?_⟩
  refine wpAny_Call_method (T := "dict") (id := "dict.items") hbase rfl hline F.plainAttrs_dict F.slot_dict_items F.type_dict_items (thn (he.run pins s σ H _ I h) fun u s1 ⟨x, H1, I1, rx, d, o, ps, ex, hd, q⟩ => ?_)
  subst ex
  obtain rfl : u = Value.ref d := rx
  obtain ⟨hs, hgd, hx, es, ep, hdt, hsz, rel⟩ := frz_at I1 hd
  have raw : s1.heap.DictRaw d es ep := ⟨o, hgd, hx, hdt⟩
  refine ⟨raw.typeIs, fun b q => ?_, ?_⟩
  · cases q
    exact ⟨o, hgd, hx.2.1⟩
  have I2 : Inv X pins σ H1 { s1 with heap := s1.heap.push { cls := .type "dict_items", data := .fields #[.ref d] } } := I1.kept (t' := s1.toks) fun b ob q => Heap.get?_push_of_some _ q
  have raw2 : (s1.heap.push { cls := .type "dict_items", data := .fields #[.ref d] }).DictRaw d es ep := ⟨o, Heap.get?_push_of_some _ hgd, hx, hdt⟩
  have fin : wpAny (model X.prog X.w) X.A (pyIter (.ref s1.heap.objs.size)) (PIE X pins σ (.Tuple elts kk tpos) R) X.xe { s1 with heap := s1.heap.push { cls := .type "dict_items", data := .fields #[.ref d] } } :=
    wpAny_pyIter_items_raw (d := d) ⟨_, Heap.get?_push_size _ rfl, rfl, rfl⟩ raw2 (pi_one (tk := s1.toks) I2 _ (turn_itemsR _ hdt hsz) ⟨.none, .none, Heap.get?_push_size _ rfl⟩ q)
  show wpAny _ _ (callWith cpos (.builtin "dict.items") [.ref d] [] []) _ X.xe s1
  exact method_meetsIn F.slot_dict_items F.entry_dict_items rfl (PySem.evalArgs_none ⟨rfl, raw.typeIs, F.args_dict_items_1 _, _, meets_dict_items_raw d hs, ⟨es, ep, raw⟩, fin⟩)
theorem pi_keysMR (he : PE X e td) (hbase : attributeBase e "keys" X.env (eval e X.env) = eval e X.env := by rfl) (hline : (apos.endLine == cpos.line) = true := by rfl) : PI X tg (.Call (.Attribute e "keys" apos) [] [] cpos) (iItR ItK td) := by
  refine ⟨fun pins s σ H R I h => ?_⟩
  refine wpAny_Call_method (T := "dict") (id := "dict.keys") hbase rfl hline F.plainAttrs_dict F.slot_dict_keys F.type_dict_keys (thn (he.run pins s σ H _ I h) fun u s1 ⟨x, H1, I1, rx, d, o, ps, ex, hd, q⟩ => ?_)
  subst ex
  obtain rfl : u = Value.ref d := rx
  obtain ⟨hs, hgd, hx, es, ep, hdt, hsz, rel⟩ := frz_at I1 hd
  have raw : s1.heap.DictRaw d es ep := ⟨o, hgd, hx, hdt⟩
  refine ⟨raw.typeIs, fun b q => ?_, ?_⟩
  · cases q
    exact ⟨o, hgd, hx.2.1⟩
  have I2 : Inv X pins σ H1 { s1 with heap := s1.heap.push { cls := .type "dict_keys", data := .fields #[.ref d] } } := I1.kept (t' := s1.toks) fun b ob q => Heap.get?_push_of_some _ q
  have raw2 : (s1.heap.push { cls := .type "dict_keys", data := .fields #[.ref d] }).DictRaw d es ep := ⟨o, Heap.get?_push_of_some _ hgd, hx, hdt⟩
  have fin : wpAny (model X.prog X.w) X.A (pyIter (.ref s1.heap.objs.size)) (PIE X pins σ tg R) X.xe { s1 with heap := s1.heap.push { cls := .type "dict_keys", data := .fields #[.ref d] } } :=
    wpAny_pyIter_keys_raw (d := d) ⟨_, Heap.get?_push_size _ rfl, rfl, rfl⟩ raw2 (pi_one (tk := s1.toks) I2 _ (turn_keysR _ hdt hsz) ⟨_, Heap.get?_push_size _ rfl, rfl, rfl⟩ q)
  show wpAny _ _ (callWith cpos (.builtin "dict.keys") [.ref d] [] []) _ X.xe s1
  exact method_meetsIn F.slot_dict_keys F.entry_dict_keys rfl (PySem.evalArgs_none ⟨rfl, raw.typeIs, F.args_dict_keys_1 _, _, meets_dict_keys_raw d hs, ⟨es, ep, raw⟩, fin⟩)
end
end Sf

end

section
set_option maxRecDepth 100000
set_option maxHeartbeats 1000000
/-! Sf: loops. -/
namespace Sf
open PySem PySem.Spec PyProof.Rows L2
variable [WorldI]

/-! ### what is walked -/
def Lh (lk : Option (Addr × HO)) (H : Hp) : Prop := ∀ a o, lk = some (a, o) → H a = some o
structure Wk (F0 : Hp) (lk : Option (Addr × HO)) (J : It) (ds : List D) : Prop where
  go : ∀ (i : Nat) d F H, ds[i]? = some d → Le F0 F → Le F H → Lh lk H → J.go i H ∧ ∀ x H', J.yld i H x H' → ∃ F', Grow F H F' H' ∧ RF F' x d
  st : ∀ (i : Nat) F H, ds.length ≤ i → Le F0 F → Le F H → Lh lk H → J.stop i H
  ln : ds.length ≤ lineN
section
variable {K : PySem.W.Frag} {F0 : Hp} {lk : Option (Addr × HO)}
theorem wk_lst {a : Addr} {xs : List V} {ds : List D} (hq : ∀ F H, Le F0 F → Le F H → Lh lk H → SqL K H a xs) (hz : ds.length ≤ lineN) (r : RFs F0 xs ds) : Wk F0 lk (Itl K a) ds where
  go := fun i d F H e l1 l2 h => by
    obtain ⟨v, e2, r2⟩ := r.get e
    refine ⟨⟨xs, v, hq F H l1 l2 h, e2⟩, fun x H' ⟨e3, y⟩ => ?_⟩
    subst e3
    have e4 := y xs (hq F _ l1 l2 h)
    rw [e2] at e4
    cases e4
    exact ⟨F, Grow.refl l2, r2.up l1⟩
  st := fun i F H e l1 l2 h => ⟨xs, hq F H l1 l2 h, by rw [r.len]; exact e⟩
  ln := hz
theorem wk_tup {a : Addr} {xs : List V} {ds : List D} (hq : ∀ F H, Le F0 F → Le F H → Lh lk H → SqT K H a xs) (hz : ds.length ≤ lineN) (r : RFs F0 xs ds) : Wk F0 lk (Itt K a) ds where
  go := fun i d F H e l1 l2 h => by
    obtain ⟨v, e2, r2⟩ := r.get e
    refine ⟨⟨xs, v, hq F H l1 l2 h, e2⟩, fun x H' ⟨e3, y⟩ => ?_⟩
    subst e3
    have e4 := y xs (hq F _ l1 l2 h)
    rw [e2] at e4
    cases e4
    exact ⟨F, Grow.refl l2, r2.up l1⟩
  st := fun i F H e l1 l2 h => ⟨xs, hq F H l1 l2 h, by rw [r.len]; exact e⟩
  ln := hz
theorem wk_rng {lo : Int} {n : Nat} (hz : n ≤ lineN) : Wk F0 lk (Itr lo n) ((List.range n).map fun i => PyData.int (lo + (i : Nat))) where
  go := fun i d F H e l1 l2 h => by
    rw [List.getElem?_map] at e
    by_cases q : i < n
    · rw [List.getElem?_range q] at e
      cases e
      refine ⟨q, fun x H' ⟨e3, y⟩ => ?_⟩
      subst e3 y
      exact ⟨F, Grow.refl l2, .int _⟩
    · rw [List.getElem?_eq_none (by simpa using q)] at e
      cases e
  st := fun i F H e l1 l2 h => by
    rw [List.length_map, List.length_range] at e
    exact e
  ln := by rw [List.length_map, List.length_range]; exact hz
end

def toTI (K : PySem.W.Frag) (xa : Nat → Addr) (Z : WX) (f : Sto → Res (List D)) : TI := fun σ H R => ∃ F E, SR K F H E σ ∧ Post K xa Z (f E) F H E σ fun ds E' F' H' =>
  ∀ J lk, Wk F' lk J ds → Lh lk H' → (∀ a o, lk = some (a, o) → ∀ i, ¬ mutAt E' σ i a) → R J H'

theorem Lh.no {H : Hp} : Lh none H := fun _ _ e => nomatch e

/-- a list that is walked -/
theorem SR.lock {K : PySem.W.Frag} {F H : Hp} {E : Sto} {σ : L2.St} (S : SR K F H E σ) {i : Nat} {ds : List D} (e : E[i]? = some (some (.ol ds))) :
    SR K F H (setS E i (.lk ds)) σ ∧ Ext F H E σ F H (setS E i (.lk ds)) ∧ ∀ a, σ[i]? = some (some (.ref a)) → ∀ j, ¬ mutAt (setS E i (.lk ds)) σ j a := by
  have own' : ∀ j b, ownAt (setS E i (.lk ds)) σ j b → ownAt E σ j b := fun j b ⟨w, q1, q2, q3⟩ => by
    by_cases z : i = j
    · subst z
      exact ⟨_, e, rfl, q3⟩
    · rw [setS_ne z] at q1
      exact ⟨w, q1, q2, q3⟩
  have mut' : ∀ j b, mutAt (setS E i (.lk ds)) σ j b → mutAt E σ j b ∧ j ≠ i := fun j b ⟨w, q1, q2, q3⟩ => by
    by_cases z : i = j
    · subst z
      rw [setS_self e] at q1
      cases q1
      cases q2
    · rw [setS_ne z] at q1
      exact ⟨⟨w, q1, q2, q3⟩, fun y => z y.symm⟩
  refine ⟨⟨by rw [setS_len]; exact S.len, fun j w q => ?_, fun j k b q1 q2 => S.sep j k b (own' j b q1) (own' k b q2), fun j b q => S.free j b (own' j b q), S.le⟩, ⟨Le.refl F, fun b o q _ => q, fun b q => .inl q, own', fun j b q => (mut' j b q).1, fun _ q => q⟩, fun a s j q => ?_⟩
  · by_cases z : i = j
    · subst z
      rw [setS_self e] at q
      cases q
      obtain ⟨v, h1, h2⟩ := S.at_ i _ e
      exact ⟨v, h1, h2⟩
    · rw [setS_ne z] at q
      exact S.at_ j w q
  · exact (mut' j a q).2 (S.sep j i a (mut' j a q).1.own ⟨_, e, rfl, s⟩)

section
variable {X : Cx} {xa : Nat → Addr} {Z : WX} {bo : List Bool} {cl : Nat → List W → CRes} {tg : Expr}

theorem di_its {e : Expr} {x : IE} (h : PE X e (toTE X.K xa Z (ev cl x))) : PI X tg e (toTI X.K xa Z (evR cl (.its x))) := by
  refine ⟨fun pins s σ H R I ⟨F, E, S, p⟩ => ?_⟩
  unfold evR at p
  cases q : ev cl x E with
  | stuck =>
    rw [q] at p
    exact p.elim
  | exc c E1 =>
    rw [q] at p
    refine (pi_list (tg := tg) h).run pins s σ H R I ⟨F, E, S, ?_⟩
    rw [q]
    exact p
  | ok w E1 =>
    rw [q] at p
    obtain ⟨ds, e1, p2⟩ := Post.liftB p
    cases w with
    | fz d =>
      cases d with
      | list xs =>
        cases e1
        refine (pi_list (tg := tg) h).run pins s σ H R I ⟨F, E, S, ?_⟩
        rw [q]
        intro F1 H1 S1 x1 v r
        have r1 : RF F1 v (.list ds) := r.1
        cases r1 with
        | lst a z b => exact ⟨_, rfl, ⟨_, SqL.of (S1.le _ _ a)⟩, p2 F1 H1 S1 x1 _ none (wk_lst (fun F H l1 l2 _ => SqL.of (l2 _ _ (l1 _ _ a))) z b) Lh.no fun _ _ z => nomatch z⟩
      | tuple xs =>
        cases e1
        refine (pi_tup (tg := tg) h).run pins s σ H R I ⟨F, E, S, ?_⟩
        rw [q]
        intro F1 H1 S1 x1 v r
        have r1 : RF F1 v (.tuple ds) := r.1
        cases r1 with
        | tup a z b => exact ⟨_, rfl, ⟨_, SqT.of (S1.le _ _ a)⟩, p2 F1 H1 S1 x1 _ none (wk_tup (fun F H l1 l2 _ => SqT.of (l2 _ _ (l1 _ _ a))) z b) Lh.no fun _ _ z => nomatch z⟩
      | _ => cases e1
    | ol xs =>
      cases e1
      refine (pi_list (tg := tg) h).run pins s σ H R I ⟨F, E, S, ?_⟩
      rw [q]
      intro F1 H1 S1 x1 v r
      obtain ⟨F2, S2, l2, n2, r2⟩ := S1.freezeT r
      have x2 := x1.widen l2 n2
      cases r2 with
      | lst a z b => exact ⟨_, rfl, ⟨_, SqL.of (S2.le _ _ a)⟩, p2 F2 H1 S2 x2 _ none (wk_lst (fun F H l1 l2 _ => SqL.of (l2 _ _ (l1 _ _ a))) z b) Lh.no fun _ _ z => nomatch z⟩
    | od t kvs => cases t <;> cases e1
    | _ => cases e1
theorem di_own {e : Expr} {i : Nat} (h : PE X e (tVar i)) : PI X tg e (toTI X.K xa Z (evR cl (.own i))) := by
  refine ⟨fun pins s σ H R I ⟨F, E, S, p⟩ => ?_⟩
  unfold evR at p
  cases g : getS E i with
  | none =>
    rw [g] at p
    exact p.elim
  | some w =>
    rw [g] at p
    obtain ⟨v, s1, r⟩ := S.val g
    cases w with
    | fz d =>
      cases d with
      | list xs =>
        have p2 := p
        have r1 : RF F v (.list xs) := r
        cases r1 with
        | lst a z b => exact (pi_list (tg := tg) h).run pins s σ H R I ⟨_, s1, _, rfl, ⟨_, SqL.of (S.le _ _ a)⟩, p2 F H S (Ext.refl ..) _ none (wk_lst (fun F H l1 l2 _ => SqL.of (l2 _ _ (l1 _ _ a))) z b) Lh.no fun _ _ z => nomatch z⟩
      | tuple xs =>
        have p2 := p
        have r1 : RF F v (.tuple xs) := r
        cases r1 with
        | tup a z b => exact (pi_tup (tg := tg) h).run pins s σ H R I ⟨_, s1, _, rfl, ⟨_, SqT.of (S.le _ _ a)⟩, p2 F H S (Ext.refl ..) _ none (wk_tup (fun F H l1 l2 _ => SqT.of (l2 _ _ (l1 _ _ a))) z b) Lh.no fun _ _ z => nomatch z⟩
      | _ => exact p.elim
    | ol xs =>
      have p2 := p
      obtain ⟨a, vs, rfl, hh, z, b⟩ := r
      obtain ⟨S1, x1, n1⟩ := S.lock (getS_at g)
      exact (pi_list (tg := tg) h).run pins s σ H R I ⟨_, s1, _, rfl, ⟨_, SqL.of hh⟩, p2 F H S1 x1 _ (some (a, .lst vs)) (wk_lst (fun F H l1 l2 q => SqL.of (q _ _ rfl)) z b) (fun a o e => by cases e; exact hh) fun a o e => by cases e; exact n1 _ s1⟩
    | lk xs =>
      have p2 := p
      obtain ⟨a, vs, rfl, hh, z, b⟩ := r
      refine (pi_list (tg := tg) h).run pins s σ H R I ⟨_, s1, _, rfl, ⟨_, SqL.of hh⟩, p2 F H S (Ext.refl ..) _ (some (a, .lst vs)) (wk_lst (fun F H l1 l2 q => SqL.of (q _ _ rfl)) z b) (fun a o e => by cases e; exact hh) fun a o e j m => ?_⟩
      cases e
      have := S.sep j i _ m.own ⟨_, getS_at g, rfl, s1⟩
      subst this
      obtain ⟨w, q1, q2, _⟩ := m
      rw [getS_at g] at q1
      cases q1
      cases q2
    | _ => exact p.elim

theorem rangeD_some {a b : Int} {ds : List D} (h : rangeD a b = some ds) : (-(2 ^ 62) ≤ a ∧ a < 2 ^ 62 ∧ -(2 ^ 62) ≤ b ∧ b < 2 ^ 62) ∧ (b - a).toNat ≤ lineN ∧ ds = (List.range (b - a).toNat).map fun i => PyData.int (a + (i : Nat)) := by
  unfold rangeD at h
  obtain ⟨q, e⟩ := if_some h
  cases e
  refine ⟨?_, q.2.2.2.2, rfl⟩
  unfold lineN at q
  omega
theorem di_r1 {e : Expr} {n : IE} {p pos : Pos} (hg : Gl X "range") (hm : X.mg "range" = none) (h : PE X e (toTE X.K xa Z (ev cl n))) (hs : starEach [e] X.env = [(false, eval e X.env)]) : PI X tg (.Call (.Name "range" p) [e] [] pos) (toTI X.K xa Z (evR cl (.r1 n))) := by
  refine ⟨fun pins s σ H R I ⟨F, E, S, q⟩ => (pi_range1 hg hm (pa_cons h pa_nil hs) hs).run pins s σ H R I ?_⟩
  unfold evR at q
  refine ⟨F, E, S, (Post.bindB q).mono fun w E1 F1 H1 _ S1 x1 q2 v r => ?_⟩
  cases w with
  | fz d =>
    cases d with
    | int j =>
      obtain ⟨ds, e1, q3⟩ := Post.liftB q2
      obtain ⟨b, bz, rfl⟩ := rangeD_some e1
      have r1 : RF F1 v (.int j) := r.1
      cases r1
      refine ⟨j, rfl, b.2.2.1, b.2.2.2, q3 F1 H1 S1 x1 _ none ?_ Lh.no fun _ _ z => nomatch z⟩
      have : (j - 0).toNat = j.toNat := by rw [Int.sub_zero]
      rw [this] at bz ⊢
      exact wk_rng bz
    | _ => exact q2.elim
  | _ => exact q2.elim
theorem di_r2 {e e2 : Expr} {n m : IE} {p pos : Pos} (hg : Gl X "range") (hm : X.mg "range" = none) (h : PE X e (toTE X.K xa Z (ev cl n))) (h2 : PE X e2 (toTE X.K xa Z (ev cl m))) (hs2 : starEach [e2] X.env = [(false, eval e2 X.env)]) (hs : starEach [e, e2] X.env = [(false, eval e X.env), (false, eval e2 X.env)]) :
    PI X tg (.Call (.Name "range" p) [e, e2] [] pos) (toTI X.K xa Z (evR cl (.r2 n m))) := by
  refine ⟨fun pins s σ H R I ⟨F, E, S, q⟩ => (pi_range2 hg hm (pa_cons h (pa_cons h2 pa_nil hs2) (by rw [hs, hs2])) hs hs2).run pins s σ H R I ?_⟩
  unfold evR at q
  refine ⟨F, E, S, (Post.bind_ q).mono fun w E1 F1 H1 _ S1 x1 q2 v r => ⟨F1, E1, S1, (Post.bindB q2).mono fun u E2 F2 H2 _ S2 x2 q3 v2 r2 => ?_⟩⟩
  cases w with
  | fz d =>
    cases d with
    | int i =>
      cases u with
      | fz d2 =>
        cases d2 with
        | int j =>
          obtain ⟨ds, e1, q4⟩ := Post.liftB q3
          obtain ⟨b, bz, rfl⟩ := rangeD_some e1
          have r1 : RF F1 v (.int i) := r.1
          have r3 : RF F2 v2 (.int j) := r2.1
          cases r1
          cases r3
          exact ⟨i, j, rfl, b, q4 F2 H2 S2 x2 _ none (wk_rng bz) Lh.no fun _ _ z => nomatch z⟩
        | _ => exact q3.elim
      | _ => exact q3.elim
    | _ => exact q3.elim
  | _ => exact q3.elim
end

/-! ### targets -/
def gAll : List Nat → TGs
  | [] => gNil
  | i :: is => gCons (gName i) (gAll is)
def OwB (E : Sto) (σ : L2.St) (E3 : Sto) (σ3 : L2.St) : Prop := (∀ j a, ownAt E3 σ3 j a → ownAt E σ j a) ∧ ∀ j a, mutAt E3 σ3 j a → mutAt E σ j a
def TgOk (K : PySem.W.Frag) (bo : List Bool) (g : TG) (t : Tg) : Prop := ∀ d E E3 F H σ x Q, t.put d E = some E3 → SR K F H E σ → RF F x d → (∀ i ∈ t.slots, i < σ.length ∧ bOf bo i = false) →
  (∀ σ3, SR K F H E3 σ3 → XS bo F H E σ F H E3 σ3 → (∀ j, j ∉ t.slots → σ3[j]? = σ[j]?) → OwB E σ E3 σ3 → Q σ3 H) → g x σ H Q
theorem SR.storeF {K : PySem.W.Frag} {bo : List Bool} {F H : Hp} {E : Sto} {σ : L2.St} {d : D} {v : V} (S : SR K F H E σ) (r : RF F v d) {i : Nat} (hi : i < σ.length) (hb : bOf bo i = false) :
    SR K F H (setS E i (.fz d)) (σ.set i (some v)) ∧ XS bo F H E σ F H (setS E i (.fz d)) (σ.set i (some v)) ∧ OwB E σ (setS E i (.fz d)) (σ.set i (some v)) := by
  have hE : i < E.length := by rw [S.len]; exact hi
  have nt : ∀ {j w}, (setS E i (.fz d))[j]? = some (some w) → w.own = true → i ≠ j ∧ E[j]? = some (some w) := fun {j w} q o => by
    by_cases z : i = j
    · subst z
      unfold setS at q
      rw [List.getElem?_set_self hE] at q
      cases q
      cases o
    · rw [setS_ne z] at q
      exact ⟨z, q⟩
  obtain ⟨S1, x1⟩ := S.store (Ext.refl ..) (w := .fz d) ⟨r, fun o => nomatch o⟩ hi hb
  refine ⟨S1, x1, fun j a ⟨w, q1, q2, q3⟩ => ?_, fun j a ⟨w, q1, q2, q3⟩ => ?_⟩
  · obtain ⟨z, e⟩ := nt q1 q2
    rw [List.getElem?_set_ne z] at q3
    exact ⟨w, e, q2, q3⟩
  · obtain ⟨z, e⟩ := nt q1 (mu_own q2)
    rw [List.getElem?_set_ne z] at q3
    exact ⟨w, e, q2, q3⟩
theorem tg_nm {K : PySem.W.Frag} {bo : List Bool} {i : Nat} : TgOk K bo (gName i) (.nm i) := by
  intro d E E3 F H σ x Q e S r hs q
  cases e
  obtain ⟨h1, h2⟩ := hs i (List.mem_singleton.mpr rfl)
  obtain ⟨S1, x1, o1⟩ := S.storeF r h1 h2
  exact q _ S1 x1 (fun j hj => List.getElem?_set_ne fun z => hj (List.mem_singleton.mpr z.symm)) o1
theorem put_all {K : PySem.W.Frag} {bo : List Bool} : ∀ (is : List Nat) (ds : List D) (xs : List V) (E E3 : Sto) (F H : Hp) (σ : L2.St) (Q : L2.St → Hp → Prop), putAll is (ds.map .fz) E = some E3 → SR K F H E σ → RFs F xs ds → (∀ i ∈ is, i < σ.length ∧ bOf bo i = false) →
    (∀ σ3, SR K F H E3 σ3 → XS bo F H E σ F H E3 σ3 → (∀ j, j ∉ is → σ3[j]? = σ[j]?) → OwB E σ E3 σ3 → Q σ3 H) → gAll is xs σ H Q
  | [], [], _, E, E3, F, H, σ, Q, e, S, .nil, _, q => by
    cases e
    exact ⟨rfl, q σ S XS.refl (fun _ _ => rfl) ⟨fun _ _ h => h, fun _ _ h => h⟩⟩
  | [], _ :: _, _, E, E3, F, H, σ, Q, e, S, _, _, q => by cases e
  | _ :: _, [], _, E, E3, F, H, σ, Q, e, S, _, _, q => by cases e
  | i :: is, d :: ds, _, E, E3, F, H, σ, Q, e, S, .cons (v := v) (vs := vs) r rs, hs, q => by
    obtain ⟨h1, h2⟩ := hs i (List.mem_cons_self ..)
    obtain ⟨S1, x1, o1⟩ := S.storeF r h1 h2
    refine ⟨v, vs, rfl, put_all is ds vs _ E3 F H _ Q e S1 rs (fun j hj => ?_) fun σ3 S3 x3 o3 l3 => q σ3 S3 (x1.trans x3) (fun j hj => ?_) ⟨fun j a h => o1.1 j a (l3.1 j a h), fun j a h => o1.2 j a (l3.2 j a h)⟩⟩
    · rw [List.length_set]
      exact hs j (List.mem_cons_of_mem _ hj)
    · rw [o3 j fun z => hj (List.mem_cons_of_mem _ z)]
      exact List.getElem?_set_ne fun z => hj (by rw [z]; exact List.mem_cons_self ..)
theorem putAll_len : ∀ {is : List Nat} {ws : List W} {E E3 : Sto}, putAll is ws E = some E3 → ws.length = is.length
  | [], [], _, _, _ => rfl
  | [], _ :: _, _, _, e => by cases e
  | _ :: _, [], _, _, e => by cases e
  | i :: is, w :: ws, _, _, e => congrArg Nat.succ (putAll_len (is := is) (ws := ws) e)
theorem tg_tp {K : PySem.W.Frag} {bo : List Bool} {is : List Nat} {n : Nat} (hn : n = is.length) : TgOk K bo (gTup K n (gAll is)) (.tp is) := by
  intro d E E3 F H σ x Q e S r hs q
  cases r with
  | tup a z b =>
    have e2 : putAll is (List.map W.fz _) E = some E3 := e
    have l := putAll_len e2
    rw [List.length_map] at l
    exact ⟨_, _, rfl, SqT.of (S.le _ _ a), by rw [b.len, l, hn], put_all is _ _ E E3 F H σ Q e2 S b hs q⟩
  | _ => cases e

/-! ### behind a loop -/
theorem SR.unlock {K : PySem.W.Frag} {F H : Hp} {E : Sto} {σ : L2.St} (S : SR K F H E σ) (i : Nat) : SR K F H (unlockS E i) σ ∧ (∀ j a, ownAt (unlockS E i) σ j a ↔ ownAt E σ j a) ∧ ∀ j a, mutAt (unlockS E i) σ j a → mutAt E σ j a ∨ (j = i ∧ ownAt E σ i a) := by
  have nop : unlockS E i = E → SR K F H (unlockS E i) σ ∧ (∀ j a, ownAt (unlockS E i) σ j a ↔ ownAt E σ j a) ∧ ∀ j a, mutAt (unlockS E i) σ j a → mutAt E σ j a ∨ (j = i ∧ ownAt E σ i a) := fun e => by
    rw [e]
    exact ⟨S, fun _ _ => Iff.rfl, fun _ _ h => .inl h⟩
  cases g : getS E i with
  | none => exact nop (by unfold unlockS; rw [g])
  | some w =>
    cases w with
    | lk ds =>
      have e : E[i]? = some (some (.lk ds)) := getS_at g
      have eu : unlockS E i = setS E i (.ol ds) := by unfold unlockS; rw [g]
      rw [eu]
      have o1 : ∀ j a, ownAt (setS E i (.ol ds)) σ j a → ownAt E σ j a := fun j b ⟨w, q1, q2, q3⟩ => by
        by_cases z : i = j
        · subst z
          exact ⟨_, e, rfl, q3⟩
        · rw [setS_ne z] at q1
          exact ⟨w, q1, q2, q3⟩
      have o2 : ∀ j a, ownAt E σ j a → ownAt (setS E i (.ol ds)) σ j a := fun j b ⟨w, q1, q2, q3⟩ => by
        by_cases z : i = j
        · subst z
          exact ⟨_, setS_self e, rfl, q3⟩
        · exact ⟨w, by rw [setS_ne z]; exact q1, q2, q3⟩
      refine ⟨⟨by rw [setS_len]; exact S.len, fun j w q => ?_, fun j k b q1 q2 => S.sep j k b (o1 j b q1) (o1 k b q2), fun j b q => S.free j b (o1 j b q), S.le⟩, fun j a => ⟨o1 j a, o2 j a⟩, fun j b ⟨w, q1, q2, q3⟩ => ?_⟩
      · by_cases z : i = j
        · subst z
          rw [setS_self e] at q
          cases q
          obtain ⟨v, h1, h2⟩ := S.at_ i _ e
          exact ⟨v, h1, h2⟩
        · rw [setS_ne z] at q
          exact S.at_ j w q
      · by_cases z : i = j
        · subst z
          exact .inr ⟨rfl, _, e, rfl, q3⟩
        · rw [setS_ne z] at q1
          exact .inl ⟨w, q1, q2, q3⟩
    | _ => exact nop (by unfold unlockS; rw [g])

section
variable {K : PySem.W.Frag} {xa : Nat → Addr} {Z : WX} {bo : List Bool} {cl : Nat → List W → CRes} {F H F1 H1 : Hp} {E E1 : Sto} {σ : L2.St} {D : Ends}
theorem XS.unlock {F' H' : Hp} {E' : Sto} {σ' : L2.St} {i : Nat} {ds : List PyData} (g : getS E i = some (.ol ds)) (S1 : SR K F' H' E' σ') (x1 : Ext F H E σ F1 H1 E1) (y : XS bo F1 H1 E1 σ F' H' E' σ') : XS bo F H E σ F' H' (unlockS E' i) σ' := by
  obtain ⟨_, o, m⟩ := S1.unlock i
  have z := x1.xs.trans y
  refine ⟨z.fle, z.keep, z.fnew, fun j b h => z.own j b ((o j b).mp h), fun j b h => ?_, z.thr, z.par, z.ln⟩
  rcases m j b h with q | ⟨_, q⟩
  · exact z.mta j b q
  · rcases z.own i b q with ⟨w, q1, q2, q3⟩ | ⟨_, q⟩
    · rw [getS_at g] at q1
      cases q1
      exact .inl ⟨i, _, getS_at g, rfl, q3⟩
    · exact .inr q
theorem PostS.locked {r : Res Fl} {src : IR} (x1 : Ext F H E σ F1 H1 E1) (p : PostS K xa Z bo (r.unlock src E) F H E σ D) : PostS K xa Z bo r F1 H1 E1 σ D := by
  have nop : r.unlock src E = r → PostS K xa Z bo r F1 H1 E1 σ D := fun e => by
    rw [e] at p
    exact p.rebase x1.xs
  have nil : (∀ E', src.unlock E E' = E') → PostS K xa Z bo r F1 H1 E1 σ D := fun h => nop (by
    cases r with
    | stuck => rfl
    | ok a E' => exact congrArg (Res.ok a) (h E')
    | exc c E' => exact congrArg (Res.exc c) (h E'))
  cases src with
  | own i =>
    cases g : getS E i with
    | none => exact nil fun E' => by unfold IR.unlock; simp only [g]
    | some w =>
      cases w with
      | ol ds =>
        have eu : ∀ E', (IR.own i).unlock E E' = unlockS E' i := fun E' => by unfold IR.unlock; simp only [g]
        cases r with
        | stuck => exact p
        | ok fl E' =>
          intro F' H' σ' S1 y
          have p2 : PostS K xa Z bo (.ok fl (unlockS E' i)) F H E σ D := by
            rw [← eu E']
            exact p
          have q := p2 F' H' σ' (S1.unlock i).1 (y.unlock g S1 x1)
          cases fl with
          | next => exact q
          | brk => exact q
          | cont => exact q
          | ret w =>
            refine fun v rt => q v ⟨rt.1, fun o a e => ?_⟩
            obtain ⟨t1, t2, t3⟩ := rt.2 o a e
            refine ⟨t1, fun j z => t2 j (((S1.unlock i).2.1 j a).mp z), ?_⟩
            rcases t3 with t3 | ⟨j, b, t3⟩
            · left
              cases z : H a with
              | none => rfl
              | some u => exact absurd t3 (x1.thr a (by rw [z]; exact fun y => nomatch y))
            · exact .inr ⟨j, b, x1.own j a t3⟩
        | exc c E' =>
          intro F' H' σ' S1 y
          have p2 : PostS K xa Z bo (.exc c (unlockS E' i)) F H E σ D := by
            rw [← eu E']
            exact p
          exact p2 F' H' σ' (S1.unlock i).1 (y.unlock g S1 x1)
      | _ => exact nil fun E' => by unfold IR.unlock; simp only [g]
  | _ => exact nil fun E' => rfl

/-! ### a loop's body -/
theorem PostS.body {r : Res Fl} {k : Sto → Res Fl} {N : L2.St → Hp → Prop} (p : PostS K xa Z bo (r.bind fun fl E1 => match fl with
    | .next => k E1
    | .cont => k E1
    | .brk => .ok .next E1
    | .ret w => .ok (.ret w) E1) F H E σ D) (hN : ∀ F' H' E' σ', SR K F' H' E' σ' → XS bo F H E σ F' H' E' σ' → PostS K xa Z bo (k E') F' H' E' σ' D → N σ' H') : PostS K xa Z bo r F H E σ { D with nx := N, ct := N, bk := D.nx } := by
  cases r with
  | stuck => exact p
  | exc c E' => exact p
  | ok fl E' =>
    intro F' H' σ' S y
    cases fl with
    | next => exact hN F' H' E' σ' S y ((show PostS K xa Z bo (k E') F H E σ D from p).rebase y)
    | cont => exact hN F' H' E' σ' S y ((show PostS K xa Z bo (k E') F H E σ D from p).rebase y)
    | brk => exact (show PostS K xa Z bo (.ok .next E') F H E σ D from p) F' H' σ' S y
    | ret w => exact (show PostS K xa Z bo (.ok (.ret w) E') F H E σ D from p) F' H' σ' S y
end

section
variable {X : Cx} {xa : Nat → Addr} {Z : WX} {bo : List Bool} {cl : Nat → List W → CRes}
theorem XS.grow {F H F' H' : Hp} {E : Sto} {σ : L2.St} {K : PySem.W.Frag} (S : SR K F H E σ) (g : Grow F H F' H') : XS bo F H E σ F' H' E σ := (Ext.grow S g).xs
theorem ds_while {c : Expr} {body : List Stmt} {t : IT} {b : S} {pos : Pos} (hp : PassesOwn (model X.prog X.w) X.A X.env X.xe) (hc : PT X c (toTT X.K xa Z (evT cl t))) (hb : PSs X body (toTS X.K xa Z bo (evS cl bo b))) :
    PS X (.While c body [] pos) (toTS X.K xa Z bo (evS cl bo (.while_ t b))) := by
  refine ps_imp (ps_while hp hc hb) fun D σ H ⟨F, E, S, p⟩ => ?_
  unfold evS at p
  refine ⟨fun m σ H => ∃ F E, SR X.K F H E σ ∧ PostS X.K xa Z bo (whR (evT cl t) (evS cl bo b) m E) F H E σ D, ⟨_, F, E, S, p⟩, ?_⟩
  rintro m σ1 H1 ⟨F1, E1, S1, p1⟩
  cases m with
  | zero => exact p1.elim
  | succ m =>
    unfold whR at p1
    refine ⟨F1, E1, S1, p1.of_ev fun k E2 F2 H2 _ S2 x2 p2 => ?_⟩
    cases k with
    | true =>
      rw [if_pos rfl]
      rw [if_pos rfl] at p2
      refine ⟨fun σ H => ∃ F E, SR X.K F H E σ ∧ PostS X.K xa Z bo (whR (evT cl t) (evS cl bo b) m E) F H E σ D, fun σ' H' n => ⟨m, Nat.lt_succ_self m, n⟩, F2, E2, S2, (PostS.rebase p2 x2.xs).body fun F' H' E' σ' S' _ q => ⟨F', E', S', q⟩⟩
    | false =>
      rw [if_neg Bool.false_ne_true]
      rw [if_neg Bool.false_ne_true] at p2
      exact p2 F2 H2 σ1 S2 x2.xs
theorem ds_for {tg iter : Expr} {body : List Stmt} {pos : Pos} {t : Tg} {src : IR} {b : S} {g : TG} (hp : PassesOwn (model X.prog X.w) X.A X.env X.xe) (hc : X.calm = true) (hi : PI X tg iter (toTI X.K xa Z (evR cl src))) (hg : PG X tg g) (ht : TgOk X.K bo g t) (hl : ∀ i ∈ t.slots, i < X.N.length)
    (hb : PSs X body (toTS X.K xa Z bo (evS cl bo b))) (hs : ∀ x, foldedSetIterable iter X.env x = pure x) : PS X (.For tg iter body [] pos) (toTS X.K xa Z bo (evS cl bo (.for_ t src b))) := by
  refine ⟨fun pins s σ H D I q => (ps_for hp hc hi hg hb hs).run pins s σ H D I ?_⟩
  obtain ⟨F, E, S, p⟩ := q
  have lenσ : σ.length = X.N.length := I.len
  unfold evS at p
  split at p
  · exact p.elim
  rename_i hbo
  have hbo2 : ∀ i ∈ t.slots, bOf bo i = false := fun i hi => by
    cases q : bOf bo i with
    | false => rfl
    | true => exact absurd (List.any_eq_true.mpr ⟨i, hi, q⟩) hbo
  refine ⟨F, E, S, p.of_ev fun ds E1 F1 H1 _ S1 x1 p2 J lk wk lh nm => ?_⟩
  have p3 := PostS.locked x1 p2
  refine ⟨fun i m σ' H' => m + i = ds.length ∧ σ'.length = σ.length ∧ ∃ F' E', SR X.K F' H' E' σ' ∧ XS bo F1 H1 E1 σ F' H' E' σ' ∧ PostS X.K xa Z bo (forR (fun d E2 => (Res.lift (t.put d E2) E2).bind fun E3 _ => evS cl bo b E3) (ds.drop i) E') F' H' E' σ' D,
    ⟨ds.length, rfl, rfl, F1, E1, S1, XS.refl, p3⟩, ?_⟩
  rintro i m σ2 H2 ⟨hm, l2, F2, E2, S2, x2, p4⟩
  have lh2 : Lh lk H2 := fun a o e => x2.keep a o (lh a o e) (nm a o e)
  by_cases q : i < ds.length
  · right
    have hd : ds[i]? = some ds[i] := List.getElem?_eq_getElem q
    obtain ⟨go, yl⟩ := wk.go i _ F2 H2 hd x2.fle S2.le lh2
    refine ⟨go, fun σ' H' => m - 1 + (i + 1) = ds.length ∧ σ'.length = σ.length ∧ ∃ F' E', SR X.K F' H' E' σ' ∧ XS bo F1 H1 E1 σ F' H' E' σ' ∧ PostS X.K xa Z bo (forR (fun d E2 => (Res.lift (t.put d E2) E2).bind fun E3 _ => evS cl bo b E3) (ds.drop (i + 1)) E') F' H' E' σ' D, fun σ' H' n => ⟨m - 1, by omega, n⟩, fun x H' y => ?_⟩
    obtain ⟨F3, gr, rx⟩ := yl x H' y
    have S3 := S2.grow gr
    have x3 : XS bo F2 H2 E2 σ2 F3 H' E2 σ2 := XS.grow S2 gr
    rw [List.drop_eq_getElem_cons q] at p4
    unfold forR at p4
    cases e : t.put ds[i] E2 with
    | none =>
      rw [e] at p4
      exact p4.elim
    | some E3 =>
      rw [e] at p4
      refine ht _ E2 E3 F3 H' σ2 x _ e S3 rx (fun j hj => ⟨by rw [l2, lenσ]; exact hl j hj, hbo2 j hj⟩) fun σ4 S4 x4 o4 l4 => ?_
      refine ⟨F3, E3, S4, (PostS.rebase p4 (x3.trans x4)).body fun F5 H5 E5 σ5 S5 x5 p5 => ⟨by omega, ?_, F5, E5, S5, ((x2.trans x3).trans x4).trans x5, p5⟩⟩
      exact x5.ln.trans (x4.ln.trans l2)
  · left
    refine ⟨wk.st i F2 H2 (by omega) x2.fle S2.le lh2, ?_⟩
    rw [List.drop_eq_nil_of_le (by omega)] at p4
    exact p4 F2 H2 σ2 S2 XS.refl
end
end Sf

end

section
set_option maxRecDepth 100000
set_option maxHeartbeats 1000000
/-! Sf: list comprehensions. -/
namespace Sf
open PySem PySem.Spec PyProof.Rows L2
variable [WorldI]

theorem wipeS_len (E : Sto) : ∀ vs : List Nat, (wipeS E vs).length = E.length
  | [] => rfl
  | v :: vs => by
    unfold wipeS
    rw [List.length_set, wipeS_len E vs]
theorem wipeS_some {E : Sto} {i : Nat} {w : W} : ∀ {vs : List Nat}, (wipeS E vs)[i]? = some (some w) → E[i]? = some (some w) ∧ i ∉ vs
  | [], h => ⟨h, by simp⟩
  | v :: vs, h => by
    unfold wipeS at h
    by_cases hi : v = i
    · subst hi
      by_cases hv : v < (wipeS E vs).length
      · rw [List.getElem?_set_self hv] at h
        cases h
      · rw [List.getElem?_eq_none (by simpa using hv)] at h
        cases h
    · rw [List.getElem?_set_ne hi] at h
      obtain ⟨h1, h2⟩ := wipeS_some h
      exact ⟨h1, by simp only [List.mem_cons, not_or]; exact ⟨fun e => hi e.symm, h2⟩⟩
theorem wipe_not {σ : L2.St} {i : Nat} : ∀ {vs : List Nat}, i ∉ vs → (wipe σ vs)[i]? = σ[i]?
  | [], _ => rfl
  | v :: vs, h => by
    simp only [List.mem_cons, not_or] at h
    unfold wipe
    rw [List.getElem?_set_ne fun z => h.1 z.symm]
    exact wipe_not h.2
theorem wipe_in {σ : L2.St} {i : Nat} : ∀ {vs : List Nat}, i ∈ vs → (wipe σ vs)[i]? = if i < σ.length then some none else none
  | v :: vs, h => by
    unfold wipe
    by_cases z : v = i
    · subst z
      by_cases q : v < σ.length
      · rw [List.getElem?_set_self (by rw [wipe_length]; exact q), if_pos q]
      · rw [List.getElem?_eq_none (by rw [List.length_set, wipe_length]; omega), if_neg q]
    · rw [List.getElem?_set_ne z]
      rcases List.mem_cons.mp h with e | e
      · exact absurd e.symm z
      · exact wipe_in e
theorem wipe_eq {σ σ3 : L2.St} {vs : List Nat} (h : ∀ j, j ∉ vs → σ3[j]? = σ[j]?) (l : σ3.length = σ.length) : wipe σ3 vs = wipe σ vs := by
  refine List.ext_getElem? fun i => ?_
  by_cases q : i ∈ vs
  · rw [wipe_in q, wipe_in q, l]
  · rw [wipe_not q, wipe_not q]
    exact h i q
theorem wipe_twice {σ : L2.St} {vs : List Nat} : wipe (wipe σ vs) vs = wipe σ vs := wipe_eq (fun j hj => wipe_not hj) (wipe_length ..)

section
variable {K : PySem.W.Frag} {F H : Hp} {E : Sto} {σ : L2.St} {vs : List Nat}
theorem ownW {i : Nat} {a : Addr} (h : ownAt (wipeS E vs) (wipe σ vs) i a) : ownAt E σ i a := by
  obtain ⟨w, q1, q2, q3⟩ := h
  exact ⟨w, (wipeS_some q1).1, q2, (wipe_some q3).1⟩
theorem mutW {i : Nat} {a : Addr} (h : mutAt (wipeS E vs) (wipe σ vs) i a) : mutAt E σ i a := by
  obtain ⟨w, q1, q2, q3⟩ := h
  exact ⟨w, (wipeS_some q1).1, q2, (wipe_some q3).1⟩
theorem SR.wipe (S : SR K F H E σ) : SR K F H (wipeS E vs) (L2.wipe σ vs) := by
  refine ⟨by rw [wipeS_len, wipe_length]; exact S.len, fun i w q => ?_, fun i j a h1 h2 => S.sep i j a (ownW h1) (ownW h2), fun i a h => S.free i a (ownW h), S.le⟩
  obtain ⟨q1, q2⟩ := wipeS_some q
  obtain ⟨v, h1, h2⟩ := S.at_ i w q1
  exact ⟨v, by rw [wipe_not q2]; exact h1, h2⟩
theorem SR.unwipe (S : SR K F H E (L2.wipe σ vs)) : SR K F H E σ ∧ (∀ i a, ownAt E σ i a → ownAt E (L2.wipe σ vs) i a) ∧ ∀ i a, mutAt E σ i a → mutAt E (L2.wipe σ vs) i a := by
  have at_ : ∀ i w, E[i]? = some (some w) → ∃ v, σ[i]? = some (some v) ∧ (L2.wipe σ vs)[i]? = some (some v) ∧ RW K F H w v := fun i w q => by
    obtain ⟨v, h1, h2⟩ := S.at_ i w q
    exact ⟨v, (wipe_some h1).1, h1, h2⟩
  have ow : ∀ i a, ownAt E σ i a → ownAt E (L2.wipe σ vs) i a := fun i a ⟨w, q1, q2, q3⟩ => by
    obtain ⟨v, h1, h2, _⟩ := at_ i w q1
    rw [q3] at h1
    cases h1
    exact ⟨w, q1, q2, h2⟩
  refine ⟨⟨by rw [S.len, wipe_length], fun i w q => ?_, fun i j a h1 h2 => S.sep i j a (ow i a h1) (ow j a h2), fun i a h => S.free i a (ow i a h), S.le⟩, ow, fun i a ⟨w, q1, q2, q3⟩ => ?_⟩
  · obtain ⟨v, h1, _, h2⟩ := at_ i w q
    exact ⟨v, h1, h2⟩
  · obtain ⟨v, h1, h2, _⟩ := at_ i w q1
    rw [q3] at h1
    cases h1
    exact ⟨w, q1, q2, h2⟩
/-- the whole of a block -/
theorem Ext.block {F' H' : Hp} {E' : Sto} (S' : SR K F' H' E' (L2.wipe σ vs)) (x : Ext F H (wipeS E vs) (L2.wipe σ vs) F' H' E') : Ext F H E σ F' H' E' :=
  ⟨x.fle, fun b o h n => x.keep b o h fun i q => n i (mutW q), fun b h => (x.fnew b h).imp_right fun q => q.imp_left fun ⟨i, q⟩ => ⟨i, mutW q⟩, fun i b h => ownW (x.own i b (S'.unwipe.2.1 i b h)), fun i b h => mutW (x.mta i b (S'.unwipe.2.2 i b h)), x.thr⟩
theorem Ext.unlock {F1 H1 : Hp} {E1 : Sto} {i : Nat} {ds : List PyData} (g : getS E i = some (.ol ds)) (S1 : SR K F1 H1 E1 σ) (x : Ext F H E σ F1 H1 E1) : Ext F H E σ F1 H1 (unlockS E1 i) := by
  obtain ⟨_, o, m⟩ := S1.unlock i
  refine ⟨x.fle, x.keep, x.fnew, fun j b h => x.own j b ((o j b).mp h), fun j b h => ?_, x.thr⟩
  rcases m j b h with q | ⟨e, q⟩
  · exact x.mta j b q
  · subst e
    obtain ⟨w, q1, q2, q3⟩ := x.own j b q
    rw [getS_at g] at q1
    cases q1
    exact ⟨_, getS_at g, rfl, q3⟩
theorem unlock_all {F1 H1 : Hp} {E1 : Sto} {src : IR} (S1 : SR K F1 H1 E1 σ) (x : Ext F H E σ F1 H1 E1) : SR K F1 H1 (src.unlock E E1) σ ∧ Ext F H E σ F1 H1 (src.unlock E E1) ∧ ∀ j a, ownAt (src.unlock E E1) σ j a → ownAt E1 σ j a := by
  have nil : src.unlock E E1 = E1 → SR K F1 H1 (src.unlock E E1) σ ∧ Ext F H E σ F1 H1 (src.unlock E E1) ∧ ∀ j a, ownAt (src.unlock E E1) σ j a → ownAt E1 σ j a := fun e => by
    rw [e]
    exact ⟨S1, x, fun _ _ h => h⟩
  cases src with
  | own i =>
    cases g : getS E i with
    | none => exact nil (by unfold IR.unlock; simp only [g])
    | some w =>
      cases w with
      | ol ds =>
        have eu : (IR.own i).unlock E E1 = unlockS E1 i := by unfold IR.unlock; simp only [g]
        rw [eu]
        exact ⟨(S1.unlock i).1, x.unlock g S1, fun j a h => ((S1.unlock i).2.1 j a).mp h⟩
      | _ => exact nil (by unfold IR.unlock; simp only [g])
  | _ => exact nil rfl
/-- a list in hand grows -/
theorem SR.updD {D : Addr} {o : HO} (S : SR K F H E σ) (f : F D = none) (n : ∀ i, ¬ ownAt E σ i D) : SR K F (upd H D o) E σ := by
  refine ⟨S.len, fun i w q => ?_, S.sep, S.free, S.le.newR f⟩
  obtain ⟨v, h1, h2⟩ := S.at_ i w q
  refine ⟨v, h1, h2.keep (Le.refl F) fun ow a u e e2 => ?_⟩
  subst e
  rw [upd_ne fun z => n i (by rw [← z]; exact ⟨w, q, ow, h1⟩)]
  exact e2
end

def lcF (cl : Nat → List W → CRes) (elt : IE) (tg : Tg) (cnd : IT) : D → Sto → Res (Option D) := fun d E2 => (Res.lift (tg.put d E2) E2).bind fun E3 _ => (evT cl cnd E3).bind fun t E4 =>
  if t then (ev cl elt E4).bind fun w E5 => (Res.lift w.frzL E5).bind fun y _ => .ok (some y) (wipeS E5 tg.slots) else .ok none (wipeS E4 tg.slots)
theorem res_ok {α β : Type} {r : Res α} {g : α → Sto → Res β} {b : β} {E : Sto} (h : r.bind g = .ok b E) : ∃ a E1, r = .ok a E1 ∧ g a E1 = .ok b E := by
  cases r with
  | stuck => cases h
  | exc c E1 => cases h
  | ok a E1 => exact ⟨a, E1, rfl, h⟩
theorem lift_ok {α : Type} {o : Option α} {a : α} {E E1 : Sto} (h : Res.lift o E = .ok a E1) : o = some a ∧ E1 = E := by
  cases o with
  | none => cases h
  | some b =>
    cases h
    exact ⟨rfl, rfl⟩

section
variable {K : PySem.W.Frag} {xa : Nat → Addr} {Z : WX} {cl : Nat → List W → CRes}
abbrev Z0 : WX := fun _ _ _ _ => False
theorem post_ok {α : Type} {r : Res α} {F H : Hp} {E E1 : Sto} {σ : L2.St} {a : α} {k : α → Sto → Hp → Hp → Prop} (h : r = .ok a E1) (f : ∀ F' H', SR K F' H' E1 σ → Ext F H E σ F' H' E1 → k a E1 F' H') : Post K xa Z r F H E σ k := by
  subst h
  exact f

structure LcW (K : PySem.W.Frag) (F1 H1 : Hp) (E1 : Sto) (σ1 : L2.St) (D : Addr) (f : PyData → Sto → Res (Option PyData)) (ds all : List PyData) (E9 : Sto) (i : Nat) (F H : Hp) (E : Sto) (acc : List V) (ys rest : List PyData) : Prop where
  S : SR K F H E σ1
  x : Ext F1 H1 E1 σ1 F H E
  hD : H D = some (.lst acc)
  fD : F D = none
  r : RFs F acc ys
  le : acc.length ≤ i
  eq : mapR f (ds.drop i) E = .ok rest E9
  al : ys ++ rest = all
theorem LcW.nD {F1 H1 F H : Hp} {E1 E E9 : Sto} {σ1 : L2.St} {D : Addr} {f : PyData → Sto → Res (Option PyData)} {ds all ys rest : List PyData} {i : Nat} {acc : List V} (w : LcW K F1 H1 E1 σ1 D f ds all E9 i F H E acc ys rest) (S1 : SR K F1 H1 E1 σ1) (h : H1 D = none) : ∀ j, ¬ ownAt E σ1 j D :=
  fun j q => (w.x.own j D q).some_at S1 h

/-- one more item -/
theorem LcW.more {F1 H1 F H F4 H4 : Hp} {E1 E E6 E9 : Sto} {σ1 : L2.St} {D : Addr} {f : PyData → Sto → Res (Option PyData)} {ds all ys rest rest2 : List PyData} {i : Nat} {acc : List V} {o : Option PyData} (w : LcW K F1 H1 E1 σ1 D f ds all E9 i F H E acc ys rest) (S1 : SR K F1 H1 E1 σ1) (h : H1 D = none)
    (S4 : SR K F4 H4 E6 σ1) (x4 : Ext F H E σ1 F4 H4 E6) (er : mapR f (ds.drop (i + 1)) E6 = .ok rest2 E9) (eo : rest = match (generalizing := false) o with | none => rest2 | some y => y :: rest2) :
    H4 D = some (.lst acc) ∧ F4 D = none ∧ (o = none → LcW K F1 H1 E1 σ1 D f ds all E9 (i + 1) F4 H4 E6 acc ys rest2) ∧ ∀ y v, o = some y → RF F4 v y → LcW K F1 H1 E1 σ1 D f ds all E9 (i + 1) F4 (upd H4 D (.lst (acc ++ [v]))) E6 (acc ++ [v]) (ys ++ [y]) rest2 := by
  have h4 : H4 D = some (.lst acc) := x4.keep D _ w.hD fun j q => w.nD S1 h j q.own
  have f4 : F4 D = none := by
    cases z : F4 D with
    | none => rfl
    | some u =>
      exfalso
      rcases x4.fnew D (by rw [z]; exact fun q => nomatch q) with q | ⟨j, q⟩ | q
      · exact q w.fD
      · exact w.nD S1 h j q.own
      · rw [w.hD] at q
        cases q
  have n4 : ∀ j, ¬ ownAt E6 σ1 j D := fun j q => w.nD S1 h j (x4.own j D q)
  have x5 := w.x.trans x4
  refine ⟨h4, f4, fun e => ?_, fun y v e r => ?_⟩
  · subst e
    exact ⟨S4, x5, h4, f4, w.r.up x4.fle, Nat.le_succ_of_le w.le, er, by rw [← w.al, eo]⟩
  · subst e
    refine ⟨S4.updD f4 n4, ⟨x5.fle, fun b u q n => ?_, x5.fnew, x5.own, x5.mta, fun b q => ?_⟩, upd_same, f4, (w.r.up x4.fle).app (.cons r .nil), by rw [List.length_append]; exact Nat.succ_le_succ w.le, er, by rw [← w.al, eo, List.append_assoc]; rfl⟩
    · rw [upd_ne (ne_of_none q h)]
      exact x5.keep b u q n
    · by_cases z : b = D
      · subst z
        rw [upd_same]
        exact fun y => nomatch y
      · rw [upd_ne z]
        exact x5.thr b q
theorem lc_ask {elt : IE} {tg : Tg} {src : IR} {cnd : IT} {g : TG} {σ : L2.St} {H : Hp} {Q : VK} (ht : TgOk K [] g tg) (hl : ∀ i ∈ tg.slots, i < σ.length) (h : toTE K xa Z (ev cl (.lc elt tg src cnd)) σ H Q) :
    tLc (toTI K xa Z (evR cl src)) g (toTT K xa Z0 (evT cl cnd)) (toTE K xa Z0 (ev cl elt)) tg.slots σ H Q := by
  obtain ⟨F, E, S, p⟩ := h
  unfold ev at p
  refine ⟨F, E, S, (Post.bindB p).mono fun ds E1 F1 H1 _ S1 x1 p2 J lk wk lh nm D hD => ?_⟩
  have p3 : Post K xa Z ((Res.noX (mapR (lcF cl elt tg cnd) ds (wipeS E1 tg.slots))).bind fun ys E9 => .ok (.ol ys) (src.unlock E E9)) F H E σ fun w E' F' H' => ∀ v, Rs K F' H' H E' σ w v → Q v H' := p2
  cases em : mapR (lcF cl elt tg cnd) ds (wipeS E1 tg.slots) with
  | stuck =>
    rw [em] at p3
    exact p3.elim
  | exc c E9 =>
    rw [em] at p3
    exact p3.elim
  | ok all E9 =>
    rw [em] at p3
    have p4 : Post K xa Z (.ok (.ol all) (src.unlock E E9)) F H E σ fun w E' F' H' => ∀ v, Rs K F' H' H E' σ w v → Q v H' := p3
    have fD : F1 D = none := none_le S1.le hD
    have Sw : SR K F1 H1 (wipeS E1 tg.slots) (wipe σ tg.slots) := S1.wipe
    have gr : Grow F1 H1 F1 (upd H1 D (.lst [])) := Grow.newL S1.le hD
    have nmw : ∀ a o, lk = some (a, o) → ∀ j, ¬ mutAt (wipeS E1 tg.slots) (wipe σ tg.slots) j a := fun a o e j q => nm a o e j (mutW q)
    refine ⟨fun i m H => m + i = ds.length ∧ ∃ F2 E2 acc ys rest, LcW K F1 H1 (wipeS E1 tg.slots) (wipe σ tg.slots) D (lcF cl elt tg cnd) ds all E9 i F2 H E2 acc ys rest, ⟨ds.length, rfl, F1, wipeS E1 tg.slots, [], [], all, ⟨Sw.grow gr, Ext.grow Sw gr, upd_same, fD, .nil, Nat.le_refl _, em, rfl⟩⟩, ?_⟩
    rintro i m H2 ⟨hm, F2, E2, acc, ys, rest, w⟩
    have lh2 : Lh lk H2 := fun a o e => w.x.keep a o (lh a o e) (nmw a o e)
    by_cases q : i < ds.length
    · right
      have hd : ds[i]? = some ds[i] := List.getElem?_eq_getElem q
      obtain ⟨go, yl⟩ := wk.go i _ F2 H2 hd w.x.fle w.S.le lh2
      refine ⟨go, fun H' => m - 1 + (i + 1) = ds.length ∧ ∃ F2 E2 acc ys rest, LcW K F1 H1 (wipeS E1 tg.slots) (wipe σ tg.slots) D (lcF cl elt tg cnd) ds all E9 (i + 1) F2 H' E2 acc ys rest, fun H' n => ⟨m - 1, by omega, n⟩, fun x H' y => ?_⟩
      obtain ⟨F3, gr3, rx⟩ := yl x H' y
      have S3 := w.S.grow gr3
      have e0 := w.eq
      rw [List.drop_eq_getElem_cons q] at e0
      unfold mapR at e0
      obtain ⟨o, E6, e1, e2⟩ := res_ok e0
      obtain ⟨rest2, E10, e3, e4⟩ := res_ok e2
      cases e4
      unfold lcF at e1
      obtain ⟨E3, _, e5, e6⟩ := res_ok e1
      obtain ⟨e7, _⟩ := lift_ok e5
      obtain ⟨t, E4, e8, e9⟩ := res_ok e6
      refine ht _ _ E3 F3 H' (wipe σ tg.slots) x _ e7 S3 rx (fun j hj => ⟨by rw [wipe_length]; exact hl j hj, rfl⟩) fun σ4 S4 x4 o4 ow4 => ⟨?_, ?_⟩
      · rw [wipe_eq (σ := wipe σ tg.slots) o4 x4.ln, wipe_twice]
      have hwipe : wipe σ4 tg.slots = wipe σ tg.slots := by rw [wipe_eq (σ := wipe σ tg.slots) o4 x4.ln, wipe_twice]
      -- a turn's frame
      have turn : ∀ {F5 H5 : Hp} {E5 : Sto}, SR K F5 H5 E5 σ4 → Ext F3 H' E3 σ4 F5 H5 E5 → SR K F5 H5 (wipeS E5 tg.slots) (wipe σ tg.slots) ∧ Ext F2 H2 E2 (wipe σ tg.slots) F5 H5 (wipeS E5 tg.slots) := fun {F5 H5 E5} S5 x5 => by
        have Sw5 : SR K F5 H5 (wipeS E5 tg.slots) (wipe σ tg.slots) := by
          rw [← hwipe]
          exact S5.wipe
        have xg := Ext.grow w.S gr3
        refine ⟨Sw5, ⟨xg.fle.trans x5.fle, fun b u hb n => x5.keep b u (xg.keep b u hb n) fun j z => n j (ow4.2 j b z), fun b hb => ?_, fun j b hb => ?_, fun j b hb => ?_, fun b hb => x5.thr b (xg.thr b hb)⟩⟩
        · rcases x5.fnew b hb with z | ⟨j, z⟩ | z
          · exact xg.fnew b z
          · exact .inr (.inl ⟨j, ow4.2 j b z⟩)
          · refine .inr (.inr ?_)
            cases e : H2 b with
            | none => rfl
            | some u => exact absurd z (xg.thr b (by rw [e]; exact fun y => nomatch y))
        · refine ow4.1 j b (x5.own j b (ownW (vs := tg.slots) ?_))
          rw [hwipe]
          exact hb
        · refine ow4.2 j b (x5.mta j b (mutW (vs := tg.slots) ?_))
          rw [hwipe]
          exact hb
      refine ⟨F3, E3, S4, post_ok e8 fun F5 H5 S5 x5 => ?_⟩
      cases t with
      | true =>
        rw [if_pos rfl] at e9 ⊢
        obtain ⟨u, E7, e10, e11⟩ := res_ok e9
        obtain ⟨y2, E8, e12, e13⟩ := res_ok e11
        obtain ⟨e14, _⟩ := lift_ok e12
        cases e13
        refine ⟨F5, E4, S5, post_ok e10 fun F6 H6 S6 x6 v rv => ?_⟩
        -- the item is given out of hand
        have fr : ∃ F7, SR K F7 H6 E7 σ4 ∧ Ext F5 H5 E4 σ4 F7 H6 E7 ∧ RF F7 v y2 := by
          cases u with
          | fz d =>
            cases e14
            exact ⟨F6, S6, x6, rv.1⟩
          | ol xs =>
            cases e14
            obtain ⟨F7, S7, l7, n7, r7⟩ := S6.freezeT rv
            exact ⟨F7, S7, x6.widen l7 n7, r7⟩
          | _ => cases e14
        obtain ⟨F7, S7, x7, r7⟩ := fr
        obtain ⟨Sw7, xw7⟩ := turn S7 (x5.trans x7)
        obtain ⟨hD7, _, _, mo⟩ := w.more (o := some y2) Sw hD Sw7 xw7 e3 rfl
        refine ⟨acc, hD7, ?_, by omega, _, _, _, _, _, mo y2 v rfl r7⟩
        rw [line_eq]
        have := w.le
        have := wk.ln
        omega
      | false =>
        rw [if_neg Bool.false_ne_true] at e9 ⊢
        cases e9
        obtain ⟨Sw7, xw7⟩ := turn S5 x5
        obtain ⟨_, _, mo, _⟩ := w.more (o := none) Sw hD Sw7 xw7 e3 rfl
        exact ⟨by omega, _, _, _, _, _, mo rfl⟩
    · left
      refine ⟨wk.st i F2 H2 (by omega) w.x.fle w.S.le lh2, ?_⟩
      have e0 := w.eq
      rw [List.drop_eq_nil_of_le (by omega)] at e0
      cases e0
      have al := w.al
      rw [List.append_nil] at al
      subst al
      have S2 := w.S.unwipe
      have x2 := x1.trans (Ext.block w.S w.x)
      obtain ⟨S3, x3, o3⟩ := unlock_all (src := src) S2.1 x2
      refine p4 F2 H2 S3 x3 (.ref D) ⟨⟨D, acc, rfl, w.hD, ?_, w.r⟩, fun _ a e => ?_⟩
      · have := w.le
        have := wk.ln
        rw [← w.r.len]
        omega
      · cases e
        refine ⟨?_, w.fD, fun j z => ?_⟩
        · cases z : H D with
          | none => rfl
          | some u => exact absurd hD (x1.thr D (by rw [z]; exact fun y => nomatch y))
        · exact (x2.own j D (o3 j D z)).some_at S (by
            cases z : H D with
            | none => rfl
            | some u => exact absurd hD (x1.thr D (by rw [z]; exact fun y => nomatch y)))
end
end Sf

end

section
set_option maxRecDepth 100000
set_option maxHeartbeats 1000000
/-! Sf: more statements, comprehensions as values. -/
namespace Sf
open PySem PySem.Spec PyProof.Rows L2
variable [WorldI]

section
variable {X : Cx} {xa : Nat → Addr} {Z : WX} {bo : List Bool} {cl : Nat → List W → CRes}

/-- what is never reached -/
theorem ds_no {st : Stmt} : PS X st (toTS X.K xa Z bo (evS cl bo .no)) := by
  refine ps_imp ps_never fun D σ H ⟨F, E, S, p⟩ => ?_
  unfold evS at p
  exact p

/-! ### comprehensions -/
theorem pts_imp {ifs : List Expr} {t t' : TT} (h : PTs X ifs t) (f : ∀ σ H Q, t' σ H Q → t σ H Q) : PTs X ifs t' := ⟨fun pins s σ H Q I q => h.run pins s σ H Q I (f σ H Q q)⟩
theorem dts_nil : PTs X [] (toTT X.K xa Z (evT cl .tt)) := by
  refine pts_imp pts_nil fun σ H Q ⟨F, E, S, p⟩ => ?_
  unfold evT at p
  exact p F H S (Ext.refl ..)
theorem dts_one {c : Expr} {t : IT} (h : PT X c (toTT X.K xa Z (evT cl t))) : PTs X [c] (toTT X.K xa Z (evT cl t)) := pts_one h
theorem slots_lt {t : Tg} {N : List Str} (h : t.slots.all (fun i => decide (i < N.length)) = true) : ∀ i ∈ t.slots, i < N.length := fun i hi => of_decide_eq_true (List.all_eq_true.mp h i hi)
theorem de_lc {elt tg iter : Expr} {ifs : List Expr} {scope : Scope} {own : List (Str × Nat)} {pos : Pos} {g : TG} {t : Tg} {src : IR} {x : IE} {cnd : IT} (hc : X.calm = true) (hN : X.N.Nodup) (hsl : t.slots = own.map (·.2)) (hl : t.slots.all (fun i => decide (i < X.N.length)) = true) (ht : TgOk X.K [] g t)
    (hi : PI X tg iter (toTI X.K xa Z (evR cl src))) (ok : BlkOk X.N X.env.scope scope own)
    (hg : ∀ (s : Shared) (H : Hp) (C : Addr) (cs : List (Str × Addr)) (fp : List Addr), PG (X.blk s H scope (compEnvC scope cs C X.env) fp) tg g)
    (hq : ∀ (s : Shared) (H : Hp) (C : Addr) (cs : List (Str × Addr)) (fp : List Addr), PTs (X.blk s H scope (compEnvC scope cs C X.env) fp) ifs (toTT X.K xa Z0 (evT cl cnd)))
    (he : ∀ (s : Shared) (H : Hp) (C : Addr) (cs : List (Str × Addr)) (fp : List Addr), PE (X.blk s H scope (compEnvC scope cs C X.env) fp) elt (toTE X.K xa Z0 (ev cl x)))
    (hs : ∀ x, foldedSetIterable iter X.env x = pure x) : PE X (.ListComp elt [⟨tg, iter, ifs, 0⟩] scope pos) (toTE X.K xa Z (ev cl (.lc x t src cnd))) := by
  refine ⟨fun pins s σ H Q I h => (pe_lc hc hN hi ok hg hq he hs).run pins s σ H Q I ?_⟩
  have lenσ : σ.length = X.N.length := I.len
  rw [← hsl]
  exact lc_ask ht (fun i q => by rw [lenσ]; exact slots_lt hl i q) h
theorem ds_setLc {i : Nat} {y : Str} {py : Pos} {elt tg iter : Expr} {ifs : List Expr} {scope : Scope} {own : List (Str × Nat)} {pos spos : Pos} {g : TG} {t : Tg} {src : IR} {x : IE} {cnd : IT} (hc : X.calm = true) (hN : X.N.Nodup) (hy : X.N[i]? = some y) (hyl : X.env.scope.names.lookup y = some .local)
    (hsw : swapsWith (.ListComp elt [⟨tg, iter, ifs, 0⟩] scope pos) (some (.Name y py)) spos.line X.env = pure true) (hsl : t.slots = own.map (·.2)) (hl : t.slots.all (fun i => decide (i < X.N.length)) = true) (ht : TgOk X.K [] g t)
    (hi : PI X tg iter (toTI X.K xa Z (evR cl src))) (ok : BlkOk X.N X.env.scope scope own)
    (hg : ∀ (s : Shared) (H : Hp) (C : Addr) (cs : List (Str × Addr)) (fp : List Addr), PG (X.blk s H scope (compEnvC scope cs C X.env) fp) tg g)
    (hq : ∀ (s : Shared) (H : Hp) (C : Addr) (cs : List (Str × Addr)) (fp : List Addr), PTs (X.blk s H scope (compEnvC scope cs C X.env) fp) ifs (toTT X.K xa Z0 (evT cl cnd)))
    (he : ∀ (s : Shared) (H : Hp) (C : Addr) (cs : List (Str × Addr)) (fp : List Addr), PE (X.blk s H scope (compEnvC scope cs C X.env) fp) elt (toTE X.K xa Z0 (ev cl x)))
    (hs : ∀ x, foldedSetIterable iter X.env x = pure x) : PS X (.Assign [.Name y py] (.ListComp elt [⟨tg, iter, ifs, 0⟩] scope pos) spos) (toTS X.K xa Z bo (evS cl bo (.set i (.lc x t src cnd)))) := by
  refine ⟨fun pins s σ H D I h => ?_⟩
  have lenσ : σ.length = X.N.length := I.len
  have st := ps_setLc hc hN hy hyl hsw hi ok hg hq he hs
  refine st.run pins s σ H D I ?_
  obtain ⟨F, E, S, p⟩ := h
  unfold evS at p
  show tLc _ _ _ _ _ σ H _
  rw [← hsl]
  refine lc_ask ht (fun i q => by rw [lenσ]; exact slots_lt hl i q) ⟨F, E, S, p.of_ev fun w E1 F1 H1 _ S1 x1 p2 v r => ?_⟩
  obtain ⟨hb, p3⟩ := stoS_ok p2
  obtain ⟨S2, x2⟩ := S1.store x1 r (bo := bo) (i := i) (by rw [lenσ]; exact (List.getElem?_eq_some_iff.mp hy).1) hb
  exact p3 F1 H1 _ S2 x2

/-! ### a, b = e -/
theorem ds_unp_of {st : Stmt} {is : List Nat} {x : IE} {g : TG} (h : PS X st (tAsg (toTE X.K xa Z (ev cl x)) g)) (ht : TgOk X.K bo g (.tp is)) (hl : is.all (fun i => decide (i < X.N.length)) = true) : PS X st (toTS X.K xa Z bo (evS cl bo (.unp is x))) := by
  refine ⟨fun pins s σ H D I q => h.run pins s σ H D I ?_⟩
  have lenσ : σ.length = X.N.length := I.len
  obtain ⟨F, E, S, p⟩ := q
  unfold evS at p
  refine ⟨F, E, S, p.of_ev fun w E1 F1 H1 _ S1 x1 p2 v r => ?_⟩
  cases w with
  | fz d =>
    cases d with
    | tuple ds =>
      have p3 : PostS X.K xa Z bo (unpS bo E1 is (ds.map .fz)) F H E σ D := p2
      unfold unpS at p3
      split at p3
      · exact p3.elim
      rename_i hb
      cases e : putAll is (ds.map .fz) E1 with
      | none =>
        rw [e] at p3
        exact p3.elim
      | some E3 =>
        rw [e] at p3
        refine ht (.tuple ds) E1 E3 F1 H1 σ v _ e S1 r.1 (fun i hi => ⟨by rw [lenσ]; exact slots_lt (t := .tp is) hl i hi, ?_⟩) fun σ3 S3 x3 _ _ => (show PostS X.K xa Z bo (.ok .next E3) F H E σ D from p3) F1 H1 σ3 S3 (x1.xs.trans x3)
        cases q : bOf bo i with
        | false => rfl
        | true => exact absurd (List.any_eq_true.mpr ⟨i, hi, q⟩) hb
    | _ => exact p2.elim
  | _ => exact p2.elim

/-! ### a, b = x, y: stored without a tuple -/
def toTW (K : PySem.W.Frag) (xa : Nat → Addr) (Z : WX) (f : Sto → Res (List W)) : TA := fun σ H Q => ∃ F E, SR K F H E σ ∧ Post K xa Z (f E) F H E σ fun ws E' F' H' => ∀ vs, RAs K F' H' H E' σ (ws.map .inr) vs → Q vs H'
theorem dws_nil : PA X [] (toTW X.K xa Z (evWs cl .nil)) := by
  refine pa_imp pa_nil fun σ H Q ⟨F, E, S, p⟩ => ?_
  unfold evWs at p
  exact p F H S (Ext.refl ..) [] ⟨rfl, fun j x v h => by simp at h, fun i j a ⟨w, h, _⟩ => by simp at h⟩
theorem dws_cons {e : Expr} {es : List Expr} {a : IE} {as : IEs} (h : PE X e (toTE X.K xa Z (ev cl a))) (hs : PA X es (toTW X.K xa Z (evWs cl as))) (hst : starEach (e :: es) X.env = (false, eval e X.env) :: starEach es X.env) : PA X (e :: es) (toTW X.K xa Z (evWs cl (.cons a as))) := by
  refine pa_imp (pa_cons h hs hst) fun σ H Q ⟨F, E, S, p⟩ => ?_
  unfold evWs at p
  refine ⟨F, E, S, (Post.bind_ p).mono fun x E1 F1 H1 _ S1 x1 p2 v rv => ?_⟩
  refine ⟨F1, E1, S1, (Post.bind_ p2).mono fun xs E2 F2 H2 _ S2 x2 p3 vs rs => ?_⟩
  exact p3 F2 H2 S2 (Ext.refl ..) (v :: vs) (RAs.cons (x := .inr x) rv x2 x1.thr rs)
def setAll : List Nat → List V → L2.St → L2.St
  | i :: is, v :: vs, σ => setAll is vs (σ.set i (some v))
  | _, _, σ => σ
theorem put_own {K : PySem.W.Frag} : ∀ (is : List Nat) (ws : List W) (vs : List V) (E E3 : Sto) (F H F0 H0 : Hp) (E0 : Sto) (σ σ0 : L2.St), putAll is ws E = some E3 → SR K F H E σ → XS bo F0 H0 E0 σ0 F H E σ → RAs K F H H0 E σ (ws.map .inr) vs → (∀ i ∈ is, i < σ.length ∧ bOf bo i = false) →
    SR K F H E3 (setAll is vs σ) ∧ XS bo F0 H0 E0 σ0 F H E3 (setAll is vs σ)
  | [], [], vs, E, E3, F, H, F0, H0, E0, σ, σ0, e, S, x, r, _ => by
    cases e
    have : vs = [] := List.length_eq_zero_iff.mp r.len.symm
    subst this
    exact ⟨S, x⟩
  | [], _ :: _, _, _, _, _, _, _, _, _, _, _, e, _, _, _, _ => by cases e
  | _ :: _, [], _, _, _, _, _, _, _, _, _, _, e, _, _, _, _ => by cases e
  | i :: is, w :: ws, [], _, _, _, _, _, _, _, _, _, e, _, _, r, _ => absurd r.len (by simp)
  | i :: is, w :: ws, v :: vs, E, E3, F, H, F0, H0, E0, σ, σ0, e, S, x, r, hs => by
    obtain ⟨h1, h2⟩ := hs i (List.mem_cons_self ..)
    have r0 : Rs K F H H0 E σ w v := r.at_ 0 (.inr w) v rfl rfl
    obtain ⟨S1, x1⟩ := S.storeX x r0 h1 h2
    refine put_own is ws vs (setS E i w) E3 F H F0 H0 E0 _ σ0 e S1 x1 ⟨?_, fun j y u hy hu => ?_, fun j k a hj hk => ?_⟩ fun j hj => ⟨?_, (hs j (List.mem_cons_of_mem _ hj)).2⟩
    · have := r.len
      simpa using this
    · have q := r.at_ (j + 1) y u (by simpa using hy) (by simpa using hu)
      cases y with
      | inl k =>
        rw [List.getElem?_map] at hy
        cases z : ws[j]? with
        | none =>
          rw [z] at hy
          cases hy
        | some w1 =>
          rw [z] at hy
          cases hy
      | inr w1 =>
        have q2 : Rs K F H H0 E σ w1 u := q
        refine ⟨q2.1, fun o a ea => ?_⟩
        obtain ⟨t1, t2, t3⟩ := q2.2 o a ea
        refine ⟨t1, t2, fun k ok => ?_⟩
        obtain ⟨w2, q3, q4, q5⟩ := ok
        have hE : i < E.length := by rw [S.len]; exact h1
        by_cases z : i = k
        · subst z
          unfold setS at q3
          rw [List.getElem?_set_self hE] at q3
          rw [List.getElem?_set_self h1] at q5
          cases q3
          cases q5
          subst ea
          have := r.sep 0 (j + 1) a ⟨w, rfl, q4, rfl⟩ ⟨w1, by simpa using hy, o, by simpa using hu⟩
          omega
        · rw [setS_ne z] at q3
          rw [List.getElem?_set_ne z] at q5
          exact t3 k ⟨w2, q3, q4, q5⟩
    · obtain ⟨w1, a1, a2, a3⟩ := hj
      obtain ⟨w2, b1, b2, b3⟩ := hk
      have := r.sep (j + 1) (k + 1) a ⟨w1, by simpa using a1, a2, by simpa using a3⟩ ⟨w2, by simpa using b1, b2, by simpa using b3⟩
      omega
    · rw [List.length_set]
      exact (hs j (List.mem_cons_of_mem _ hj)).1
theorem par_ask {is : List Nat} {es : List Expr} {xs : IEs} {σ : L2.St} {H : Hp} {D : Ends} (lenσ : σ.length = X.N.length) (hl : is.all (fun i => decide (i < X.N.length)) = true) (h : toTS X.K xa Z bo (evS cl bo (.par is xs)) D σ H) :
    toTW X.K xa Z (evWs cl xs) σ H fun vs H1 => vs.length = is.length ∧ D.nx (setAll is vs σ) H1 := by
  obtain ⟨F, E, S, p⟩ := h
  unfold evS at p
  refine ⟨F, E, S, p.of_ev fun ws E1 F1 H1 _ S1 x1 p2 vs r => ?_⟩
  unfold unpS at p2
  split at p2
  · exact p2.elim
  rename_i hb
  cases e : putAll is ws E1 with
  | none =>
    rw [e] at p2
    exact p2.elim
  | some E3 =>
    rw [e] at p2
    obtain ⟨S3, x3⟩ := put_own is ws vs E1 E3 F1 H1 F H E σ σ e S1 (x1.xs (bo := bo)) r fun i hi => ⟨by rw [lenσ]; exact slots_lt (t := .tp is) hl i hi, by
      cases q : bOf bo i with
      | false => rfl
      | true => exact absurd (List.any_eq_true.mpr ⟨i, hi, q⟩) hb⟩
    refine ⟨?_, (show PostS X.K xa Z bo (.ok .next E3) F H E σ D from p2) F1 H1 _ S3 x3⟩
    have l1 := r.len
    rw [List.length_map] at l1
    rw [← l1]
    exact putAll_len e
theorem ds_par2 {i j : Nat} {x y : Str} {a b : Expr} {xs : IEs} {px py pt pos : Pos} {kt k2 pt2} (hc : X.calm = true) (hN : X.N.Nodup) (hi : X.N[i]? = some x) (hj : X.N[j]? = some y) (hij : i ≠ j)
    (hx : X.env.scope.names.lookup x = some .local) (hy : X.env.scope.names.lookup y = some .local) (ha : PA X [a, b] (toTW X.K xa Z (evWs cl xs)))
    (hw : swappedStores [.Tuple [.Name x px, .Name y py] kt pt] (.Tuple [a, b] k2 pt2) X.env = pure (some [x, y]))
    (hs : swapsWithSole [.Tuple [.Name x px, .Name y py] kt pt] (.Tuple [a, b] k2 pt2) pos.line X.env = pure false) :
    PS X (.Assign [.Tuple [.Name x px, .Name y py] kt pt] (.Tuple [a, b] k2 pt2) pos) (toTS X.K xa Z bo (evS cl bo (.par [i, j] xs))) := by
  refine ⟨fun pins s σ H D I q => (ps_par hc hN hi hj hij hx hy ha hw hs).run pins s σ H D I ?_⟩
  have q2 := par_ask (es := [a, b]) (show σ.length = X.N.length from I.len) (by simp [List.all_cons, (List.getElem?_eq_some_iff.mp hi).1, (List.getElem?_eq_some_iff.mp hj).1]) q
  obtain ⟨F, E, S, p⟩ := q2
  refine ⟨F, E, S, p.mono fun ws E1 F1 H1 _ S1 x1 k vs r => ?_⟩
  obtain ⟨l, n⟩ := k vs r
  match vs, l, n with
  | [v, w], _, n => exact ⟨v, w, rfl, n⟩
theorem ds_par3 {i j l : Nat} {x y z : Str} {a b c : Expr} {xs : IEs} {px py pz pt pos : Pos} {kt k2 pt2} (hc : X.calm = true) (hN : X.N.Nodup) (hi : X.N[i]? = some x) (hj : X.N[j]? = some y) (hk : X.N[l]? = some z) (hij : i ≠ j) (hil : i ≠ l) (hjl : j ≠ l)
    (hx : X.env.scope.names.lookup x = some .local) (hy : X.env.scope.names.lookup y = some .local) (hz : X.env.scope.names.lookup z = some .local) (ha : PA X [a, b, c] (toTW X.K xa Z (evWs cl xs)))
    (hw : swappedStores [.Tuple [.Name x px, .Name y py, .Name z pz] kt pt] (.Tuple [a, b, c] k2 pt2) X.env = pure (some [x, y, z]))
    (hs : swapsWithSole [.Tuple [.Name x px, .Name y py, .Name z pz] kt pt] (.Tuple [a, b, c] k2 pt2) pos.line X.env = pure false) :
    PS X (.Assign [.Tuple [.Name x px, .Name y py, .Name z pz] kt pt] (.Tuple [a, b, c] k2 pt2) pos) (toTS X.K xa Z bo (evS cl bo (.par [i, j, l] xs))) := by
  refine ⟨fun pins s σ H D I q => (ps_par3 hc hN hi hj hk hij hil hjl hx hy hz ha hw hs).run pins s σ H D I ?_⟩
  have q2 := par_ask (es := [a, b, c]) (show σ.length = X.N.length from I.len) (by simp [List.all_cons, (List.getElem?_eq_some_iff.mp hi).1, (List.getElem?_eq_some_iff.mp hj).1, (List.getElem?_eq_some_iff.mp hk).1]) q
  obtain ⟨F, E, S, p⟩ := q2
  refine ⟨F, E, S, p.mono fun ws E1 F1 H1 _ S1 x1 k vs r => ?_⟩
  obtain ⟨l, n⟩ := k vs r
  match vs, l, n with
  | [v, w, u], _, n => exact ⟨v, w, u, rfl, n⟩

/-! ### lists that are changed -/
theorem SR.write {K : PySem.W.Frag} {F H : Hp} {E : Sto} {σ : L2.St} (S : SR K F H E σ) {i : Nat} {ds es : List PyData} {a : Addr} {ys : List V} (e : E[i]? = some (some (.ol ds))) (s : σ[i]? = some (some (.ref a))) (hz : es.length ≤ lineN) (r : RFs F ys es) :
    SR K F (upd H a (.lst ys)) (setS E i (.ol es)) σ ∧ Ext F H E σ F (upd H a (.lst ys)) (setS E i (.ol es)) := by
  have oa : ownAt E σ i a := ⟨_, e, rfl, s⟩
  have ma : mutAt E σ i a := ⟨_, e, rfl, s⟩
  have o1 : ∀ j b, ownAt (setS E i (.ol es)) σ j b → ownAt E σ j b := fun j b ⟨w, q1, q2, q3⟩ => by
    by_cases z : i = j
    · subst z
      exact ⟨_, e, rfl, q3⟩
    · rw [setS_ne z] at q1
      exact ⟨w, q1, q2, q3⟩
  have m1 : ∀ j b, mutAt (setS E i (.ol es)) σ j b → mutAt E σ j b := fun j b ⟨w, q1, q2, q3⟩ => by
    by_cases z : i = j
    · subst z
      exact ⟨_, e, rfl, q3⟩
    · rw [setS_ne z] at q1
      exact ⟨w, q1, q2, q3⟩
  refine ⟨⟨by rw [setS_len]; exact S.len, fun j w q => ?_, fun j k b h1 h2 => S.sep j k b (o1 j b h1) (o1 k b h2), fun j b h => S.free j b (o1 j b h), S.le.newR (S.free i a oa)⟩, ⟨Le.refl F, fun b o h n => ?_, fun b h => .inl h, o1, m1, fun b h => ?_⟩⟩
  · by_cases z : i = j
    · subst z
      rw [setS_self e] at q
      cases q
      exact ⟨_, s, a, ys, rfl, upd_same, hz, r⟩
    · rw [setS_ne z] at q
      obtain ⟨v, h1, h2⟩ := S.at_ j w q
      refine ⟨v, h1, h2.keep (Le.refl F) fun ow b u e2 e3 => ?_⟩
      subst e2
      rw [upd_ne fun y => z (S.sep i j a oa (by rw [← y]; exact ⟨w, q, ow, h1⟩))]
      exact e3
  · rw [upd_ne fun y => n i (by rw [y]; exact ma)]
    exact h
  · by_cases z : b = a
    · subst z
      rw [upd_same]
      exact fun y => nomatch y
    · rw [upd_ne z]
      exact h
/-- a list behind -/
theorem own_ahead {K : PySem.W.Frag} {F' H' : Hp} {E' : Sto} {σ : L2.St} {i : Nat} {ds : List PyData} (S' : SR K F' H' E' σ) (e : E'[i]? = some (some (.ol ds))) :
    ∃ a es, σ[i]? = some (some (.ref a)) ∧ H' a = some (.lst es) ∧ RFs F' es ds ∧ ds.length ≤ lineN := by
  obtain ⟨v, s, a, es, rfl, h2, z, r⟩ := S'.at_ i _ e
  exact ⟨a, es, s, h2, r, z⟩
theorem lift_frz {K : PySem.W.Frag} {F H H0 : Hp} {E : Sto} {σ : L2.St} {w : W} {v : V} {d : PyData} (S : SR K F H E σ) (r : Rs K F H H0 E σ w v) (e : w.frzL = some d) : ∃ F1, SR K F1 H E σ ∧ Le F F1 ∧ (∀ b, F1 b ≠ none → F b ≠ none ∨ H0 b = none) ∧ RF F1 v d := by
  cases w with
  | fz d0 =>
    cases e
    exact ⟨F, S, Le.refl F, fun b h => .inl h, r.1⟩
  | ol ds =>
    cases e
    exact S.freezeT r
  | _ => cases e
theorem ds_app {e o : Expr} {i : Nat} {x : IE} {apos cpos pos : Pos} (ho : PE X o (tVar i)) (he : PE X e (toTE X.K xa Z (ev cl x))) (hst : starEach [e] X.env = (false, eval e X.env) :: starEach [] X.env)
    (hbase : attributeBase o "append" X.env (eval o X.env) = eval o X.env)
    (hfew : ((backTo cpos (starEach [e] X.env)).all (fun x => !x.1) && (backToKw cpos (keywordEach [] X.env)).all (fun x => x.1.isSome) && decide ([e].length + ([] : List Keyword).length + (if ([] : List Keyword).isEmpty then 0 else 1) < 30)) = true)
    (hline : (apos.endLine == cpos.line) = true) (hplain : (backTo cpos (starEach [] X.env)).any (·.1) = false) (hs : swapsWith (.Call (.Attribute o "append" apos) [e] [] cpos) none pos.line X.env = pure false) :
    PS X (.Expr (.Call (.Attribute o "append" apos) [e] [] cpos) pos) (toTS X.K xa Z bo (evS cl bo (.app i x))) := by
  refine ps_imp (ps_expr (pe_bm PySem.F.plainAttrs_list PySem.F.slot_list_append PySem.F.type_list_append mt_append ho (pa_cons he pa_nil hst) hbase hfew hline hst hplain) hs) fun D σ H ⟨F, E, S, p⟩ => ?_
  unfold evS at p
  cases g : getS E i with
  | none =>
    rw [g] at p
    exact p.elim
  | some w0 =>
    rw [g] at p
    cases w0 with
    | ol ds0 =>
      obtain ⟨v0, s0, a, xs, rfl, h0, _, _⟩ := S.val g
      have p1 : PostS X.K xa Z bo ((ev cl x E).bind fun w E1 => (Res.lift w.frzL E1).bind fun d E2 => match getS E2 i with
        | some (.ol ds) => if ds.length < lineN then .ok .next (setS E2 i (.ol (ds ++ [d]))) else .stuck
        | _ => .stuck) F H E σ D := p
      refine ⟨_, s0, .inl ⟨rfl, xs, SqL.of h0⟩, F, E, S, p1.of_ev fun w E1 F1 H1 _ S1 x1 p2 v r => ?_⟩
      cases f : w.frzL with
      | none =>
        rw [f] at p2
        exact p2.elim
      | some d =>
        rw [f] at p2
        have p3 : PostS X.K xa Z bo (match getS E1 i with
          | some (.ol ds) => if ds.length < lineN then .ok .next (setS E1 i (.ol (ds ++ [d]))) else .stuck
          | _ => .stuck) F H E σ D := p2
        cases g1 : getS E1 i with
        | none =>
          rw [g1] at p3
          exact p3.elim
        | some u =>
          rw [g1] at p3
          cases u with
          | ol ds =>
            have p4 : PostS X.K xa Z bo (if ds.length < lineN then .ok .next (setS E1 i (.ol (ds ++ [d]))) else .stuck) F H E σ D := p3
            split at p4
            · rename_i lt
              obtain ⟨F2, S2, l2, n2, r2⟩ := lift_frz S1 r f
              have x2 := x1.widen l2 n2
              obtain ⟨a2, ys, s, h2, rr, _⟩ := own_ahead S2 (getS_at g1)
              rw [s0] at s
              cases s
              obtain ⟨S3, x3⟩ := S2.write (getS_at g1) s0 (es := ds ++ [d]) (by rw [List.length_append]; exact lt) (rr.app (.cons r2 .nil))
              refine ⟨a, ys, v, rfl, rfl, h2, ?_, p4 F2 _ σ S3 (x2.trans x3).xs⟩
              rw [line_eq, rr.len]
              exact lt
            · exact p4.elim
          | _ => exact p3.elim
    | _ => exact p.elim
/-- xs[k] = e -/
theorem ds_put {e o k : Expr} {i : Nat} {y z : IE} {spos pos : Pos} (ho : PE X o (tVar i)) (hk : PE X k (toTE X.K xa Z (ev cl y))) (he : PE X e (toTE X.K xa Z (ev cl z)))
    (ha : ∀ v, assign (.Subscript o k spos) X.env v = (do
      let ov ← holding [v] (eval o X.env)
      let iv ← holding [v, ov] (eval k X.env)
      standAt spos
      holding [v, ov, iv] (setItem ov iv v)
      release [v, ov, iv] [])) (hs : swapsWithSole [.Subscript o k spos] e pos.line X.env = pure false) (hw : swappedStores [.Subscript o k spos] e X.env = pure none)
    (h1 : (assignEach [.Subscript o k spos] X.env).map (·.2) = [assign (.Subscript o k spos) X.env]) :
    PS X (.Assign [.Subscript o k spos] e pos) (toTS X.K xa Z bo (evS cl bo (.put i y z))) := by
  refine ps_imp (ps_asg he (pg_sub ho hk set_list ha) hs hw h1) fun D σ H ⟨F, E, S, p⟩ => ?_
  unfold evS at p
  refine ⟨F, E, S, p.of_ev fun w E1 F1 H1 _ S1 x1 p2 v r => ?_⟩
  cases f : w.frzL with
  | none =>
    rw [f] at p2
    exact p2.elim
  | some d =>
    rw [f] at p2
    obtain ⟨F2, S2, l2, n2, r2⟩ := lift_frz S1 r f
    have x2 := x1.widen l2 n2
    have p3 : PostS X.K xa Z bo (match getS E1 i with
      | some (.ol _) => (ev cl y E1).bind fun u E3 => match u, getS E3 i with
        | .fz (.int j), some (.ol ds) => (match L2.ixN ds.length j with
          | some m => Res.ok Fl.next (setS E3 i (.ol (ds.set m d)))
          | none => .stuck)
        | _, _ => .stuck
      | _ => .stuck) F H E σ D := p2
    cases g : getS E1 i with
    | none =>
      rw [g] at p3
      exact p3.elim
    | some w0 =>
      rw [g] at p3
      cases w0 with
      | ol ds0 =>
        obtain ⟨v0, s0, a, xs, rfl, h0, _, _⟩ := S2.val g
        have p4 : PostS X.K xa Z bo ((ev cl y E1).bind fun u E3 => match u, getS E3 i with
          | .fz (.int j), some (.ol ds) => (match L2.ixN ds.length j with
            | some m => Res.ok Fl.next (setS E3 i (.ol (ds.set m d)))
            | none => .stuck)
          | _, _ => .stuck) F2 H1 E1 σ D := PostS.rebase p3 x2.xs
        refine ⟨_, s0, F2, E1, S2, p4.of_ev fun u E3 F3 H3 _ S3 x3 p5 v5 r5 => ?_⟩
        cases u with
        | fz du =>
          cases du with
          | int j =>
            cases g3 : getS E3 i with
            | none =>
              rw [g3] at p5
              exact p5.elim
            | some w3 =>
              rw [g3] at p5
              cases w3 with
              | ol ds =>
                have p6 : PostS X.K xa Z bo (match L2.ixN ds.length j with
                  | some m => Res.ok Fl.next (setS E3 i (.ol (ds.set m d)))
                  | none => .stuck) F2 H1 E1 σ D := p5
                cases q : L2.ixN ds.length j with
                | none =>
                  rw [q] at p6
                  exact p6.elim
                | some m =>
                  rw [q] at p6
                  obtain ⟨a2, ys, s, h2, rr, hz⟩ := own_ahead S3 (getS_at g3)
                  rw [s0] at s
                  cases s
                  have r6 : RF F3 v5 (.int j) := r5.1
                  cases r6
                  obtain ⟨S4, x4⟩ := S3.write (getS_at g3) s0 (es := ds.set m d) (by rw [List.length_set]; exact hz) (RFs.set (r2.up x3.fle) m rr)
                  exact ⟨a, ys, j, m, rfl, rfl, h2, by rw [rr.len]; exact q, (show PostS X.K xa Z bo (Res.ok Fl.next (setS E3 i (.ol (ds.set m d)))) F2 H1 E1 σ D from p6) F3 _ σ S4 (x3.trans x4).xs⟩
              | _ => exact p5.elim
          | _ => exact p5.elim
        | _ => exact p5.elim
      | _ => exact p3.elim

/-! ### tuple(range(..)), list(range(..)), reversed -/
theorem rgV_rf {F : Hp} (a b : Int) : RFs F (rgV a b) ((List.range (b - a).toNat).map fun i => PyData.int (a + (i : Nat))) := by
  unfold rgV
  generalize List.range (b - a).toNat = l
  induction l with
  | nil => exact .nil
  | cons x r ih => exact .cons (.int _) ih
def toRg (K : PySem.W.Frag) (xa : Nat → Addr) (Z : WX) (f : Sto → Res (List PyData)) : L2.St → Hp → (Int → Int → Hp → Prop) → Prop := fun σ H Q => ∃ F E, SR K F H E σ ∧ Post K xa Z (f E) F H E σ fun ds E' F' H' => ∀ a b, ds = ((List.range (b - a).toNat).map fun i => PyData.int (a + (i : Nat))) → RgOk a b → Q a b H'
theorem rangeOk {a b : Int} {ds : List PyData} (h : rangeD a b = some ds) : RgOk a b ∧ ds = ((List.range (b - a).toNat).map fun i => PyData.int (a + (i : Nat))) := by
  obtain ⟨q, z, e⟩ := rangeD_some h
  unfold lineN at z
  exact ⟨⟨q.1, q.2.1, q.2.2.1, q.2.2.2, by omega⟩, e⟩
theorem dr_1 {e : Expr} {n : IE} {p pos : Pos} (hg : Gl X "range") (hm : X.mg "range" = none) (h : PE X e (toTE X.K xa Z (ev cl n))) (hs : starEach [e] X.env = (false, eval e X.env) :: starEach [] X.env) : PRg X (.Call (.Name "range" p) [e] [] pos) (toRg X.K xa Z (evR cl (.r1 n))) := by
  intro pins s σ H Q I ⟨F, E, S, q⟩
  refine prg_1 hg hm h hs pins s σ H Q I ?_
  unfold evR at q
  refine ⟨F, E, S, (Post.bindB q).mono fun w E1 F1 H1 _ S1 x1 q2 v r => ?_⟩
  cases w with
  | fz d =>
    cases d with
    | int j =>
      obtain ⟨ds, e1, q3⟩ := Post.liftB q2
      obtain ⟨b, rfl⟩ := rangeOk e1
      have r1 : RF F1 v (.int j) := r.1
      cases r1
      exact ⟨j, rfl, q3 F1 H1 S1 x1 0 j rfl b⟩
    | _ => exact q2.elim
  | _ => exact q2.elim
theorem dr_2 {e e2 : Expr} {n m : IE} {p pos : Pos} (hg : Gl X "range") (hm : X.mg "range" = none) (h : PE X e (toTE X.K xa Z (ev cl n))) (h2 : PE X e2 (toTE X.K xa Z (ev cl m))) (hs : starEach [e, e2] X.env = (false, eval e X.env) :: starEach [e2] X.env) (hs2 : starEach [e2] X.env = (false, eval e2 X.env) :: starEach [] X.env)
    (hp : (backTo pos (starEach [e2] X.env)).any (·.1) = false) : PRg X (.Call (.Name "range" p) [e, e2] [] pos) (toRg X.K xa Z (evR cl (.r2 n m))) := by
  intro pins s σ H Q I ⟨F, E, S, q⟩
  refine prg_2 hg hm h h2 hs hs2 hp pins s σ H Q I ?_
  unfold evR at q
  refine ⟨F, E, S, (Post.bind_ q).mono fun w E1 F1 H1 _ S1 x1 q2 v r => ⟨F1, E1, S1, (Post.bindB q2).mono fun u E2 F2 H2 _ S2 x2 q3 v2 r2 => ?_⟩⟩
  cases w with
  | fz d =>
    cases d with
    | int i =>
      cases u with
      | fz d2 =>
        cases d2 with
        | int j =>
          obtain ⟨ds, e1, q4⟩ := Post.liftB q3
          obtain ⟨b, rfl⟩ := rangeOk e1
          have r1 : RF F1 v (.int i) := r.1
          have r3 : RF F2 v2 (.int j) := r2.1
          cases r1
          cases r3
          exact ⟨i, j, rfl, rfl, q4 F2 H2 S2 x2 i j rfl b⟩
        | _ => exact q3.elim
      | _ => exact q3.elim
    | _ => exact q3.elim
  | _ => exact q3.elim
theorem rng_post {src : IR} {t : Bool} {σ : L2.St} {H : Hp} {Q : VK} (h : toTE X.K xa Z (ev cl (.rng t src)) σ H Q) : toRg X.K xa Z (evR cl src) σ H fun a b H1 => RgOk a b ∧ ∀ q, H1 q = none → (t = true → Q (.ref q) (upd H1 q (.tup (rgV a b)))) ∧ (t = false → Q (.ref q) (upd H1 q (.lst (rgV a b)))) := by
  obtain ⟨F, E, S, p⟩ := h
  unfold ev at p
  have p2 : Post X.K xa Z ((evR cl src E).bind fun ds E1 => .ok (if t then W.fz (.tuple ds) else .ol ds) E1) F H E σ fun w E' F' H' => ∀ v, Rs X.K F' H' H E' σ w v → Q v H' := by
    cases src with
    | own i => exact p.elim
    | _ => exact p
  refine ⟨F, E, S, (Post.bind_ p2).mono fun ds E1 F1 H1 _ S1 x1 p3 a b e ok => ⟨ok, fun q hq => ⟨fun et => ?_, fun et => ?_⟩⟩⟩
  · subst et e
    have k1 : K1 X.K H1 Q F1 (.fz (.tuple ((List.range (b - a).toNat).map fun i => PyData.int (a + (i : Nat))))) := K1.of_post S1 x1.thr p3
    refine k1.tup S1.le ?_ (rgV_rf a b) hq
    rw [List.length_map, List.length_range]
    exact ok.2.2.2.2
  · subst et e
    have k1 : K1 X.K H1 Q F1 (.ol ((List.range (b - a).toNat).map fun i => PyData.int (a + (i : Nat)))) := K1.of_post S1 x1.thr p3
    refine k1.lst S1.le ?_ (rgV_rf a b) hq
    rw [List.length_map, List.length_range]
    exact ok.2.2.2.2
theorem de_rngT {e : Expr} {src : IR} {p pos : Pos} (hc : X.calm = true) (hg : Gl X "tuple") (hm : X.mg "tuple" = none) (he : PRg X e (toRg X.K xa Z (evR cl src))) (na : starEach [e] X.env = (false, eval e X.env) :: starEach [] X.env) : PE X (.Call (.Name "tuple" p) [e] [] pos) (toTE X.K xa Z (ev cl (.rng true src))) := by
  refine pe_imp (pe_tupRg hc hg hm he na) fun σ H Q h => ?_
  obtain ⟨F, E, S, p⟩ := rng_post h
  exact ⟨F, E, S, p.mono fun ds E1 F1 H1 _ S1 x1 k a b e ok => ⟨(k a b e ok).1, fun q hq => ((k a b e ok).2 q hq).1 rfl⟩⟩
theorem de_rngL {e : Expr} {src : IR} {p pos : Pos} (hc : X.calm = true) (hg : Gl X "list") (hm : X.mg "list" = none) (he : PRg X e (toRg X.K xa Z (evR cl src))) (na : starEach [e] X.env = (false, eval e X.env) :: starEach [] X.env) : PE X (.Call (.Name "list" p) [e] [] pos) (toTE X.K xa Z (ev cl (.rng false src))) := by
  refine pe_imp (pe_listRg hc hg hm he na) fun σ H Q h => ?_
  obtain ⟨F, E, S, p⟩ := rng_post h
  exact ⟨F, E, S, p.mono fun ds E1 F1 H1 _ S1 x1 k a b e ok => ⟨(k a b e ok).1, fun q hq => ((k a b e ok).2 q hq).2 rfl⟩⟩
end
end Sf

end

section
set_option maxRecDepth 100000
set_option maxHeartbeats 1000000
/-! Sf: t[::-1]. -/
namespace Sf
open PySem PySem.Spec PyProof.Rows L2 HT
variable [WorldI]

section
variable {prog : Program} {w : World} {A : Around} {E : Value → Shared → Prop} {s : Shared}
theorem adj_rev (n : Nat) : Builtin.Slice.sliceAdjust none none (-1) (n : Int) = ((n : Int) - 1, -1) := by
  unfold Builtin.Slice.sliceAdjust
  simp
theorem places_rev (n : Nat) : Builtin.Slice.slicePlaces ((n : Int) - 1) (-1) (-1) = n := by
  unfold Builtin.Slice.slicePlaces
  simp
  omega
theorem pick_rev (xs : Array Value) : ((List.range xs.size).filterMap fun (m : Nat) => xs[(((xs.size : Int) - 1) + (m : Int) * (-1)).toNat]?).toArray = xs.toList.reverse.toArray := by
  have e : (fun (m : Nat) => xs[(((xs.size : Int) - 1) + (m : Int) * (-1)).toNat]?) = (fun k : Nat => xs[k]?) ∘ fun (m : Nat) => (((xs.size : Int) - 1) + (m : Int) * (-1)).toNat := rfl
  rw [e, ← List.filterMap_map]
  have e2 : (List.range xs.size).map (fun (m : Nat) => (((xs.size : Int) - 1) + (m : Int) * (-1)).toNat) = (List.range xs.size).map fun k => xs.size - 1 - k := by
    apply List.map_congr_left
    intro k hk
    have := List.mem_range.mp hk
    omega
  rw [e2, PySem.W.krv_range, List.filterMap_reverse, PySem.W.krv_all]
theorem sliceApplied_rev {sl : Addr} {vs : Value} {n : Nat} {Q : Int × Int × Nat → Shared → Prop} (hs : s.heap.IsSliceOf sl .none .none vs) (ps : IsPart vs (some (-1)))
    (h : Q ((n : Int) - 1, -1, n) s) : wpAny (model prog w) A (Builtin.Slice.sliceApplied (.ref sl) (pure (n : Int))) Q E s := by
  obtain ⟨os, hos, hcs, hds⟩ := id hs
  unfold Builtin.Slice.sliceApplied Builtin.Slice.sliceFields
  refine wpAny_bind (wpAny_bind (wpAny_field hos hds (x := .none) rfl (wpAny_bind (wpAny_field hos hds (x := .none) rfl (wpAny_bind (wpAny_field hos hds (x := vs) rfl (wpAny_pure ?_)))))))
  refine wpAny_bind (slicePart_ ps ?_)
  show wpAny _ _ (if ((-1 : Int) == 0) = true then _ else _) _ _ s
  rw [if_neg (by decide)]
  refine wpAny_bind (slicePart_none (wpAny_bind (slicePart_none (wpAny_bind (wpAny_pure ?_)))))
  show wpAny _ _ (match Builtin.Slice.sliceAdjust none none (-1) (n : Int) with | (lo, hi) => pure (lo, (-1 : Int), Builtin.Slice.slicePlaces lo hi (-1))) _ _ s
  rw [adj_rev]
  show wpAny _ _ (pure ((n : Int) - 1, (-1 : Int), Builtin.Slice.slicePlaces ((n : Int) - 1) (-1) (-1))) _ _ s
  rw [places_rev]
  exact wpAny_pure h
theorem getItem_tuple_rev {t sl : Addr} {items : Array Value} {vs : Value} {Q : Value → Shared → Prop} (ht : IsTup s.heap t items) (hs : s.heap.IsSliceOf sl .none .none vs) (ps : IsPart vs (some (-1)))
    (h : Q (.ref s.heap.objs.size) { s with heap := s.heap.push { cls := .type "tuple", data := .seq items.toList.reverse.toArray } })
    (hsz : items.size ≤ sizeLine) : wpAny (model prog w) A (getItem (.ref t) (.ref sl)) Q E s := by
  have htake : sizeOk (.seq items.toList.reverse.toArray) := by
    show items.toList.reverse.toArray.size ≤ sizeLine
    rw [List.size_toArray, List.length_reverse, Array.length_toList]
    exact hsz
  obtain ⟨os, hos, hcs, hds⟩ := id hs
  have hTs : s.TypeIs (.ref sl) "slice" := ⟨os, hos, hcs⟩
  unfold getItem
  try with_reducible refine wpAny_holding ?_
  first | refine wpAny_bind (wpAny_pure ?_) | skip
  refine wpAny_bind (wpAny_sequenceKey ht.typeIs (by decide) ?_)
  refine wpAny_bind (wpAny_callSpecial?_slot (name := Str.ofString "__getitem__") ht.typeIs PyProof.Rows.slot_tuple_getitem
    (wpAny_call_entry PyProof.Rows.slot_tuple_getitem ht.typeIs entry_tuple_getitem ?_ (args_tuple_getitem _ _)))
  show wpAny _ _ (Builtin.Tuple.tupleItemsOf (.ref t) >>= _) _ _ s
  refine wpAny_bind (tupleItemsOf_ ht ?_)
  refine wpAny_bind (wpAny_typeOf hTs ?_)
  rw [if_pos (by decide)]
  refine wpAny_bind (sliceApplied_rev hs ps ?_)
  have hno : ¬ ((((items.size : Int) - 1) == 0 && (-1 : Int) == 1 && items.size == items.size) = true) := by
    intro q
    rw [Bool.and_eq_true, Bool.and_eq_true] at q
    exact absurd q.1.2 (by decide)
  show wpAny _ _ (if (((items.size : Int) - 1) == 0 && (-1 : Int) == 1 && items.size == items.size) = true then _ else _) _ _ s
  rw [if_neg hno, pick_rev]
  first
    | exact wpAny_bind (m := Builtin.Tuple.tupleExact _) (wpAny_newObj_type (wpAny_pure ⟨_, rfl, wpAny_pure h⟩) htake)
    | exact wpAny_bind (m := Builtin.Tuple.tupleExact _) (wpAny_newObj_type (wpAny_bind (wpAny_pure (wpAny_pure ⟨_, rfl, wpAny_pure h⟩))) htake)
    | exact wpAny_bind (wpAny_bind (m := Builtin.Tuple.tupleExact _) (wpAny_newObj_type (wpAny_pure (wpAny_pure ⟨_, rfl, wpAny_pure h⟩)) htake))
    | exact wpAny_bind (wpAny_bind (m := Builtin.Tuple.tupleExact _) (wpAny_newObj_type (wpAny_pure ⟨_, rfl, wpAny_pure h⟩) htake))
end
section
variable {X : Cx}
def tRevA (K : PySem.W.Frag) (te : TE) : TE := fun σ H Q => te σ H fun x H1 => (∃ a xs, x = .ref a ∧ SqL K H1 a xs ∧ ∀ p, H1 p = none → Q (.ref p) (upd H1 p (.lst xs.reverse))) ∨ ∃ a xs, x = .ref a ∧ SqT K H1 a xs ∧ ∀ p, H1 p = none → Q (.ref p) (upd H1 p (.tup xs.reverse))
theorem pe_revA {e : Expr} {te : TE} {k : Nat} {p1 p2 p3 pos : Pos} (he : PE X e te) : PE X (.Subscript e (.Slice none none (some (.UnaryOp .USub (.Constant (.int 1) k p1) p2)) p3) pos) (tRevA X.K te) := by
  refine ⟨fun pins s σ H Q I h => ?_⟩
  refine Subscript_ (thn (he.run pins s σ H _ I h) fun v s1 ⟨x, H1, I1, r1, q1⟩ => ?_)
  have hst : PO X (some (.UnaryOp .USub (.Constant (.int 1) k p1) p2)) (tPart (tUn (rU fun i => .int (-i)) (tC (.int 1)))) := po_some (pe_un un_neg pe_int)
  refine wpAny_Slice (thn (po_none.run pins s1 σ H1 (fun o H2 => o = none ∧ H2 = H1) I1 ⟨rfl, rfl⟩) fun vl s2 ⟨l, H2, I2, pl, el, e2⟩ => ?_)
  subst el e2
  refine thn (po_none.run pins s2 σ H2 (fun o H3 => o = none ∧ H3 = H2) I2 ⟨rfl, rfl⟩) fun vu s3 ⟨u, H3, I3, pu, eu, e3⟩ => ?_
  subst eu e3
  refine thn (hst.run pins s3 σ H3 (fun o H4 => o = some (-1) ∧ H4 = H3) I3 ⟨1, rfl, -1, rfl, rfl, rfl⟩) fun vs s4 ⟨o, H4, I4, ps, eo, e4⟩ => ?_
  subst eo e4
  have I5 : Inv X pins σ H4 { s4 with heap := s4.heap.push { cls := .type "slice", data := .fields #[vl, vu, vs] } } := I4.kept (t' := s4.toks) fun b ob q => Heap.get?_push_of_some _ q
  rcases q1 with ⟨a, xs, ex, hx, q⟩ | ⟨a, xs, ex, hx, q⟩
  · subst ex
    cases r1
    obtain ⟨its, r, ht, hz⟩ := I5.list hx
    have hlen := r.length
    show wpAny (model X.prog X.w) X.A (subscriptTail e (.Slice none none (some (.UnaryOp .USub (.Constant (.int 1) k p1) p2)) p3) (.ref a) (.ref s4.heap.objs.size)) (EP X pins σ Q) X.xe { s4 with heap := s4.heap.push { cls := .type "slice", data := .fields #[vl, vu, vs] } }
    refine tail_any (ops := [.ref a, .ref s4.heap.objs.size]) ht.isList.typeIs (PySem.slot_list_getitem.lookup) ?_ (by with_unfolding_all rfl)
    refine wpAny_getItem_list_slice ht.isList (Heap.IsSliceOf.new _ vl vu vs) pl pu ps (by decide) ?_ (by rw [List.size_toArray]; omega)
    rw [PySem.W.krv_pick]
    refine ⟨.ref _, _, I5.laid (t' := s4.toks) (o := .lst xs.reverse) (fun b ob q => Heap.get?_push_of_some _ q) (Nat.le_refl _) ?_, rfl, q _ (I5.hok.fresh (Nat.le_refl _))⟩
    exact ⟨by rw [List.length_reverse]; exact hz, _, 0, r.reverse, Heap.get?_push_size _ rfl⟩
  · subst ex
    cases r1
    obtain ⟨its, r, ht, hz⟩ := I5.tuple hx
    have hlen := r.length
    cases pl
    cases pu
    show wpAny (model X.prog X.w) X.A (subscriptTail e (.Slice none none (some (.UnaryOp .USub (.Constant (.int 1) k p1) p2)) p3) (.ref a) (.ref s4.heap.objs.size)) (EP X pins σ Q) X.xe { s4 with heap := s4.heap.push { cls := .type "slice", data := .fields #[.none, .none, vs] } }
    refine tail_any (ops := [.ref a, .ref s4.heap.objs.size]) (IsTup.typeIs ht) (PyProof.Rows.slot_tuple_getitem.lookup) ?_ (by with_unfolding_all rfl)
    refine getItem_tuple_rev ht (Heap.IsSliceOf.new _ .none .none vs) ps ?_ (by rw [List.size_toArray]; omega)
    refine ⟨.ref _, _, I5.laid (t' := s4.toks) (o := .tup xs.reverse) (fun b ob q => Heap.get?_push_of_some _ q) (Nat.le_refl _) ?_, rfl, q _ (I5.hok.fresh (Nat.le_refl _))⟩
    exact ⟨by rw [List.length_reverse]; exact hz, _, r.reverse, IsTup.new _ _⟩
end
section
variable {X : Cx} {xa : Nat → Addr} {Z : WX} {cl : Nat → List W → CRes}
theorem de_rev {e : Expr} {a : IA} {k : Nat} {p1 p2 p3 pos : Pos} (ha : PE X e (toTA X.K xa Z (evA cl a))) : PE X (.Subscript e (.Slice none none (some (.UnaryOp .USub (.Constant (.int 1) k p1) p2)) p3) pos) (toTE X.K xa Z (ev cl (.o1 .rev a))) := by
  refine pe_imp (pe_revA ha) fun σ H Q ⟨F, E, S, p⟩ => ?_
  unfold ev at p
  refine ⟨F, E, S, (Post.bind_ p).mono fun x E1 F1 H1 _ S1 x1 p2 v rv => ?_⟩
  obtain ⟨w, e1, p3⟩ := Post.lift_ p2
  obtain ⟨ws, e2, e3⟩ := bind_some' e1
  obtain ⟨w0, rfl⟩ := resolve_one e2
  have u := rv.use S1 e2
  have k1 : K1 X.K H1 Q F1 w := K1.of_post S1 x1.thr p3
  cases w0 with
  | fz d =>
    cases d with
    | tuple ds =>
      cases e3
      have u1 : RF F1 v (.tuple ds) := u
      cases u1 with
      | tup a z b => exact .inr ⟨_, _, rfl, SqT.of (S1.le _ _ a), fun p hp => k1.tup S1.le (by rw [List.length_reverse]; exact z) b.rev hp⟩
    | list ds =>
      cases e3
      have u1 : RF F1 v (.list ds) := u
      cases u1 with
      | lst a z b => exact .inl ⟨_, _, rfl, SqL.of (S1.le _ _ a), fun p hp => k1.lst S1.le (by rw [List.length_reverse]; exact z) b.rev hp⟩
    | _ => cases e3
  | ol ds =>
    cases e3
    obtain ⟨a, xs, rfl, h, z, b⟩ := u
    exact .inl ⟨_, _, rfl, SqL.of h, fun p hp => k1.lst S1.le (by rw [List.length_reverse]; exact z) b.rev hp⟩
  | _ => cases e3
end
end Sf

end

section
set_option maxRecDepth 100000
set_option maxHeartbeats 1000000
/-! Sf: a def keeps its promise; the table of all defs. -/
namespace Sf
open PySem PySem.Spec PyProof.Rows L2
variable [WorldI]

theorem fnG_of {P : Program} {w : World} {K : PySem.W.Frag} {mg : Str → Option Value} {base : Heap} {k : Nat} {f : Addr} {name qual : Str} {params : Arguments} {body : List Stmt} {scope : Scope} {dV kV doc pm cdv ct oc : Value} {an od : Option Addr}
    {osl : Array (Option Value)} {N ps : List Str} {sp : Sp} (lk : K.lookup f = some ⟨oc, od, .func (PySem.W.fnOf name qual params body scope dV kV doc pm an cdv ct), osl⟩) (hcd : PySem.W.codeIn K cdv qual = true) (S : FnScope N ps scope)
    (len : ∀ vs H Q E, sp vs H Q E → vs.length = ps.length)
    (hbody : ∀ (A : Around) (outer : List Env) (s : Shared) (H : Hp) (vs : List V) (Q : VK) (E : XK), A.guards = some [] → Room k (A.deeper (envOfC qual scope s.heap.objs.size f cdv)) → sp vs H Q E →
      ∃ t, PSs (cxOf (L2.CX P w) P w K mg base N qual scope f cdv A outer s H E) body t ∧ t { nx := fun _ H' => Q .non H', rt := Q } (start N vs) H) :
    FnG P w K mg base (k + 1) f (PySem.W.fnOf name qual params body scope dV kV doc pm an cdv ct) ps sp := by
  refine ⟨len, fun A outer s H args us vs Q E hgd hr e0 hb r hsp => ?_⟩
  have hl := len _ _ _ _ hsp
  have KX : K.In s.heap := e0.mod.kin.keeps fun b o e => (e0.bs b o e).1
  have lim : s.heap.NoLimit := e0.mod.nolimit.keeps fun b o e => (e0.bs b o e).1
  have hkind : ∀ y ∈ ps.zip us, scope.names.lookup y.1 = some .local ∨ (scope.names.lookup y.1 = some .cell ∧ ((cellsFrom (s.heap.objs.size + 1) scope.names []).lookup y.1).isSome = true) := fun ⟨n, v⟩ hy => by
    rcases S.par n (List.of_mem_zip hy).1 with q | q
    · exact .inl q
    · exact .inr ⟨q, PySem.W.cellsFrom_some _ _ _ (.inl q)⟩
  refine codeAny_call_function hr.depth (KX _ _ lk) rfl S.co S.gen rfl (PySem.W.codeRec_of KX hcd) (hb _ _ _ _ ?_)
  refine wpAny_newFunctionEnv_cells S.kind hkind fun env he s1 x => ?_
  subst he
  refine ⟨lim.keeps x.toInCall.keep, codeAny_func ?_⟩
  obtain ⟨t, ht, hq⟩ := hbody A outer s H vs Q E hgd (hr.deeper _) hsp
  have I : Inv (cxOf (L2.CX P w) P w K mg base N qual scope f cdv A outer s H E) [] (start N vs) H s1 := inv_start S hr.hd e0 hl r x
  refine wpAny_mono (ht.run [] s1 (start N vs) H _ I hq) (fun fl s' hs => ?_) fun e s' hs => hs
  have fin : ∀ {σ' : L2.St} {H' : Hp} {v : V} {u : Value}, Inv (cxOf (L2.CX P w) P w K mg base N qual scope f cdv A outer s H E) [] σ' H' s' → RelV v u → Q v H' → CE outer P w H s Q u s' :=
    fun {σ' H' v u} J rv q => ⟨v, H', J.os, J.bare, J.base, J.hok, rv, q⟩
  cases fl with
  | ret u =>
    obtain ⟨v, σ', H', J, rv, q⟩ := hs
    exact fin J rv q
  | next =>
    obtain ⟨σ', H', J, q⟩ := hs
    exact fin (v := V.non) (u := Value.none) J rfl q
  | brk =>
    obtain ⟨_, _, _, q⟩ := hs
    exact False.elim q
  | cont =>
    obtain ⟨_, _, _, q⟩ := hs
    exact False.elim q

/-! ### the entry and the end -/
def bosOf (ws : List W) : List Bool := ws.map W.own
abbrev zxOf (E : XK) : WX := fun c d _ H => E c d H
theorem finS_at {ws : List W} {E : Sto} {i : Nat} {w : W} (h : (finS ws E)[i]? = some w) : ∃ w0, ws[i]? = some w0 ∧ ((w0.own = true ∧ w = (getS E i).getD w0) ∨ (w0.own = false ∧ w = w0)) := by
  unfold finS at h
  rw [List.getElem?_map] at h
  by_cases l : i < ws.length
  · rw [List.getElem?_range l] at h
    have e : ws[i]? = some ws[i] := List.getElem?_eq_getElem l
    have h2 : some (match ws[i]? with
      | some w => if w.own then (getS E i).getD w else w
      | none => W.fz .none) = some w := h
    rw [e] at h2
    refine ⟨ws[i], e, ?_⟩
    have h3 : some (if ws[i].own then (getS E i).getD ws[i] else ws[i]) = some w := h2
    cases q : ws[i].own with
    | true =>
      rw [q] at h3
      cases h3
      exact .inl ⟨rfl, rfl⟩
    | false =>
      rw [q] at h3
      cases h3
      exact .inr ⟨rfl, rfl⟩
  · rw [List.getElem?_eq_none (by simpa using l)] at h
    cases h
theorem finS_len {ws : List W} {E : Sto} : (finS ws E).length = ws.length := by
  unfold finS
  rw [List.length_map, List.length_range]
theorem start_at {N : List Str} {vs : List V} {i : Nat} {v : V} : (start N vs)[i]? = some (some v) ↔ vs[i]? = some v := by
  unfold L2.start
  by_cases l : i < vs.length
  · rw [List.getElem?_append_left (by simpa using l), List.getElem?_map]
    cases vs[i]? <;> simp
  · rw [List.getElem?_append_right (by simpa using l), List.getElem?_replicate, List.getElem?_eq_none (by omega)]
    split <;> simp
theorem map_some_at {α : Type} {vs : List α} {i : Nat} {v : α} : (vs.map some)[i]? = some (some v) ↔ vs[i]? = some v := by
  rw [List.getElem?_map]
  cases vs[i]? <;> simp
/-- the store at the entry -/
def entS (ws : List W) (n : Nat) : Sto := ws.map some ++ List.replicate n none
theorem entS_at {ws : List W} {n i : Nat} {w : W} : (entS ws n)[i]? = some (some w) ↔ ws[i]? = some w := by
  unfold entS
  by_cases l : i < ws.length
  · rw [List.getElem?_append_left (by simpa using l), List.getElem?_map]
    cases ws[i]? <;> simp
  · rw [List.getElem?_append_right (by simpa using l), List.getElem?_replicate, List.getElem?_eq_none (by omega)]
    split <;> simp
section
variable {K : PySem.W.Frag} {F H : Hp} {ws : List W} {vs : List V} {N : List Str} {n : Nat}
theorem ent_own {i : Nat} {a : Addr} : ownAt (entS ws n) (start N vs) i a ↔ ownAt (ws.map some) (vs.map some) i a := by
  constructor
  · intro ⟨w, h1, h2, h3⟩
    exact ⟨w, map_some_at.mpr (entS_at.mp h1), h2, map_some_at.mpr (start_at.mp h3)⟩
  · intro ⟨w, h1, h2, h3⟩
    exact ⟨w, entS_at.mpr (map_some_at.mp h1), h2, start_at.mpr (map_some_at.mp h3)⟩
theorem ent_mut {i : Nat} {a : Addr} : mutAt (entS ws n) (start N vs) i a ↔ mutAt (ws.map some) (vs.map some) i a := by
  constructor
  · intro ⟨w, h1, h2, h3⟩
    exact ⟨w, map_some_at.mpr (entS_at.mp h1), h2, map_some_at.mpr (start_at.mp h3)⟩
  · intro ⟨w, h1, h2, h3⟩
    exact ⟨w, entS_at.mpr (map_some_at.mp h1), h2, start_at.mpr (map_some_at.mp h3)⟩
theorem ent_SR (S : SR K F H (ws.map some) (vs.map some)) (hn : ws.length + n = N.length) : SR K F H (entS ws n) (start N vs) := by
  have hl : ws.length = vs.length := by
    have := S.len
    rw [List.length_map, List.length_map] at this
    exact this
  refine ⟨?_, fun i w q => ?_, fun i j a h1 h2 => S.sep i j a (ent_own.mp h1) (ent_own.mp h2), fun i a h => S.free i a (ent_own.mp h), S.le⟩
  · unfold entS L2.start
    rw [List.length_append, List.length_append, List.length_map, List.length_map, List.length_replicate, List.length_replicate]
    omega
  · obtain ⟨v, h1, h2⟩ := S.at_ i w (map_some_at.mpr (entS_at.mp q))
    exact ⟨v, start_at.mpr (map_some_at.mp h1), h2⟩
theorem bo_at {i : Nat} : bOf (bosOf ws) i = true ↔ ∃ w, ws[i]? = some w ∧ w.own = true := by
  unfold bOf bosOf
  rw [List.getD_eq_getElem?_getD, List.getElem?_map]
  cases ws[i]? with
  | none => simp
  | some w => simp
theorem ent_own_bo {i : Nat} {a : Addr} (h : ownAt (entS ws n) (start N vs) i a) : bOf (bosOf ws) i = true := by
  obtain ⟨w, h1, h2, _⟩ := h
  exact bo_at.mpr ⟨w, entS_at.mp h1, h2⟩
theorem kept_at {E : Sto} {i : Nat} {w : W} (h : keptS ws E = true) (e : ws[i]? = some w) (o : w.own = true) : ∃ u, getS E i = some u := by
  have l : i < ws.length := (List.getElem?_eq_some_iff.mp e).1
  have q := List.all_eq_true.mp h i (List.mem_range.mpr l)
  have q2 : (match ws[i]? with
    | some w => !w.own || (getS E i).isSome
    | none => true) = true := q
  rw [e] at q2
  have q3 : (!w.own || (getS E i).isSome) = true := q2
  rw [o] at q3
  exact Option.isSome_iff_exists.mp q3
/-- what the caller sees behind the call -/
theorem fin_all {F' H' : Hp} {E' : Sto} {σ' : L2.St} (S : SR K F H (ws.map some) (vs.map some)) (hn : ws.length + n = N.length) (hk : keptS ws E' = true) (S' : SR K F' H' E' σ') (x : XS (bosOf ws) F H (entS ws n) (start N vs) F' H' E' σ') :
    SR K F' H' ((finS ws E').map some) (vs.map some) ∧ Ext F H (ws.map some) (vs.map some) F' H' ((finS ws E').map some) ∧ ∀ i a, ownAt ((finS ws E').map some) (vs.map some) i a → ownAt E' σ' i a := by
  have hl : ws.length = vs.length := by
    have := S.len
    rw [List.length_map, List.length_map] at this
    exact this
  have Se := ent_SR (N := N) S hn
  have at_ : ∀ {i : Nat} {w : W}, (finS ws E')[i]? = some w → (∃ v w0, ws[i]? = some w0 ∧ w0.own = true ∧ E'[i]? = some (some w) ∧ vs[i]? = some v ∧ σ'[i]? = some (some v)) ∨ (w.own = false ∧ ws[i]? = some w) := fun {i w} h => by
    obtain ⟨w0, e, ⟨o, q⟩ | ⟨o, q⟩⟩ := finS_at h
    · obtain ⟨u, g⟩ := kept_at hk e o
      rw [g] at q
      cases q
      have lt : i < vs.length := by rw [← hl]; exact (List.getElem?_eq_some_iff.mp e).1
      have ev : vs[i]? = some vs[i] := List.getElem?_eq_getElem lt
      exact .inl ⟨vs[i], w0, e, o, getS_at g, ev, by rw [x.par i (bo_at.mpr ⟨w0, e, o⟩)]; exact start_at.mpr ev⟩
    · subst q
      exact .inr ⟨o, e⟩
  have ow : ∀ i a, ownAt ((finS ws E').map some) (vs.map some) i a → ownAt E' σ' i a ∧ bOf (bosOf ws) i = true := fun i a ⟨w, h1, h2, h3⟩ => by
    rcases at_ (map_some_at.mp h1) with ⟨v, w0, q1, q2, q3, q4, q5⟩ | ⟨q, _⟩
    · have := map_some_at.mp h3
      rw [q4] at this
      cases this
      exact ⟨⟨w, q3, h2, q5⟩, bo_at.mpr ⟨w0, q1, q2⟩⟩
    · rw [q] at h2
      cases h2
  have ow2 : ∀ i a, ownAt ((finS ws E').map some) (vs.map some) i a → ownAt (entS ws n) (start N vs) i a := fun i a h => by
    obtain ⟨o, b⟩ := ow i a h
    rcases x.own i a o with q | ⟨q, _⟩
    · exact q
    · rw [b] at q
      cases q
  refine ⟨⟨by rw [List.length_map, List.length_map, finS_len]; exact hl, fun i w q => ?_, fun i j a h1 h2 => S'.sep i j a (ow i a h1).1 (ow j a h2).1, fun i a h => S'.free i a (ow i a h).1, S'.le⟩,
    ⟨x.fle, fun b o h m => x.keep b o h fun i q => m i (ent_mut.mp q), fun b h => (x.fnew b h).imp_right fun q => q.imp_left fun ⟨i, q⟩ => ⟨i, ent_mut.mp q⟩, fun i b h => ent_own.mp (ow2 i b h), fun i b h => ?_, x.thr⟩, fun i a h => (ow i a h).1⟩
  · rcases at_ (map_some_at.mp q) with ⟨v, w0, q1, q2, q3, q4, q5⟩ | ⟨o, e⟩
    · obtain ⟨v2, s2, r2⟩ := S'.at_ i w q3
      rw [q5] at s2
      cases s2
      exact ⟨v, map_some_at.mpr q4, r2⟩
    · obtain ⟨v, s, r⟩ := S.at_ i w (map_some_at.mpr e)
      exact ⟨v, s, r.keepFz o x.fle⟩
  · have o2 := ow2 i b h.own
    have m : mutAt E' σ' i b := by
      obtain ⟨w, h1, h2, h3⟩ := h
      rcases at_ (map_some_at.mp h1) with ⟨v, w0, q1, q2, q3, q4, q5⟩ | ⟨q, _⟩
      · have := map_some_at.mp h3
        rw [q4] at this
        cases this
        exact ⟨w, q3, h2, q5⟩
      · rw [mu_own h2] at q
        cases q
    rcases x.mta i b m with ⟨j, q⟩ | q
    · have := Se.sep i j b o2 q.own
      subst this
      exact ent_mut.mp q
    · exact absurd q (o2.some_at Se)
end

theorem fn_ask {K : PySem.W.Frag} {xa : Nat → Addr} {fns : List Fn} {n f : Nat} {fn : Fn} {N : List Str} {vs : List V} {H : Hp} {Q : VK} {E : XK} (e : fns[f]? = some fn) (hN : N.length = fn.nl) (hp : fn.np ≤ fn.nl) (h : spF K xa (callD fns (n + 1) f) fn.np vs H Q E) :
    ∃ bo, toTS K xa (zxOf E) bo (evS (callD fns n) bo fn.body) { nx := fun _ H' => Q .non H', rt := Q } (start N vs) H := by
  obtain ⟨lv, F, ws, S, p⟩ := h
  have hl : ws.length = vs.length := by
    have := S.len
    rw [List.length_map, List.length_map] at this
    exact this
  have lw : ws.length = fn.np := hl.trans lv
  have ec : callD fns (n + 1) f ws = (match evS (callD fns n) (bosOf ws) fn.body (entS ws (fn.nl - fn.np)) with
        | .stuck => CRes.stuck
        | .ok (.ret w) E => if keptS ws E then .ret w (finS ws E) else .stuck
        | .ok .next E => if keptS ws E then .ret (.fz .none) (finS ws E) else .stuck
        | .ok .brk _ => .stuck
        | .ok .cont _ => .stuck
        | .exc c E => if keptS ws E then .exc c (finS ws E) else .stuck) := by
    show (match fns[f]? with
      | none => CRes.stuck
      | some fn => _) = _
    rw [e]
    exact if_pos lw
  have hn : ws.length + (fn.nl - fn.np) = N.length := by omega
  refine ⟨bosOf ws, F, entS ws (fn.nl - fn.np), ent_SR S hn, ?_⟩
  rw [ec] at p
  cases q : evS (callD fns n) (bosOf ws) fn.body (entS ws (fn.nl - fn.np)) with
  | stuck =>
    rw [q] at p
    exact p
  | exc c E' =>
    rw [q] at p
    intro F' H' σ' S' x
    cases hk : keptS ws E' with
    | false =>
      simp only [hk] at p
      exact p.elim
    | true =>
      simp only [hk] at p
      obtain ⟨S2, x2, _⟩ := fin_all S hn hk S' x
      exact p F' H' S2 x2
  | ok fl E' =>
    rw [q] at p
    intro F' H' σ' S' x
    cases fl with
    | brk => exact p.elim
    | cont => exact p.elim
    | next =>
      cases hk : keptS ws E' with
      | false =>
        simp only [hk] at p
        exact p.elim
      | true =>
        simp only [hk] at p
        obtain ⟨S2, x2, _⟩ := fin_all S hn hk S' x
        exact p F' H' .non S2 x2 ⟨.non, fun o => nomatch o⟩
    | ret w =>
      cases hk : keptS ws E' with
      | false =>
        simp only [hk] at p
        exact p.elim
      | true =>
        simp only [hk] at p
        obtain ⟨S2, x2, o2⟩ := fin_all S hn hk S' x
        intro v r
        refine p F' H' v S2 x2 ⟨r.1, fun o a ea => ?_⟩
        obtain ⟨t1, t2, t3⟩ := r.2 o a ea
        refine ⟨?_, t1, fun i z => t2 i (o2 i a z)⟩
        rcases t3 with t3 | ⟨i, b, t3⟩
        · exact t3
        · rw [ent_own_bo t3] at b
          cases b

/-! ### the table -/
theorem tk0 {X : Cx} : Takes X Z0 := fun _ _ ⟨_, _, _, _, _, _, _, _, _, _, _, _, _, _, _, _, w⟩ => w.elim
def FuncAt (K : PySem.W.Frag) (fa : Addr) (fd : FuncData) : Prop := ∃ (oc : Value) (od : Option Addr) (osl : Array (Option Value)), K.lookup fa = some ⟨oc, od, .func fd, osl⟩
theorem FuncAt.inj {K : PySem.W.Frag} {fa : Addr} {fd fd' : FuncData} (h : FuncAt K fa fd) (g : FuncAt K fa fd') : fd = fd' := by
  obtain ⟨_, _, _, a⟩ := h
  obtain ⟨_, _, _, b⟩ := g
  rw [a] at b
  cases b
  rfl
theorem funcAt {K : PySem.W.Frag} {x qual : Str} {params : Arguments} {body : List Stmt} {scope : Scope} {dvs : List V} {kws : List (Str × V)} {f : Addr} {fd : FuncData} (D : FunD K x qual params body scope dvs kws f fd) : FuncAt K f fd := by
  obtain ⟨oc, od, dV, kV, doc, pm, an, cdv, ct, osl, e, lk, _⟩ := D.ex
  exact ⟨oc, od, osl, lk⟩
/-- the classes of some numbers have what their instances' fields ask -/
structure FldC (K : PySem.W.Frag) (cs : List Nat) (f : Str) : Prop where
  c : ∀ n, cs.contains n = true → Cls K (WorldI.cA n)
  n : ∀ n, cs.contains n = true → NoAttr K (WorldI.cA n) f
structure MthC (K : PySem.W.Frag) (cs : List Nat) (m : Str) (fa : Addr) : Prop where
  c : ∀ n, cs.contains n = true → Cls K (WorldI.cA n)
  m : ∀ n, cs.contains n = true → Meth K (WorldI.cA n) m fa
/-- where a def is found: by a name of the module, by the name of a method of some classes -/
abbrev CN : Type := Sum Str (List Nat × Str)
def AtN (K : PySem.W.Frag) (mg : Str → Option Value) : CN → Addr → Prop
  | .inl x, fa => mg x = some (.ref fa)
  | .inr (cs, m), fa => MthC K cs m fa
structure Callee (P : Program) (w : World) (K : PySem.W.Frag) (mg : Str → Option Value) (base : Heap) (xa : Nat → Addr) (cl : Nat → List W → CRes) (k : Nat) (f : Nat) (x : CN) (ps : List Str) : Prop where
  num : ∀ ws, ws.length ≠ ps.length → cl f ws = .stuck
  ex : ∃ fa fd, FnG P w K mg base k fa fd ps (spF K xa (cl f) ps.length) ∧ AtN K mg x fa ∧ PySem.W.keepIn K (.ref fa) = true ∧ Binds K fd ps [] ∧ FuncAt K fa fd
section
variable {X : Cx} {xa : Nat → Addr} {Z : WX} {cl : Nat → List W → CRes}
theorem de_callC {k : Nat} {f : Nat} {x : Str} {ps : List Str} {p pos : Pos} {e : Expr} {es : List Expr} {as : IAs} (c : Callee X.prog X.w X.K X.mg X.base xa cl k f (.inl x) ps) (tk : Takes X Z) (hgd : X.A.guards = some []) (hr : Room k X.A)
    (ha : PA X (e :: es) (toTAs X.K xa Z (evAs cl as))) (hg : Gl X x := by rfl) (hdb : (x == ("__debug__" : Str)) = false := by decide) (he : starEach (e :: es) X.env = (false, eval e X.env) :: starEach es X.env := by rfl) (hpl : (backTo pos (starEach es X.env)).any (·.1) = false := by rfl) :
    PE X (.Call (.Name x p) (e :: es) [] pos) (toTE X.K xa Z (ev cl (.call f as))) := by
  obtain ⟨fa, fd, G, hm, hk, hb, _⟩ := c.ex
  exact de_call tk c.num G hgd hr hg hm hk hb ha hdb he hpl
theorem de_callC0 {k : Nat} {f : Nat} {x : Str} {ps : List Str} {p pos : Pos} (c : Callee X.prog X.w X.K X.mg X.base xa cl k f (.inl x) ps) (tk : Takes X Z) (hgd : X.A.guards = some []) (hr : Room k X.A) (hg : Gl X x := by rfl)
    (hdb : (x == ("__debug__" : Str)) = false := by decide) : PE X (.Call (.Name x p) [] [] pos) (toTE X.K xa Z (ev cl (.call f .nil))) := by
  obtain ⟨fa, fd, G, hm, hk, hb, _⟩ := c.ex
  exact de_call0 tk c.num G hgd hr hg hm hk hb hdb
end
abbrev Table (P : Program) (w : World) (K : PySem.W.Frag) (mg : Str → Option Value) (base : Heap) (xa : Nat → Addr) (fns : List Fn) (tab : List (CN × List Str)) (n : Nat) : Prop :=
  ∀ (f : Nat) x ps, tab[f]? = some (x, ps) → Callee P w K mg base xa (callD fns n) n f x ps
/-- one def -/
theorem def_ok {P : Program} {w : World} {K : PySem.W.Frag} {mg : Str → Option Value} {base : Heap} {xa : Nat → Addr} {fns : List Fn} {n f r : Nat} {fn : Fn} {x qual : Str} {params : Arguments} {body : List Stmt} {scope : Scope} {fa : Addr} {fd : FuncData} {N ps : List Str} {cn : CN}
    (D : FunD K x qual params body scope [] [] fa fd) (hm : AtN K mg cn fa) (S : FnScope N ps scope) (e : fns[f]? = some fn) (hN : N.length = fn.nl) (hp : fn.np = ps.length) (hb : Binds K fd ps [])
    (hbody : ∀ (cdv : Value) (A : Around) (outer : List Env) (s : Shared) (H : Hp) (E : XK) (bo : List Bool), Takes (cxOf (L2.CX P w) P w K mg base N qual scope fa cdv A outer s H E) (zxOf E) →
      (cxOf (L2.CX P w) P w K mg base N qual scope fa cdv A outer s H E).A.guards = some [] → Room r (cxOf (L2.CX P w) P w K mg base N qual scope fa cdv A outer s H E).A →
      PassesOwn (model (cxOf (L2.CX P w) P w K mg base N qual scope fa cdv A outer s H E).prog (cxOf (L2.CX P w) P w K mg base N qual scope fa cdv A outer s H E).w) (cxOf (L2.CX P w) P w K mg base N qual scope fa cdv A outer s H E).A (cxOf (L2.CX P w) P w K mg base N qual scope fa cdv A outer s H E).env (cxOf (L2.CX P w) P w K mg base N qual scope fa cdv A outer s H E).xe →
      PSs (cxOf (L2.CX P w) P w K mg base N qual scope fa cdv A outer s H E) body (toTS K xa (zxOf E) bo (evS (callD fns n) bo fn.body))) :
    Callee P w K mg base xa (callD fns (n + 1)) (r + 1) f cn ps := by
  have hle : fn.np ≤ fn.nl := by
    have := congrArg List.length S.pre
    rw [List.length_take] at this
    omega
  refine ⟨fun ws h => ?_, fa, fd, ?_, hm, D.kp, hb, funcAt D⟩
  · show (match fns[f]? with
      | none => CRes.stuck
      | some fn => _) = _
    rw [e]
    exact if_neg (by rw [hp]; exact h)
  · obtain ⟨oc, od, dV, kV, doc, pm, an, cdv, ct, osl, rfl, lk, hcd, _, _⟩ := D.ex
    refine fnG_of lk hcd S (fun vs H Q E h => h.1) fun A outer s H vs Q E hgd hr hsp => ?_
    rw [← hp] at hsp
    obtain ⟨bo, q⟩ := fn_ask (N := N) e hN hle hsp
    exact ⟨_, hbody cdv A outer s H E bo (takes_of rfl rfl rfl rfl) hgd hr (passes_of rfl), q⟩
theorem table0 {P : Program} {w : World} {K : PySem.W.Frag} {mg : Str → Option Value} {base : Heap} {xa : Nat → Addr} {fns : List Fn} {tab : List (CN × List Str)} (h : ∀ (f : Nat) x ps, tab[f]? = some (x, ps) → ∃ fa fd, AtN K mg x fa ∧ PySem.W.keepIn K (.ref fa) = true ∧ Binds K fd ps [] ∧ FuncAt K fa fd) : Table P w K mg base xa fns tab 0 := by
  intro f x ps e
  obtain ⟨fa, fd, h1, h2, h3, h4⟩ := h f x ps e
  exact ⟨fun _ _ => rfl, fa, fd, ⟨fun vs H Q E q => q.1, fun A outer s H args us vs Q E _ _ _ _ _ q => False.elim (by
    obtain ⟨_, F, ws, _, p⟩ := q
    exact p)⟩, h1, h2, h3, h4⟩
def AllF (Pr : Nat → CN → List Str → Prop) : Nat → List (CN × List Str) → Prop
  | _, [] => True
  | i, t :: r => Pr i t.1 t.2 ∧ AllF Pr (i + 1) r
theorem AllF.get {Pr : Nat → CN → List Str → Prop} : ∀ {l : List (CN × List Str)} {i j : Nat} {x : CN} {ps : List Str}, AllF Pr i l → l[j]? = some (x, ps) → Pr (i + j) x ps
  | [], _, _, _, _, _, e => by simp at e
  | t :: r, i, 0, x, ps, h, e => by
    simp at e
    subst e
    exact h.1
  | t :: r, i, j + 1, x, ps, h, e => by
    have := AllF.get (l := r) (i := i + 1) (j := j) h.2 (by simpa using e)
    rw [show i + (j + 1) = i + 1 + j by omega]
    exact this
theorem tab0 {Pr : CN → List Str → Prop} {l : List (CN × List Str)} {j : Nat} {x : CN} {ps : List Str} (h : AllF (fun _ x ps => Pr x ps) 0 l) (e : l[j]? = some (x, ps)) : Pr x ps := h.get e
theorem main_of {P : Program} {w : World} {K : PySem.W.Frag} {mg : Str → Option Value} {base : Heap} {xa : Nat → Addr} {cl : Nat → List W → CRes} {k f : Nat} {x p : Str} {fa : Addr} {fd : FuncData} (c : Callee P w K mg base xa cl k f (.inl x) [p]) (hm : mg x = some (.ref fa)) (u : FuncAt K fa fd) : FnG P w K mg base k fa fd [p] (spF K xa (cl f) 1) := by
  obtain ⟨fa', fd', G, hm', _, _, u'⟩ := c.ex
  have hm' : mg x = some (.ref fa') := hm'
  rw [hm] at hm'
  cases hm'
  cases u.inj u'
  exact G
theorem table_all {P : Program} {w : World} {K : PySem.W.Frag} {mg : Str → Option Value} {base : Heap} {xa : Nat → Addr} {fns : List Fn} {tab : List (CN × List Str)} (h0 : Table P w K mg base xa fns tab 0)
    (hs : ∀ n, Table P w K mg base xa fns tab n → AllF (fun f x ps => Callee P w K mg base xa (callD fns (n + 1)) (n + 1) f x ps) 0 tab) : ∀ n, Table P w K mg base xa fns tab n
  | 0 => h0
  | n + 1 => fun f x ps e => by
    have := (hs n (table_all h0 hs n)).get e
    rw [Nat.zero_add] at this
    exact this
end Sf

end

section
set_option maxRecDepth 100000
set_option maxHeartbeats 1000000
/-! Sf: dicts in expressions and statements. -/
namespace Sf
open PySem PySem.Spec PyProof.Rows L2
variable [WorldI]

/-! ### a new dict -/
abbrev newO (t : Bool) (p : Addr) : HO := if t then DT WorldI.w p [] else .dK []
theorem DctO.rw {K : PySem.W.Frag} {F H : Hp} {a : Addr} {t : Bool} {kvs : List (D × D)} (h : DctO F H a t kvs) (z : kvs.length ≤ lineN) : RW K F H (.od t kvs) (.ref a) := by
  cases t with
  | false => exact let ⟨es, e, r⟩ := h; ⟨a, rfl, z, es, e, r⟩
  | true => exact let ⟨es, e, r⟩ := h; ⟨a, rfl, z, es, e, r⟩
theorem RW.dct {K : PySem.W.Frag} {F H : Hp} {a : Addr} {t : Bool} {kvs : List (D × D)} (h : RW K F H (.od t kvs) (.ref a)) : DctO F H a t kvs ∧ kvs.length ≤ lineN := by
  obtain ⟨b, e, z, r⟩ := h
  cases e
  refine ⟨?_, z⟩
  cases t with
  | false => exact r
  | true => exact r
theorem newO_dct {F H : Hp} {t : Bool} {p : Addr} : DctO F (upd H p (newO t p)) p t [] := by
  cases t with
  | false => exact ⟨_, upd_same, .nil⟩
  | true => exact ⟨_, upd_same, .nil⟩
theorem newO_mut {t : Bool} {p : Addr} : Mut (some (newO t p)) := by cases t <;> exact True.intro
theorem K1.od {K : PySem.W.Frag} {F H : Hp} {Q : VK} {t : Bool} {kvs : List (D × D)} {p : Addr} {ob : HO} (k : K1 K H Q F (.od t kvs)) (l : Le F H) (h : H p = none) (z : kvs.length ≤ lineN) (d : DctO F (upd H p ob) p t kvs) : Q (.ref p) (upd H p ob) :=
  k _ _ _ (Grow.newL l h) ⟨d.rw z, fun _ a e => by
    cases e
    exact ⟨h, none_le l h⟩⟩
theorem inv_new {X : Cx} {pins : List (Addr × Obj)} {σ : L2.St} {H : Hp} {s : Shared} (t : Bool) (I : Inv X pins σ H s) : Inv X pins σ (upd H s.heap.objs.size (newO t s.heap.objs.size)) { s with heap := s.heap.push { cls := .type "dict", data := .dict #[] } } := (dct_new (F := H) (t := t) I).2
theorem dput_le (kvs : List (D × D)) (k v : D) : (dput kvs k v).length ≤ kvs.length + 1 := by
  unfold dput
  split
  · rw [List.length_map]
    omega
  · simp

section
variable {K : PySem.W.Frag} {F H : Hp} {E : Sto} {σ : L2.St}
theorem SR.writeO (S : SR K F H E σ) {i : Nat} {w0 w1 : W} {a : Addr} {ob : HO} (e : E[i]? = some (some w0)) (hm : w0.mu = true) (s : σ[i]? = some (some (.ref a))) (r : RW K F (upd H a ob) w1 (.ref a)) :
    SR K F (upd H a ob) (setS E i w1) σ ∧ Ext F H E σ F (upd H a ob) (setS E i w1) := by
  have ma : mutAt E σ i a := ⟨_, e, hm, s⟩
  have oa : ownAt E σ i a := ma.own
  have o1 : ∀ j b, ownAt (setS E i w1) σ j b → ownAt E σ j b := fun j b ⟨w, q1, q2, q3⟩ => by
    by_cases z : i = j
    · subst z
      exact ⟨_, e, mu_own hm, q3⟩
    · rw [setS_ne z] at q1
      exact ⟨w, q1, q2, q3⟩
  have m1 : ∀ j b, mutAt (setS E i w1) σ j b → mutAt E σ j b := fun j b ⟨w, q1, q2, q3⟩ => by
    by_cases z : i = j
    · subst z
      exact ⟨_, e, hm, q3⟩
    · rw [setS_ne z] at q1
      exact ⟨w, q1, q2, q3⟩
  refine ⟨⟨by rw [setS_len]; exact S.len, fun j w q => ?_, fun j k b h1 h2 => S.sep j k b (o1 j b h1) (o1 k b h2), fun j b h => S.free j b (o1 j b h), S.le.newR (S.free i a oa)⟩, ⟨Le.refl F, fun b o h n => ?_, fun b h => .inl h, o1, m1, fun b h => ?_⟩⟩
  · by_cases z : i = j
    · subst z
      rw [setS_self e] at q
      cases q
      exact ⟨_, s, r⟩
    · rw [setS_ne z] at q
      obtain ⟨v, h1, h2⟩ := S.at_ j w q
      refine ⟨v, h1, h2.keep (Le.refl F) fun ow b u e2 e3 => ?_⟩
      subst e2
      rw [upd_ne fun y => z (S.sep i j a oa (by rw [← y]; exact ⟨w, q, ow, h1⟩))]
      exact e3
  · rw [upd_ne fun y => n i (by rw [y]; exact ma)]
    exact h
  · by_cases z : b = a
    · subst z
      rw [upd_same]
      exact fun y => nomatch y
    · rw [upd_ne z]
      exact h
end

section
variable {X : Cx} {xa : Nat → Addr} {Z : WX} {bo : List Bool} {cl : Nat → List W → CRes} {pos : Pos}
theorem pe_dnewX (t : Bool) : PE X (.Dict [] [] pos) (fun σ H Q => ∀ p, H p = none → Q (.ref p) (upd H p (newO t p))) := ⟨fun pins s σ H Q I h =>
  wpAny_Dict_empty ⟨.ref s.heap.objs.size, _, inv_new t I, rfl, h _ (I.hok.fresh (Nat.le_refl _))⟩⟩
theorem de_dnew (t : Bool) : PE X (.Dict [] [] pos) (toTE X.K xa Z (ev cl (.dnew t))) := by
  refine pe_imp (pe_dnewX t) fun σ H Q ⟨F, E, S, p⟩ q hq => ?_
  unfold ev at p
  have k1 : K1 X.K H Q F (.od t []) := K1.of_post S (fun b z => z) p
  exact k1.od S.le hq (Nat.zero_le _) newO_dct

/-! ### one pair -/
def tDisp1 (tk tv : TE) (t : Bool) : TE := fun σ H Q => ∀ p, H p = none → tk σ (upd H p (newO t p)) fun x H1 => tv σ H1 fun y H2 => H2 p = some (newO t p) ∧ ∃ F d e, Le F H2 ∧ RF F x d ∧ RF F y e ∧ kindOk t d = true ∧ ∀ ob, Mut (some ob) → (∀ F', Le F F' → DctO F' (upd H2 p ob) p t [(d, e)]) → Q (.ref p) (upd H2 p ob)
theorem pe_disp1 {k v : Expr} {tk tv : TE} {t : Bool} (hW : X.w = WorldI.w) (hu : X.A.units + 16 < cLine) (hk : PE X k tk) (hv : PE X v tv) : PE X (.Dict [some k] [v] pos) (tDisp1 tk tv t) := by
  refine ⟨fun pins s σ H Q I q => ?_⟩
  have hn := I.hok.fresh (Nat.le_refl s.heap.objs.size)
  have I1 := inv_new t I
  have hb : (s.heap.objs.size == sysModules) = false := beq_eq_false_iff_ne.mpr (Ne.symm (Nat.ne_of_lt I.big))
  have q0 := q _ hn
  cases t with
  | false =>
    refine wpAny_Dict_walk (knd := mixKind X.prog X.w) rfl rfl (fun z => nomatch z) (by show 1 ≤ 15; decide) (pairTrees_cons_walk (thn (hk.run pins _ σ _ _ I1 q0) fun u s1 ⟨x, H1, I2, rx, q1⟩ => thn (hv.run pins s1 σ H1 _ I2 q1) fun w2 s2 ⟨y, H2, I3, ry, e, F, d, ed, l, rd, re, n, fin⟩ => pairTrees_nil_walk ?_))
    obtain ⟨k', hk'⟩ := kindK n
    have ex := keyD_rf hk' rd
    subst ex
    obtain ⟨z, hd, vs0, r0, dd⟩ := dk_of I3.hok (show H2 s.heap.objs.size = some (.dK []) from e)
    cases r0
    refine ⟨[(k', w2)], ⟨kV_is rx, rfl, True.intro⟩, dd, fun h' dd' hs => ?_⟩
    have he : ∃ q, h'.get? s.heap.objs.size = some q := let ⟨q, _, _, hq, _⟩ := dd'; ⟨q, hq⟩
    refine ⟨.ref s.heap.objs.size, upd H2 s.heap.objs.size (.dK [(k', y)]), d_write I3 (by rw [e]; exact True.intro) hs he (dk_new (vs := [(k', w2)]) (by show 1 ≤ sizeLine; decide) hd (.cons ⟨rfl, ry⟩ .nil) dd'), rfl, fin _ True.intro fun F' l' => ⟨_, upd_same, .cons hk' (re.up l') .nil⟩⟩
  | true =>
    have hl := pairTrees_length [some k] [v] X.env pos rfl rfl
    have h0 : pairTrees [some k] [v] X.env pos ≠ [] := fun z => by
      rw [z] at hl
      cases hl
    rw [arm_eval_Dict, zip_pairTrees [some k] [v] X.env pos rfl rfl, dictDisplay_pairs _ h0 (by rw [hl]; show 1 < 17; decide)]
    refine wpAny_bind (wpAny_standAt (wpAny_bind (wpAny_subDictH (knd := nestedKind X.prog X.w) (Q := fun d s' => wpAny (model X.prog X.w) X.A (pure (Value.ref d)) (EP X pins σ Q) X.xe s') (by show X.A.units + 8 < cLine; omega) (by rw [hl]; show 1 ≤ 15; decide) ?_)))
    refine pairTrees_cons_walk (thn (hk.run pins _ σ _ _ I1 q0) fun u s1 ⟨x, H1, I2, rx, q1⟩ => thn (hv.run pins s1 σ H1 _ I2 q1) fun w2 s2 ⟨y, H2, I3, ry, e, F, d, ed, l, rd, re, n, fin⟩ => pairTrees_nil_walk ?_)
    obtain ⟨a, rfl⟩ := ref_of_kindT n rd
    cases rx
    obtain ⟨hs0, hz, ys, tx, dd⟩ := dt_at (F := F) hW I3 l (.inl (show H2 s.heap.objs.size = some (DT WorldI.w s.heap.objs.size []) from e)) .nil
    cases tx
    refine ⟨[(nk d, a, w2)], ⟨rfl, rfl, key_is I3.hok n (rd.up l), True.intro⟩, dd, fun h' tk dd' hs => wpAny_pure ?_⟩
    obtain ⟨o, es, ep, e1, e2, e3, e4, _, e5⟩ := dd'
    have new : DTx WorldI.w s.heap.objs.size [(nk d, a, y)] h' := ⟨hs0, by show 1 ≤ lineN; decide, _, o, es, ep, .cons ⟨rfl, rfl, ry⟩ .nil, e1, e2, e3, by rw [e4, hW]; rfl, e5⟩
    exact ⟨.ref s.heap.objs.size, upd H2 s.heap.objs.size (DT WorldI.w s.heap.objs.size [(nk d, a, y)]), d_write I3 (by rw [e]; exact True.intro) hs ⟨o, e1⟩ (dtx_ok new), rfl, fin _ True.intro fun F' l' => ⟨_, upd_same, .cons n (rd.up l') (re.up l') .nil⟩⟩

/-- given out of hand: data, lists -/
theorem ddL_of {e : Expr} {x : IE} {g : Sto → Res D} (h : PE X e (toTE X.K xa Z (ev cl x))) (hg : ∀ E, g E = (ev cl x E).bind fun w E1 => Res.lift w.frzL E1) : PE X e (toTD X.K xa Z g) := by
  refine pe_imp h fun σ H Q ⟨F, E, S, p⟩ => ?_
  rw [hg] at p
  refine ⟨F, E, S, (Post.bindB p).mono fun w E1 F1 H1 _ S1 x1 p2 v r => ?_⟩
  obtain ⟨d, e1, p3⟩ := Post.liftB p2
  cases w with
  | fz d0 =>
    cases e1
    exact p3 F1 H1 S1 x1 v r.1
  | ol ds =>
    cases e1
    obtain ⟨F2, S2, l2, n2, r2⟩ := S1.freezeT r
    exact p3 F2 H1 S2 (x1.widen l2 n2) v r2
  | _ => cases e1
theorem bind_bind {α β γ : Type} (r : Res α) (f : α → Sto → Res β) (g : β → Sto → Res γ) : (r.bind f).bind g = r.bind fun a E => (f a E).bind g := by cases r <;> rfl

theorem two_bind {β : Type} (r1 : Res W) (r2 : Sto → Res W) (g : D → D → Sto → Res β) : (r1.bind fun w E1 => (Res.lift w.frzL E1).bind fun d E2 => (r2 E2).bind fun u E3 => (Res.lift u.frzL E3).bind fun e E4 => g d e E4) = (r1.bind fun w E1 => Res.lift w.frzL E1).bind fun d E2 => ((r2 E2).bind fun u E3 => Res.lift u.frzL E3).bind fun e E4 => g d e E4 := by
  rw [bind_bind]
  congr 1
  funext w E1
  congr 1
  funext d E2
  rw [bind_bind]
theorem Ext.setN {F H F' H' : Hp} {E E' : Sto} {σ : L2.St} {a : Addr} {ob : HO} (x : Ext F H E σ F' H' E') (n : H a = none) : Ext F H E σ F' (upd H' a ob) E' := by
  refine ⟨x.fle, fun b o q m => ?_, x.fnew, x.own, x.mta, fun b q => ?_⟩
  · rw [upd_ne fun z => by
      subst z
      rw [n] at q
      cases q]
    exact x.keep b o q m
  · by_cases z : b = a
    · subst z
      rw [upd_same]
      exact fun y => nomatch y
    · rw [upd_ne z]
      exact x.thr b q
theorem SR.setN {K : PySem.W.Frag} {F H : Hp} {E : Sto} {σ : L2.St} {a : Addr} {ob : HO} (S : SR K F H E σ) (free : ∀ i, ¬ ownAt E σ i a) (fa : F a = none) : SR K F (upd H a ob) E σ := by
  refine ⟨S.len, fun j w e1 => ?_, S.sep, S.free, fun b o e1 => ?_⟩
  · obtain ⟨v, h1, h2⟩ := S.at_ j w e1
    refine ⟨v, h1, h2.keep (Le.refl F) fun ow b o e2 e3 => ?_⟩
    rw [upd_ne fun z => by
      subst z e2
      exact free j ⟨w, e1, ow, h1⟩]
    exact e3
  · rw [upd_ne fun z => by
      subst z
      rw [fa] at e1
      cases e1]
    exact S.le b o e1
theorem de_dsp1 {k v : Expr} {t : Bool} {x y : IE} (hW : X.w = WorldI.w) (hu : X.A.units + 16 < cLine) (hk : PE X k (toTE X.K xa Z (ev cl x))) (hv : PE X v (toTE X.K xa Z (ev cl y))) : PE X (.Dict [some k] [v] pos) (toTE X.K xa Z (ev cl (.dsp1 t x y))) := by
  refine pe_imp (pe_disp1 (t := t) hW hu (ddL_of hk fun _ => rfl) (ddL_of hv fun _ => rfl)) fun σ H Q ⟨F, E, S, p⟩ q hq => ?_
  unfold ev at p
  have gr : Grow F H F (upd H q (newO t q)) := Grow.newL S.le hq
  have S0 := S.grow gr
  have x0 := Ext.grow S gr
  rw [two_bind (ev cl x E) (ev cl y) fun d e E4 => if kindOk t d then Res.ok (W.od t [(d, e)]) E4 else .stuck] at p
  refine ⟨F, E, S0, ((Post.bindB p).rebase x0).mono fun d E1 F1 H1 _ S1 x1 p2 v rv => ?_⟩
  refine ⟨F1, E1, S1, ((Post.bindB p2).rebase (x0.trans x1)).mono fun e E2 F2 H2 _ S2 x2 p3 v2 rv2 => ?_⟩
  have free : ∀ i, ¬ ownAt E σ i q := fun i o => o.some_at S hq
  have x12 := x1.trans x2
  have at2 : H2 q = some (newO t q) := x12.keep q _ upd_same fun i m => free i m.own
  have fq : F q = none := none_le S.le hq
  have fq2 : F2 q = none := by
    cases z : F2 q with
    | none => rfl
    | some u =>
      exfalso
      rcases x12.fnew q (by rw [z]; exact fun y => nomatch y) with h | ⟨i, h⟩ | h
      · exact h fq
      · exact free i h.own
      · rw [upd_same] at h
        cases h
  have n : kindOk t d = true := by
    by_cases n : kindOk t d = true
    · exact n
    · rw [if_neg n] at p3
      exact p3.elim
  rw [if_pos n] at p3
  refine ⟨at2, F2, d, e, S2.le, rv.up x2.fle, rv2, n, fun ob mu hd => ?_⟩
  have free2 : ∀ i, ¬ ownAt E2 σ i q := fun i o => free i (x12.own i q o)
  exact (show Post X.K xa Z (.ok (W.od t [(d, e)]) E2) F H E σ fun w E' F' H' => ∀ v, Rs X.K F' H' H E' σ w v → Q v H' from p3) F2 _ (S2.setN free2 fq2) ((x0.trans x12).setN hq) (.ref q) ⟨(hd F2 (Le.refl F2)).rw (by show 1 ≤ lineN; decide), fun _ a e1 => by
    cases e1
    exact ⟨hq, fq2, free2⟩⟩

/-! ### d.get(k, x) -/
def tGet2 (td tk tx : TE) : TE := fun σ H Q => td σ H fun x H1 => (∃ F t kvs a, x = .ref a ∧ Le F H1 ∧ DctR F H1 a t kvs) ∧ tk σ H1 fun y H2 => tx σ H2 fun z H3 => ∃ F t kvs a d e, x = .ref a ∧ Le F H3 ∧ DctR F H3 a t kvs ∧ kindOk t d = true ∧ RF F y d ∧ RF F z e ∧ ∀ v, RF F v ((dget kvs d).getD e) → Q v H3
theorem pe_get2 {o e f : Expr} {td ty tx : TE} {apos cpos : Pos} (hW : X.w = WorldI.w) (hu : X.A.units + 16 < cLine) (ho : PE X o td) (he : PE X e ty) (hf : PE X f tx) (m : M2 X o "get" apos e f cpos) : PE X (.Call (.Attribute o "get" apos) [e, f] [] cpos) (tGet2 td ty tx) := by
  refine ⟨fun pins s σ H Q I h => ?_⟩
  refine wpAny_Call_method m.base m.few m.line PySem.F.plainAttrs_dict PySem.F.slot_dict_get PySem.F.type_dict_get (thn (ho.run pins s σ H _ I h) fun u s1 ⟨x, H1, I1, rx, ⟨F0, t0, kvs0, a0, ex, l0, d0⟩, q1⟩ => ?_)
  subst ex
  obtain rfl : u = Value.ref a0 := rx
  obtain ⟨t1, t2⟩ := dct_type hW I1 l0 d0
  refine ⟨t1, t2, ?_⟩
  rw [m.trees]
  refine Calls.callWith_builtin rfl (Calls.evalArgs_plain (Calls.spliced_cons (thn (he.run pins s1 σ H1 _ I1 q1) fun iv s2 ⟨y, H2, I2, ry, q2⟩ =>
    Calls.spliced_cons (thn (hf.run pins s2 σ H2 _ I2 q2) fun fv s3 ⟨z, H3, I3, rz, F, t, kvs, a, d, e, ex, l, g, n, rd, re, fin⟩ => Calls.spliced_nil ?_))))
  cases ex
  exact dct_get2 hW hu I3 l g n rd ry re rz fun v w' s4 rv rw' I4 => ⟨v, H3, I4, rw', fin v rv⟩
theorem dctW {K : PySem.W.Frag} {F H : Hp} {w : W} {x : V} {kvs : List (D × D)} (l : Le F H) (r : RW K F H w x) (e : w.dctL? = some kvs) : ∃ a t, x = .ref a ∧ DctR F H a t kvs := by
  cases w with
  | od t es =>
    cases e
    obtain ⟨a, rfl, z, q⟩ := r
    exact ⟨a, t, rfl, DctO.rd (by cases t <;> exact q)⟩
  | ft es =>
    cases e
    obtain ⟨a, o, xs, rfl, q, _, b⟩ := r
    exact ⟨a, true, rfl, _, .inr ⟨_, l _ _ q⟩, b⟩
  | fz d =>
    cases d with
    | dict es =>
      cases e
      have r : RF F x (.dict kvs) := r
      cases r with
      | dk ha z b => exact ⟨_, false, rfl, _, .inr ⟨_, l _ _ ha⟩, b⟩
    | _ => cases e
  | _ => cases e
theorem dctL_of {w : W} {d : D} {kvs : List (D × D)} (e : w.dct? d = some kvs) : w.dctL? = some kvs := by
  cases w with
  | od t es =>
    have e2 : (if kindOk t d then some es else none) = some kvs := e
    split at e2
    · exact e2
    · cases e2
  | ft es =>
    have e2 : (if kindOk true d then some es else none) = some kvs := e
    split at e2
    · exact e2
    · cases e2
  | fz f =>
    cases f with
    | dict es =>
      have e2 : (if kindOk false d then some es else none) = some kvs := e
      split at e2
      · exact e2
      · cases e2
    | _ => cases e
  | _ => cases e

/-! ### d[k] = e -/
theorem ps_dputX {o i value : Expr} {pos' : Pos} {td ty tv : TE} (hW : X.w = WorldI.w) (hu : X.A.units + 16 < cLine) (ho : PE X o td) (hi : PE X i ty) (hv : PE X value tv) (hs : swapsWith value (some (.Subscript o i pos')) pos.line X.env = pure false) :
    PS X (.Assign [.Subscript o i pos'] value pos) (fun D σ H => tv σ H fun v H1 => td σ H1 fun x H2 => ty σ H2 fun y H3 => ∃ F a t kvs d e, Le F H3 ∧ x = .ref a ∧ DctO F H3 a t kvs ∧ kvs.length < lineN ∧ kindOk t d = true ∧ RF F y d ∧ RF F v e ∧ ∀ ob, Mut (some ob) → (∀ F', Le F F' → DctO F' (upd H3 a ob) a t (dput kvs d e)) → D.nx σ (upd H3 a ob)) := by
  refine ⟨fun pins s σ H D I h => ?_⟩
  refine wpAny_Assign_Subscript (thn (hv.run pins s σ H _ I h) fun r s1 ⟨v, H1, I1, rv, q1⟩ => thn (ho.run pins s1 σ H1 _ I1 q1) fun u s2 ⟨x, H2, I2, rx, q2⟩ => thn (hi.run pins s2 σ H2 _ I2 q2) fun iv s3 ⟨y, H3, I3, ry, F, a, t, kvs, d, e, l, ex, g, hl, n, rd, re, fin⟩ => ?_) hs
  subst ex
  obtain rfl : u = Value.ref a := rx
  exact dct_put hW hu I3 l g hl n rd ry re rv fun ob s4 mu hd I4 => ⟨σ, _, I4, fin ob mu hd⟩
theorem ds_dput {o k value : Expr} {i : Nat} {y z : IE} {pos' : Pos} (hW : X.w = WorldI.w) (hu : X.A.units + 16 < cLine) (ho : PE X o (tVar i)) (hk : PE X k (toTE X.K xa Z (ev cl y))) (hv : PE X value (toTE X.K xa Z (ev cl z))) (hs : swapsWith value (some (.Subscript o k pos')) pos.line X.env = pure false) :
    PS X (.Assign [.Subscript o k pos'] value pos) (toTS X.K xa Z bo (evS cl bo (.dput i y z))) := by
  refine ps_imp (ps_dputX hW hu ho (ddL_of hk fun _ => rfl) (ddL_of hv fun _ => rfl) hs) fun D σ H ⟨F, E, S, p⟩ => ?_
  unfold evS at p
  have e1 : ((ev cl z E).bind fun w E1 => (Res.lift w.frzL E1).bind fun d E2 => (Res.lift (getS E2 i) E2).bind fun _ E3 => (ev cl y E3).bind fun u E4 => (Res.lift u.frzL E4).bind fun kd E5 => dputR i d kd E5) = ((ev cl z E).bind fun w E1 => Res.lift w.frzL E1).bind fun d E2 => (Res.lift (getS E2 i) E2).bind fun _ E3 => ((ev cl y E3).bind fun u E4 => Res.lift u.frzL E4).bind fun kd E5 => dputR i d kd E5 := by
    rw [bind_bind]
    congr 1
    funext w E1
    congr 1
    funext d E2
    congr 1
    funext _ E3
    rw [bind_bind]
  rw [e1] at p
  refine ⟨F, E, S, p.of_ev fun d E1 F1 H1 _ S1 x1 p2 v rv => ?_⟩
  have p2 := p2.rebase x1.xs
  cases g0 : getS E1 i with
  | none =>
    rw [g0] at p2
    exact p2.elim
  | some w0 =>
  rw [g0] at p2
  obtain ⟨vx, hvx, _⟩ := S1.val g0
  have p2 : PostS X.K xa Z bo (((ev cl y E1).bind fun u E4 => Res.lift u.frzL E4).bind fun kd E5 => dputR i d kd E5) F1 H1 E1 σ D := p2
  refine ⟨vx, hvx, F1, E1, S1, p2.of_ev fun kd E2 F2 H2 _ S2 x2 p3 v2 rv2 => ?_⟩
  have p3 := p3.rebase x2.xs
  unfold dputR at p3
  cases g : getS E2 i with
  | none =>
    rw [g] at p3
    exact p3.elim
  | some w =>
    rw [g] at p3
    cases w with
    | od t kvs =>
      have p4 : PostS X.K xa Z bo (if kindOk t kd ∧ kvs.length < lineN then Res.ok Fl.next (setS E2 i (.od t (dput kvs kd d))) else .stuck) F2 H2 E2 σ D := p3
      split at p4
      · rename_i c
        obtain ⟨va, sa, ra⟩ := S2.val g
        rw [hvx] at sa
        cases sa
        obtain ⟨a, u, rfl, _⟩ := od_at ra
        obtain ⟨dr, z⟩ := ra.dct
        refine ⟨F2, a, t, kvs, kd, d, S2.le, rfl, dr, c.2, c.1, rv2, rv.up x2.fle, fun ob mu hd => ?_⟩
        obtain ⟨S3, x3⟩ := S2.writeO (ob := ob) (w1 := .od t (dput kvs kd d)) (getS_at g) rfl hvx ((hd F2 (Le.refl F2)).rw (by have := dput_le kvs kd d; omega))
        exact p4 F2 _ σ S3 x3.xs
      · exact p4.elim
    | _ => exact p3.elim

/-! ### d.setdefault(k, x) -/
theorem dct_setd {pins : List (Addr × Obj)} {σ : L2.St} {F H : Hp} {s : Shared} {a : Addr} {t : Bool} {kvs : List (D × D)} {d e : D} {u r : Value} {y v : V} {Q : Value → Shared → Prop} (hW : X.w = WorldI.w) (hu : X.A.units + 16 < cLine) (I : Inv X pins σ H s) (l : Le F H) (g : DctO F H a t kvs) (hl : kvs.length < lineN) (n : kindOk t d = true) (ry : RF F y d) (ru : RelV y u) (rv : RF F v e) (rr : RelV v r)
    (h1 : ∀ e', dget kvs d = some e' → ∀ v' w' s', RF F v' e' → RelV v' w' → Inv X pins σ H s' → Q w' s')
    (h2 : dget kvs d = none → ∀ ob s', Mut (some ob) → (∀ F', Le F F' → DctO F' (upd H a ob) a t (dput kvs d e)) → Inv X pins σ (upd H a ob) s' → Q r s') :
    wpAny (model X.prog X.w) X.A (call (.builtin "dict.setdefault") [.ref a, u, r]) Q X.xe s := by
  cases t with
  | false =>
    obtain ⟨es, g, rk⟩ := g
    obtain ⟨k, hk⟩ := kindK n
    have ey := keyD_rf hk ry
    subst ey
    have q := rk.val hk
    obtain ⟨z, hd, vs, rel, dd⟩ := dk_of I.hok g
    have hz : vs.length ≤ sizeLine := by
      rw [← rel.length]
      exact z
    refine call_meetsIn PySem.F.slot_dict_setdefault dd.typeIs PySem.F.entry_dict_setdefault (PySem.F.args_dict_setdefault_3 _ _ _) (kt_meets_setdefault (mixKind X.prog X.w) a (kV_is ru) hd r) ⟨vs, dd, hz, fun v1 hv => ?_, fun hn h' dd' hs => ?_⟩
    · have q1 := rel.val k
      rw [hv] at q1
      cases z : dget kvs d with
      | none =>
        rw [z] at q
        rw [ro_none q] at q1
        exact q1.elim
      | some e' =>
        rw [z] at q
        obtain ⟨v', e1, rv'⟩ := ro_some q
        rw [e1] at q1
        exact h1 e' z v' v1 _ rv' q1 (I.tok _)
    · have q1 := rel.val k
      rw [hn] at q1
      cases z : dget kvs d with
      | some e' =>
        rw [z] at q
        obtain ⟨v', e1, rv'⟩ := ro_some q
        rw [e1] at q1
        exact q1.elim
      | none =>
        have hl2 : (putK es k v).length ≤ sizeLine := by
          have := length_putK es k v
          have := rk.len
          rw [sizeLine_eq]
          unfold lineN at hl
          omega
        have he : ∃ q, h'.get? a = some q := let ⟨q, _, _, hq, _⟩ := dd'; ⟨q, hq⟩
        exact h2 z (.dK (putK es k v)) _ True.intro (fun F' l' => ⟨_, upd_same, (rk.put hk rv).up l'⟩) (d_write (t' := s.toks + 1) I (by rw [g]; exact True.intro) hs he (dk_new hl2 hd (rel.put k rr) dd'))
  | true =>
    obtain ⟨xs, g, rt⟩ := g
    obtain ⟨q, rfl⟩ := ref_of_kindT n ry
    cases ru
    obtain ⟨hs, hz, ys, tx, dd⟩ := dt_at hW I l (.inl g) rt
    have hz2 : ys.length ≤ sizeLine := by rw [← Paired.length tx]; exact hz
    have q1 := rt.val n
    have q2 := txr_at tx (nk d)
    refine call_setdefault_heap (hsz := hz2) (room_in hu) (key_is I.hok n (ry.up l)) hs dd (fun p hp => ?_) fun hn h' dd' hs' => ?_
    · rw [hp] at q2
      cases z : dget kvs d with
      | none =>
        rw [z] at q1
        rw [ro_none q1] at q2
        exact q2.elim
      | some e' =>
        rw [z] at q1
        obtain ⟨v', e1, rv'⟩ := ro_some q1
        rw [e1] at q2
        exact h1 e' z v' p.2 _ rv' q2 (I.tok _)
    · rw [hn] at q2
      cases z : dget kvs d with
      | some e' =>
        rw [z] at q1
        obtain ⟨v', e1, rv'⟩ := ro_some q1
        rw [e1] at q2
        exact q2.elim
      | none =>
        have tx2 := txr_put tx (nk d) (a := q) rr
        obtain ⟨o, es, ep, e1, e2, e3, e4, _, e5⟩ := dd'
        have new : DTx WorldI.w a (putT xs (nk d) q v) h' := by
          refine ⟨hs, ?_, _, o, es, ep, tx2, e1, e2, e3, ?_, e5⟩
          · have := putT_len xs (nk d) q v
            have := rt.len
            omega
          · rw [e4, hW]
            rfl
        exact h2 z (DT WorldI.w a (putT xs (nk d) q v)) _ True.intro (fun F' l' => ⟨_, upd_same, (rt.put n ry rv).up l'⟩) (d_write I (by rw [g]; exact True.intro) hs' ⟨o, e1⟩ (dtx_ok new))
def tSetd (td tk tx : TE) : TE := fun σ H Q => td σ H fun x H1 => (∃ F t kvs a, x = .ref a ∧ Le F H1 ∧ DctR F H1 a t kvs) ∧ tk σ H1 fun y H2 => tx σ H2 fun z H3 => ∃ F t kvs a d e, x = .ref a ∧ Le F H3 ∧ DctO F H3 a t kvs ∧ kvs.length < lineN ∧ kindOk t d = true ∧ RF F y d ∧ RF F z e ∧
  (∀ e', dget kvs d = some e' → ∀ v, RF F v e' → Q v H3) ∧ (dget kvs d = none → ∀ ob, Mut (some ob) → (∀ F', Le F F' → DctO F' (upd H3 a ob) a t (dput kvs d e)) → Q z (upd H3 a ob))
theorem pe_setd {o e f : Expr} {td ty tx : TE} {apos cpos : Pos} (hW : X.w = WorldI.w) (hu : X.A.units + 16 < cLine) (ho : PE X o td) (he : PE X e ty) (hf : PE X f tx) (m : M2 X o "setdefault" apos e f cpos) : PE X (.Call (.Attribute o "setdefault" apos) [e, f] [] cpos) (tSetd td ty tx) := by
  refine ⟨fun pins s σ H Q I h => ?_⟩
  refine wpAny_Call_method m.base m.few m.line PySem.F.plainAttrs_dict PySem.F.slot_dict_setdefault PySem.F.type_dict_setdefault (thn (ho.run pins s σ H _ I h) fun u s1 ⟨x, H1, I1, rx, ⟨F0, t0, kvs0, a0, ex, l0, d0⟩, q1⟩ => ?_)
  subst ex
  obtain rfl : u = Value.ref a0 := rx
  obtain ⟨t1, t2⟩ := dct_type hW I1 l0 d0
  refine ⟨t1, t2, ?_⟩
  rw [m.trees]
  refine Calls.callWith_builtin rfl (Calls.evalArgs_plain (Calls.spliced_cons (thn (he.run pins s1 σ H1 _ I1 q1) fun iv s2 ⟨y, H2, I2, ry, q2⟩ =>
    Calls.spliced_cons (thn (hf.run pins s2 σ H2 _ I2 q2) fun fv s3 ⟨z, H3, I3, rz, F, t, kvs, a, d, e, ex, l, g, hl, n, rd, re, f1, f2⟩ => Calls.spliced_nil ?_))))
  cases ex
  exact dct_setd hW hu I3 l g hl n rd ry re rz (fun e' z v' w' s4 rv' rw' I4 => ⟨v', H3, I4, rw', f1 e' z v' rv'⟩) fun z ob s4 mu hd I4 => ⟨_, _, I4, rz, f2 z ob mu hd⟩
theorem de_sdef {o k value : Expr} {i : Nat} {y z : IE} {apos cpos : Pos} (hW : X.w = WorldI.w) (hu : X.A.units + 16 < cLine) (ho : PE X o (tVar i)) (hk : PE X k (toTE X.K xa Z (ev cl y))) (hv : PE X value (toTE X.K xa Z (ev cl z))) (m : M2 X o "setdefault" apos k value cpos) :
    PE X (.Call (.Attribute o "setdefault" apos) [k, value] [] cpos) (toTE X.K xa Z (ev cl (.sdef i y z))) := by
  refine pe_imp (pe_setd hW hu ho (ddL_of hk fun _ => rfl) (ddL_of hv fun _ => rfl) m) fun σ H Q ⟨F, E, S, p⟩ => ?_
  unfold ev at p
  obtain ⟨kv0, e0, p⟩ := Post.lift_ (Post.bind_ p)
  obtain ⟨w0, g0, e00⟩ := bind_some' e0
  obtain ⟨vx, hvx, r0⟩ := S.val g0
  obtain ⟨a0, t0, rfl, d0⟩ := dctW S.le r0 e00
  have p := p F H S (Ext.refl ..)
  rw [two_bind (ev cl y E) (ev cl z) fun d e E4 => sdefR i d e E4] at p
  refine ⟨_, hvx, ⟨F, t0, kv0, a0, rfl, S.le, d0⟩, F, E, S, (Post.bindB p).mono fun d E1 F1 H1 _ S1 x1 p2 v rv => ?_⟩
  refine ⟨F1, E1, S1, ((Post.bindB p2).rebase x1).mono fun e E2 F2 H2 _ S2 x2 p3 v2 rv2 => ?_⟩
  have p3 : Post X.K xa Z (sdefR i d e E2) F H E σ fun w E' F' H' => ∀ v, Rs X.K F' H' H E' σ w v → Q v H' := p3
  unfold sdefR at p3
  cases g : getS E2 i with
  | none =>
    rw [g] at p3
    exact p3.elim
  | some w =>
    rw [g] at p3
    cases w with
    | od t kvs =>
      have p4 : Post X.K xa Z (if kindOk t d ∧ kvs.length < lineN then (match dget kvs d with
        | some r => Res.ok (W.fz r) E2
        | none => .ok (.fz e) (setS E2 i (.od t (dput kvs d e)))) else .stuck) F H E σ (fun w E' F' H' => ∀ v, Rs X.K F' H' H E' σ w v → Q v H') := p3
      split at p4
      · rename_i c
        obtain ⟨va, sa, ra⟩ := S2.val g
        rw [hvx] at sa
        cases sa
        obtain ⟨dr, z⟩ := ra.dct
        refine ⟨F2, t, kvs, a0, d, e, rfl, S2.le, dr, c.2, c.1, rv.up x2.fle, rv2, fun e' he v re => ?_, fun hn ob mu hd => ?_⟩
        · rw [he] at p4
          exact (show Post X.K xa Z (Res.ok (W.fz e') E2) F H E σ (fun w E' F' H' => ∀ v, Rs X.K F' H' H E' σ w v → Q v H') from p4) F2 H2 S2 (x1.trans x2) v ⟨re, fun o => nomatch o⟩
        · rw [hn] at p4
          obtain ⟨S3, x3⟩ := S2.writeO (ob := ob) (w1 := .od t (dput kvs d e)) (getS_at g) rfl hvx ((hd F2 (Le.refl F2)).rw (by have := dput_le kvs d e; omega))
          exact (show Post X.K xa Z (Res.ok (W.fz e) (setS E2 i (.od t (dput kvs d e)))) F H E σ (fun w E' F' H' => ∀ v, Rs X.K F' H' H E' σ w v → Q v H') from p4) F2 _ S3 ((x1.trans x2).trans x3) v2 ⟨rv2, fun o => nomatch o⟩
      · exact p4.elim
    | _ => exact p3.elim
theorem de_get2 {o k value : Expr} {a : IA} {y z : IE} {apos cpos : Pos} (hW : X.w = WorldI.w) (hu : X.A.units + 16 < cLine) (ho : PE X o (toTA X.K xa Z (evA cl a))) (hk : PE X k (toTE X.K xa Z (ev cl y))) (hv : PE X value (toTE X.K xa Z (ev cl z))) (m : M2 X o "get" apos k value cpos) :
    PE X (.Call (.Attribute o "get" apos) [k, value] [] cpos) (toTE X.K xa Z (ev cl (.get2 a y z))) := by
  refine pe_imp (pe_get2 hW hu ho (ddL_of hk fun _ => rfl) (ddL_of hv fun _ => rfl) m) fun σ H Q ⟨F, E, S, p⟩ => ?_
  unfold ev at p
  refine ⟨F, E, S, (Post.bindB p).mono fun x E0 F0 H0 _ S0 x0 p1 vx rx => ?_⟩
  obtain ⟨kv0, e0, p1⟩ := Post.liftB (Post.bindB p1)
  obtain ⟨ws, e1, e2⟩ := bind_some' e0
  obtain ⟨w0, rfl⟩ := resolve_one e1
  obtain ⟨a0, t0, rfl, d0⟩ := dctW S0.le (rx.use S0 e1) e2
  have p := p1 F0 H0 S0 x0
  rw [two_bind (ev cl y E0) (ev cl z) fun d e E5 => get2R x d e E5] at p
  refine ⟨⟨F0, t0, kv0, a0, rfl, S0.le, d0⟩, F0, E0, S0, ((Post.bindB p).rebase x0).mono fun d E1 F1 H1 _ S1 x1 p2 v rv => ?_⟩
  refine ⟨F1, E1, S1, ((Post.bindB p2).rebase (x0.trans x1)).mono fun e E2 F2 H2 _ S2 x2 p3 v2 rv2 => ?_⟩
  obtain ⟨wr, e3, p4⟩ := Post.liftB (show Post X.K xa Z (Res.lift ((resolve [x] E2).bind fun ws => match ws with
    | [w] => (w.dct? d).map fun kvs => W.fz ((dget kvs d).getD e)
    | _ => none) E2) F H E σ _ from p3)
  obtain ⟨ws, e4, e5⟩ := bind_some' e3
  obtain ⟨w1, rfl⟩ := resolve_one e4
  obtain ⟨kvs, e6, rfl⟩ := map_some' e5
  obtain ⟨a1, t1, ea, g, n⟩ := dct_of S2.le (((rx.carry x1).carry x2).use S2 e4) e6
  cases ea
  exact ⟨F2, t1, kvs, a0, d, e, rfl, S2.le, g, n, rv.up x2.fle, rv2, fun v3 r3 => p4 F2 H2 S2 ((x0.trans x1).trans x2) v3 ⟨r3, fun o => nomatch o⟩⟩
end
end Sf

end

section
set_option maxRecDepth 100000
set_option maxHeartbeats 1000000
/-! Sf: enumerate and zip over lists and tuples that nobody changes any more. -/
namespace PySem
open Sem (wp)
set_option maxHeartbeats 2000000 in
theorem meets_enumerate_newB1 {v : Value} {o : Obj} {H : Heap → Prop} (B : Begins v o H) :
    Meets (Builtin.«enumerate.__new__» ⟨[.type "enumerate", v], []⟩) (fun _ R s => H s.heap ∧
      R (.ok (.ret (.ref (s.heap.push o).objs.size))) { s with heap := (s.heap.push o).push { cls := .type "enumerate", data := .fields #[.none, .bool false, .ref s.heap.objs.size, rawInt 0, .none, .none] } }) :=
  .of_wp fun prog w A R s h => by
    obtain ⟨hp, g, d, tk, os⟩ := s; obtain ⟨h1, h⟩ := h
    have hsub := sub_enumerate
    have q1 : ∀ {A' : Around} {E : Value → Shared → Prop} {Q : Value → Shared → Prop}, Q (.ref hp.objs.size) ⟨hp.push o, g, d, tk, os⟩ → wpAny (model prog w) A' (pyIter v) Q E ⟨hp, g, d, tk, os⟩ :=
      fun q => B.iter prog w _ _ ⟨hp, g, d, tk, os⟩ _ h1 q
    wp_walk using q1
    refine wpAny_stack_any fun st => wpAny_pure ?_
    split
    · rename_i c _ _ _ _ _
      cases (c == Value.type "enumerate")
      · wp_walk using q1
        exact ⟨_, rfl, h⟩
      · wp_walk using q1
        exact ⟨_, rfl, h⟩
    · wp_walk using q1
      exact ⟨_, rfl, h⟩
theorem enum_begins1 {prog : Program} {w : World} {A : Around} {E : Value → Shared → Prop} {s : Shared} {v : Value} {o : Obj} {H : Heap → Prop} {Q : Value → Shared → Prop} (B : Begins v o H) (h1 : H s.heap)
    (h : ∀ h', IsEnum h' (s.heap.objs.size + 1) s.heap.objs.size 0 .none → h'.get? s.heap.objs.size = some o → h'.objs.size = s.heap.objs.size + 2 →
      (∀ b o, s.heap.get? b = some o → h'.get? b = some o) → Q (.ref (s.heap.objs.size + 1)) { s with heap := h' }) :
    wpAny (model prog w) A (call (.type "enumerate") [v]) Q E s := by
  refine callType_new F.called_enumerate (by decide) (F.typeCall_enumerate_1 _) (F.newCall_enumerate_1 _) (fun obj => F.args_object_init_2 obj _) F.entry_enumerate_new
    (meets_enumerate_newB1 B) ⟨h1, ?_⟩
  have hz : (s.heap.push o).objs.size = s.heap.objs.size + 1 := Heap.size_push ..
  show _ ∧ _
  rw [hz]
  have he : IsEnum ((s.heap.push o).push { cls := .type "enumerate", data := .fields #[.none, .bool false, .ref s.heap.objs.size, rawInt 0, .none, .none] }) (s.heap.objs.size + 1) s.heap.objs.size 0 .none := by
    have := Heap.get?_push_size (s.heap.push o) (o := { cls := .type "enumerate", data := .fields #[.none, .bool false, .ref s.heap.objs.size, rawInt 0, .none, .none] }) rfl
    rw [hz] at this; exact this
  refine ⟨⟨_, he, rfl⟩, h _ he (Heap.get?_push_of_some _ (Heap.get?_push_size _ B.free)) (by rw [Heap.size_push, hz]) fun b o x => Heap.get?_push_of_some _ (Heap.get?_push_of_some _ x)⟩
end PySem
namespace Sf
open PySem PySem.Spec PyProof.Rows L2

def SrcAt (H : Hp) (t : Bool) (a : Addr) (xs : List V) : Prop := H a = some (if t then .tup xs else .lst xs)
def ItP (src : Hp → Prop) (ps : List (V × V)) : It :=
  ⟨fun i H => src H ∧ i < ps.length, fun i H x H' => ∃ T a b, ps[i]? = some (a, b) ∧ x = .ref T ∧ H T = none ∧ H' = upd H T (.tup [a, b]), fun i H => src H ∧ ps.length ≤ i⟩
theorem turn_pairs {P : Program} {w : World} {K : PySem.W.Frag} {elts : List Expr} {kk : Nat} {tpos : Pos} {I : Addr} {fpo wr : List Addr} {ps : List (V × V)} {src : Hp → Prop} {tn : Nat → Heap → Prop}
    (hI : I ∈ fpo) (hw : ∀ b ∈ wr, b ∈ fpo)
    (hobj : ∀ i h, tn i h → ∀ b ∈ fpo, ∃ o, h.get? b = some o ∧ ∀ v, o.data ≠ .cell v)
    (hkeep : ∀ i h h', tn i h → (∀ b ∈ fpo, ∀ o, h.get? b = some o → h'.get? b = some o) → tn i h')
    (hself : ∀ (A : Around) (i : Nat) (s : Shared) (Q : Value → Shared → Prop) (E : Value → Shared → Prop), tn i s.heap → Q (.ref I) s → wpAny (model P w) A (pyIter (.ref I)) Q E s)
    (hgo : ∀ (X : Cx), X.prog = P → X.w = w → X.K = K → X.calm = true → ∀ (pins : List (Addr × Obj)) (s : Shared) (σ : L2.St) (H : Hp), Inv X pins σ H s → src H → ∀ i, tn i s.heap → ∃ (fp : List Addr) (Y : Nat → Heap → Value → Heap → Prop) (St : Nat → Heap → Prop),
      GoesN P w X.A (.Tuple elts kk tpos) I fp wr ps.length Y St ∧ St i s.heap ∧ (∀ i h, St i h → tn i h) ∧
      ∀ i v h, i < ps.length → Y i s.heap v h → ∃ T a b va vb, v = .ref T ∧ s.heap.objs.size ≤ T ∧ h.IsTuple T #[va, vb] ∧ ps[i]? = some (a, b) ∧ RelV a va ∧ RelV b vb) :
    Turn P w K (.Tuple elts kk tpos) (ItP src ps) fpo I (fun i h => i ≤ ps.length ∧ tn i h) where
  mem := hI
  obj := fun i h st b hb => hobj i h st.2 b hb
  keep := fun i h h' st k => ⟨st.1, hkeep i h h' st.2 k⟩
  self := fun A i s Q E st h => hself A i s Q E st.2 h
  item := by
    intro X hP hW hK hc i pins s σ H E I1 hf st hg
    obtain ⟨hs, hi⟩ := hg
    obtain ⟨fp, Y, St, W, st1, htn, hY⟩ := hgo X hP hW hK hc pins s σ H I1 hs i st.2
    subst hP hW hK
    refine wpAny_mono (W.goes i s (fun v s2 => ∃ x H', Inv X pins σ H' s2 ∧ RelV x v ∧ (ItP src ps).yld i H x H' ∧ (i + 1 ≤ ps.length ∧ tn (i + 1) s2.heap) ∧ ∀ b ∈ fpo, H' b = none) E hi st1 fun v h' tk y st2 kept tk2 => ?_) (fun r s1 h1 => h1) fun _ _ e => e
    obtain ⟨T, a, b, va, vb, rfl, hT, tup, hp, ra, rb⟩ := hY i v h' hi y
    have new : ObjOk X.prog X.w (upd H T (.tup [a, b])) h' T (.tup [a, b]) := by
      refine ⟨by show 2 ≤ sizeLine; decide, [va, vb], .cons ra (.cons rb .nil), ?_⟩
      obtain ⟨o, e1, e2, n, e3⟩ := tup
      exact ⟨o, e1, e2, n, e3⟩
    have I2 : Inv X pins σ (upd H T (.tup [a, b])) { s with heap := h', toks := tk } := I1.turnedNew (t' := tk) (ch := wr) (fun b o hb e => kept b o hb e) (fun b hb => hf b (hw b hb)) hT new
    refine ⟨.ref T, _, I2, rfl, ⟨T, a, b, hp, rfl, I1.hok.fresh hT, rfl⟩, ⟨by omega, htn _ _ st2⟩, fun c hc2 => ?_⟩
    have hlt : c < s.heap.objs.size := by
      obtain ⟨o, e, _⟩ := hobj i _ st.2 c hc2
      exact Heap.lt_size e
    rw [upd_ne (Nat.ne_of_lt (Nat.lt_of_lt_of_le hlt hT))]
    exact (hf c hc2).1
  done := by
    intro X hP hW hK hc i pins s σ H E I1 hf st hg
    obtain ⟨hs, hi⟩ := hg
    have e : i = ps.length := Nat.le_antisymm st.1 hi
    obtain ⟨fp, Y, St, W, st1, htn, hY⟩ := hgo X hP hW hK hc pins s σ H I1 hs i st.2
    subst e
    subst hP hW hK
    exact W.stops s (fun s1 => Inv X pins σ H s1) E st1 fun h' tk kept _ => I1.turnedL (t' := tk) (ch := wr) (fun b o hb e => kept b o hb e) fun b hb => hf b (hw b hb)

/-! ### sources -/
def itO (t : Bool) (a : Addr) : Obj := if t then { cls := .type "tuple_iterator", data := .fields #[.ref a, .int 0 0] } else { cls := .type "list_iterator", data := .fields #[.ref a, .int 0 0] }
def IsSrc (h : Heap) (t : Bool) (a : Addr) (its : Array Value) : Prop := if t then h.IsTuple a its else h.IsList a its
def IsItr (h : Heap) (t : Bool) (it a : Addr) (i : Nat) : Prop := if t then h.IsTupleIter it a i else h.IsListIter it a i
theorem begins_src (t : Bool) (a : Addr) (its : Array Value) : Begins (.ref a) (itO t a) fun h => IsSrc h t a its := by
  cases t
  · exact begins_list a its
  · exact begins_tuple a its
theorem draws_src (t : Bool) {prog : Program} {w : World} {A : Around} (hh : A.handled = none) (it a : Addr) (hne : a ≠ it) (its : Array Value) :
    Draws prog w A it [it, a] its.size (fun i v => its[i]? = some v) (fun i h => IsItr h t it a i ∧ IsSrc h t a its) := by
  cases t
  · exact Draws.list hh it a hne its
  · exact Draws.tuple hh it a hne its
theorem isItr_at {h h' : Heap} {t : Bool} {it a : Addr} {i : Nat} (x : IsItr h t it a i) (k : ∀ o, h.get? it = some o → h'.get? it = some o) : IsItr h' t it a i := by
  cases t
  · exact Heap.IsListIter.at x k
  · exact Heap.IsTupleIter.at x k
theorem isItr_obj {h : Heap} {t : Bool} {it a : Addr} {i : Nat} (x : IsItr h t it a i) : ∃ o, h.get? it = some o ∧ ∀ v, o.data ≠ .cell v := by
  cases t
  · obtain ⟨o, e, _, d⟩ := x
    exact ⟨o, e, fun v z => by rw [d] at z; cases z⟩
  · obtain ⟨o, e, _, d⟩ := x
    exact ⟨o, e, fun v z => by rw [d] at z; cases z⟩
theorem isItr_new {h : Heap} {t : Bool} {it a : Addr} (e : h.get? it = some (itO t a)) : IsItr h t it a 0 := by
  cases t
  · exact ⟨_, e, rfl, rfl⟩
  · exact ⟨_, e, rfl, rfl⟩
theorem src_of {X : Cx} {pins : List (Addr × Obj)} {σ : L2.St} {H : Hp} {s : Shared} (I : Inv X pins σ H s) {t : Bool} {a : Addr} {xs : List V} (h : SrcAt H t a xs) : ∃ its : List Value, Vals xs its ∧ IsSrc s.heap t a its.toArray := by
  cases t with
  | false =>
    obtain ⟨z, its, n, r, e⟩ := I.hok a _ (show H a = some (.lst xs) from h)
    exact ⟨its, r, ⟨_, e, rfl, n, rfl⟩⟩
  | true =>
    obtain ⟨z, its, r, o, e, c, n, d⟩ := I.hok a _ (show H a = some (.tup xs) from h)
    exact ⟨its, r, ⟨o, e, c, n, d⟩⟩
theorem isSrc_inj {h : Heap} {t : Bool} {a : Addr} {its js : Array Value} (x : IsSrc h t a its) (y : IsSrc h t a js) : its = js := by
  cases t with
  | false =>
    obtain ⟨o, e, _, n, d⟩ := x
    obtain ⟨o2, e2, _, n2, d2⟩ := y
    rw [e] at e2
    cases e2
    rw [d] at d2
    cases d2
    rfl
  | true =>
    obtain ⟨o, e, _, n, d⟩ := x
    obtain ⟨o2, e2, _, n2, d2⟩ := y
    rw [e] at e2
    cases e2
    rw [d] at d2
    cases d2
    rfl
theorem src_lt {X : Cx} {pins : List (Addr × Obj)} {σ : L2.St} {H : Hp} {s : Shared} (I : Inv X pins σ H s) {t : Bool} {a : Addr} {xs : List V} (h : SrcAt H t a xs) : a < s.heap.objs.size := I.hok.lt h
def enumPs (xs : List V) : List (V × V) := xs.zipIdx.map fun p => (V.int (p.2 : Nat), p.1)
theorem enumPs_get {xs : List V} {i : Nat} {x : V} (h : xs[i]? = some x) : (enumPs xs)[i]? = some (.int (i : Nat), x) := by
  unfold enumPs
  rw [List.getElem?_map, List.getElem?_zipIdx, h]
  simp
theorem enumPs_len (xs : List V) : (enumPs xs).length = xs.length := by simp [enumPs]
theorem src_len {X : Cx} {pins : List (Addr × Obj)} {σ : L2.St} {H : Hp} {s : Shared} (I : Inv X pins σ H s) {t : Bool} {a : Addr} {xs : List V} (h : SrcAt H t a xs) {its : Array Value} (q : IsSrc s.heap t a its) : its.size = xs.length ∧ ∀ (i : Nat) u, its[i]? = some u → ∃ x, xs[i]? = some x ∧ RelV x u := by
  obtain ⟨js, r, q2⟩ := src_of I h
  have e := isSrc_inj q q2
  subst e
  refine ⟨by simp [r.length], fun i u hu => ?_⟩
  have hl := r.length
  have hu : js[i]? = some u := by simpa using hu
  have hi : i < xs.length := by
    rw [hl]
    exact (List.getElem?_eq_some_iff.mp hu).1
  obtain ⟨u2, e1, e2⟩ := r.get (List.getElem?_eq_getElem hi)
  rw [hu] at e1
  cases e1
  exact ⟨_, List.getElem?_eq_getElem hi, e2⟩
theorem turn_enumS {P : Program} {w : World} {K : PySem.W.Frag} {elts : List Expr} {kk : Nat} {tpos : Pos} {N a : Addr} {t : Bool} {xs : List V} (hne : a ≠ N) (hne2 : N + 1 ≠ a) :
    Turn P w K (.Tuple elts kk tpos) (ItP (fun H => SrcAt H t a xs) (enumPs xs)) [N + 1, N] (N + 1) (fun i h => i ≤ (enumPs xs).length ∧ ((∃ old, IsEnum h (N + 1) N ((i : Nat) : Int) old) ∧ IsItr h t N a i)) := by
  have hn1 : (N + 1 : Nat) ≠ N := Nat.succ_ne_self N
  refine turn_pairs (wr := [N + 1, N]) (by simp) (fun b h => h) (fun i h st b hb => ?_) (fun i h h' st k => ⟨let ⟨old, e⟩ := st.1; ⟨old, k _ (by simp) _ e⟩, isItr_at st.2 fun o e => k N (by simp) o e⟩) (fun A i s Q E st h => let ⟨_, e⟩ := st.1; wpAny_pyIter_enum e h) fun X hP hW hK hc pins s σ H I1 hs i st => ?_
  · have e' : b = N + 1 ∨ b = N := by simpa using hb
    rcases e' with rfl | rfl
    · obtain ⟨old, e⟩ := st.1
      exact ⟨_, e, fun v q => nomatch q⟩
    · exact isItr_obj st.2
  · obtain ⟨its, r, q⟩ := src_of I1 hs
    obtain ⟨hz, hx⟩ := src_len I1 hs q
    have hh : X.A.handled = none := I1.ok.hd hc
    have W := GoesN.enumFrom (prog := P) (w := w) (A := X.A) (elts := elts) (x1 := kk) (pos := tpos) 0 (draws_src t (A := X.A.in1) hh N a hne its.toArray) (N + 1) hn1 (by
      intro m
      have e' : (N + 1 : Nat) = N ∨ N + 1 = a := by simpa using m
      rcases e' with e' | e'
      · exact hn1 e'
      · exact hne2 e') (by simp)
    have hl : its.toArray.size = (enumPs xs).length := by rw [enumPs_len, hz]
    rw [hl] at W
    refine ⟨_, _, _, W, ⟨?_, st.2, q⟩, fun i h x => ⟨?_, x.2.1⟩, fun i v h hi y => ?_⟩
    · obtain ⟨old, e⟩ := st.1
      exact ⟨old, by rw [Int.zero_add]; exact e⟩
    · obtain ⟨old, e⟩ := x.1
      rw [Int.zero_add] at e
      exact ⟨old, e⟩
    · obtain ⟨T, tk, x, rfl, hT, hp, tup⟩ := y
      obtain ⟨x', e1, e2⟩ := hx i x hp
      exact ⟨T, _, _, _, _, rfl, hT, tup, enumPs_get e1, ⟨tk, by rw [Int.zero_add]⟩, e2⟩
def iEnumS (ta : TA) : TI := fun σ H R => ta σ H fun vs H1 => ∃ t a xs, vs = [.ref a] ∧ SrcAt H1 t a xs ∧ R (ItP (fun H => SrcAt H t a xs) (enumPs xs)) H1
theorem pi_enumS {X : Cx} {e : Expr} {ta : TA} {p pos tpos : Pos} {elts : List Expr} {kk : Nat} (hg : Gl X "enumerate") (hm : X.mg "enumerate" = none) (ha : PA X [e] ta) (hs : starEach [e] X.env = [(false, eval e X.env)] := by rfl) :
    PI X (.Tuple elts kk tpos) (.Call (.Name "enumerate" p) [e] [] pos) (iEnumS ta) := by
  refine ⟨fun pins s σ H R I h => ?_⟩
  refine Call_ (ld_blt I hg hm boot_enumerate (PyProof.Rows.callWith_type1 (thn (ha.run pos pins s σ H _ I h) fun us s1 ⟨vs, H1, I1, r1, q1⟩ => ?_) hs rfl))
  obtain ⟨t, a, xs, ex, hq, q⟩ := q1
  subst ex
  cases r1 with
  | cons r rr =>
    cases rr
    cases r
    obtain ⟨its, rv, p'⟩ := src_of I1 hq
    have hlt := src_lt I1 hq
    refine enum_begins1 (begins_src t a its.toArray) p' fun h' he hit hsz hk => wpAny_pyIter_enum he ?_
    have I2 : Inv X pins σ H1 { s1 with heap := h' } := I1.kept (t' := s1.toks) hk
    refine ⟨s1.heap.objs.size + 1, [s1.heap.objs.size + 1, s1.heap.objs.size], _, _, H1, rfl, I2, turn_enumS (t := t) (a := a) (N := s1.heap.objs.size) (Nat.ne_of_lt hlt) (Nat.ne_of_gt (Nat.lt_succ_of_lt hlt)), ⟨Nat.zero_le _, ⟨.none, he⟩, isItr_new hit⟩, fun b hb => ?_, q⟩
    have e' : b = s1.heap.objs.size + 1 ∨ b = s1.heap.objs.size := by simpa using hb
    have hle : s1.heap.objs.size ≤ b := by
      rcases e' with z | z
      · rw [z]; exact Nat.le_add_right _ _
      · rw [z]; exact Nat.le_refl _
    exact I1.fpOk hle (I1.hok.fresh hle)

/-! ### zip -/
theorem turn_zipS {P : Program} {w : World} {K : PySem.W.Frag} {elts : List Expr} {kk : Nat} {tpos : Pos} {N a b : Addr} {t u : Bool} {xs ys : List V} (ha : a < N) (hb : b < N) :
    Turn P w K (.Tuple elts kk tpos) (ItP (fun H => SrcAt H t a xs ∧ SrcAt H u b ys) (xs.zip ys)) [N + 4, N + 2, N + 3, N, N + 1] (N + 4) (fun i h => i ≤ (xs.zip ys).length ∧ (IsZip h (N + 4) (N + 2) (N + 3) .none ∧ IsTupOf2 h (N + 2) (.ref N) (.ref (N + 1)) ∧ (∃ a1 a2, IsTupOf2 h (N + 3) a1 a2) ∧ IsItr h t N a i ∧ IsItr h u (N + 1) b i)) := by
  refine turn_pairs (wr := [N + 4, N + 3, N, N + 1]) (by simp) (fun c h => ?_) (fun i h st c hc => ?_) (fun i h h' st k => ⟨k _ (by simp) _ st.1, k _ (by simp) _ st.2.1, let ⟨a1, a2, e⟩ := st.2.2.1; ⟨a1, a2, k _ (by simp) _ e⟩, isItr_at st.2.2.2.1 fun o e => k _ (by simp) o e, isItr_at st.2.2.2.2 fun o e => k _ (by simp) o e⟩) (fun A i s Q E st h => wpAny_pyIter_zip st.1 h) fun X hP hW hK hc pins s σ H I1 hs i st => ?_
  · simp only [List.mem_cons, List.not_mem_nil, or_false] at h ⊢
    rcases h with h | h | h | h <;> simp [h]
  · simp only [List.mem_cons, List.not_mem_nil, or_false] at hc
    rcases hc with rfl | rfl | rfl | rfl | rfl
    · exact ⟨_, st.1, fun v q => nomatch q⟩
    · exact ⟨_, st.2.1, fun v q => nomatch q⟩
    · obtain ⟨a1, a2, e⟩ := st.2.2.1
      exact ⟨_, e, fun v q => nomatch q⟩
    · exact isItr_obj st.2.2.2.1
    · exact isItr_obj st.2.2.2.2
  · obtain ⟨its, r, q⟩ := src_of I1 hs.1
    obtain ⟨jts, r2, q2⟩ := src_of I1 hs.2
    obtain ⟨hz, hx⟩ := src_len I1 hs.1 q
    obtain ⟨hz2, hx2⟩ := src_len I1 hs.2 q2
    have hh : X.A.handled = none := I1.ok.hd hc
    have W := GoesN.zip2 (prog := P) (w := w) (A := X.A) (elts := elts) (x1 := kk) (pos := tpos) (zip_sep2 (N := N) (fp1 := [a]) (fp2 := [b]) (fun c hc => by rw [List.mem_singleton.mp hc]; exact ha) (fun c hc => by rw [List.mem_singleton.mp hc]; exact hb)) (draws_src t (A := X.A.in1) hh N a (Nat.ne_of_lt ha) its.toArray) (draws_src u (A := X.A.in1) hh (N + 1) b (Nat.ne_of_lt (Nat.lt_succ_of_lt hb)) jts.toArray)
    have hl : min its.toArray.size jts.toArray.size = (xs.zip ys).length := by rw [List.length_zip, hz, hz2]
    rw [hl] at W
    refine ⟨_, _, _, W, ⟨st.1, st.2.1, st.2.2.1, ⟨st.2.2.2.1, q⟩, ⟨st.2.2.2.2, q2⟩⟩, fun i h x => ⟨x.1, x.2.1, x.2.2.1, x.2.2.2.1.1, x.2.2.2.2.1⟩, fun i v h hi y => ?_⟩
    obtain ⟨T, x, z, rfl, hT, hp, hp2, tup⟩ := y
    obtain ⟨x', e1, e2⟩ := hx i x hp
    obtain ⟨y', f1, f2⟩ := hx2 i z hp2
    exact ⟨T, _, _, _, _, rfl, hT, tup, List.getElem?_zip_eq_some.mpr ⟨e1, f1⟩, e2, f2⟩
def iZipS (ta : TA) : TI := fun σ H R => ta σ H fun vs H1 => ∃ t u a b xs ys, vs = [.ref a, .ref b] ∧ SrcAt H1 t a xs ∧ SrcAt H1 u b ys ∧ R (ItP (fun H => SrcAt H t a xs ∧ SrcAt H u b ys) (xs.zip ys)) H1
theorem pi_zipS {X : Cx} {e e2 : Expr} {ta : TA} {p pos tpos : Pos} {elts : List Expr} {kk : Nat} (hg : Gl X "zip") (hm : X.mg "zip" = none) (ha : PA X [e, e2] ta)
    (hs : starEach [e, e2] X.env = (false, eval e X.env) :: starEach [e2] X.env := by rfl) (hpl : (backTo pos (starEach [e2] X.env)).any (·.1) = false := by rfl) :
    PI X (.Tuple elts kk tpos) (.Call (.Name "zip" p) [e, e2] [] pos) (iZipS ta) := by
  refine ⟨fun pins s σ H R I h => ?_⟩
  refine Call_ (ld_blt I hg hm PyProof.Rows.boot_zip (PyProof.Rows.callWith_type1 (thn (ha.run pos pins s σ H _ I h) fun us s1 ⟨vs, H1, I1, r1, q1⟩ => ?_) hs hpl))
  obtain ⟨t, u, a, b, xs, ys, ex, hqx, hqy, q⟩ := q1
  subst ex
  cases r1 with
  | cons r rr =>
    cases rr with
    | cons r' rr =>
      cases rr
      cases r
      cases r'
      obtain ⟨its, rv, p1⟩ := src_of I1 hqx
      obtain ⟨its2, rv2, p2⟩ := src_of I1 hqy
      have la := src_lt I1 hqx
      have lb := src_lt I1 hqy
      refine zip_begins2 (begins_src t a its.toArray) (begins_src u b its2.toArray) p1 p2 fun h' hz hTI hTO h1 h2 hsz hk => wpAny_pyIter_zip hz ?_
      have I2 : Inv X pins σ H1 { s1 with heap := h' } := I1.kept (t' := s1.toks) hk
      refine ⟨s1.heap.objs.size + 4, [s1.heap.objs.size + 4, s1.heap.objs.size + 2, s1.heap.objs.size + 3, s1.heap.objs.size, s1.heap.objs.size + 1], _, _, H1, rfl, I2, turn_zipS (t := t) (u := u) la lb, ⟨Nat.zero_le _, hz, hTI, ⟨_, _, hTO⟩, isItr_new h1, isItr_new h2⟩, fun c hcm => ?_, q⟩
      have e' : c = s1.heap.objs.size + 4 ∨ c = s1.heap.objs.size + 2 ∨ c = s1.heap.objs.size + 3 ∨ c = s1.heap.objs.size ∨ c = s1.heap.objs.size + 1 := by simpa using hcm
      have hle : s1.heap.objs.size ≤ c := by
        rcases e' with z | z | z | z | z
        · rw [z]; exact Nat.le_add_right _ _
        · rw [z]; exact Nat.le_add_right _ _
        · rw [z]; exact Nat.le_add_right _ _
        · rw [z]; exact Nat.le_refl _
        · rw [z]; exact Nat.le_add_right _ _
      exact I1.fpOk hle (I1.hok.fresh hle)
end Sf

end

section
set_option maxRecDepth 100000
set_option maxHeartbeats 1000000
/-! Sf: what is walked, further. -/
namespace Sf
open PySem PySem.Spec PyProof.Rows L2
variable [WorldI]

theorem keyD_rfV {F : Hp} {d : D} {k : Key} (h : keyD d = some k) : RF F (kV k) d := by
  cases d with
  | int i =>
    cases h
    exact .int i
  | str x =>
    cases h
    exact .str x
  | _ => cases h
inductive RP (F : Hp) : List (V × V) → List (D × D) → Prop
  | nil : RP F [] []
  | cons {k v : V} {d e : D} {ps : List (V × V)} {kvs : List (D × D)} : RF F k d → RF F v e → RP F ps kvs → RP F ((k, v) :: ps) ((d, e) :: kvs)
theorem RP.len {F : Hp} : ∀ {ps : List (V × V)} {kvs : List (D × D)}, RP F ps kvs → ps.length = kvs.length
  | _, _, .nil => rfl
  | _, _, .cons _ _ h => congrArg Nat.succ (RP.len h)
theorem RP.get {F : Hp} : ∀ {ps : List (V × V)} {kvs : List (D × D)} {i : Nat} {p : D × D}, RP F ps kvs → kvs[i]? = some p → ∃ k v, ps[i]? = some (k, v) ∧ RF F k p.1 ∧ RF F v p.2
  | _, _, _, _, .nil, e => by simp at e
  | _, _, 0, _, .cons a b _, e => by
    simp at e
    subst e
    exact ⟨_, _, rfl, a, b⟩
  | _, _, i + 1, p, .cons _ _ h, e => by
    obtain ⟨k, v, h1, h2⟩ := RP.get (i := i) (p := p) h (by simpa using e)
    exact ⟨k, v, by simpa using h1, h2⟩
theorem RK.rp {F : Hp} : ∀ {es : List (Key × V)} {kvs : List (D × D)}, RK F es kvs → RP F (es.map fun p => (kV p.1, p.2)) kvs
  | _, _, .nil => .nil
  | _, _, .cons a b r => .cons (keyD_rfV a) b (RK.rp r)
theorem RT.rp {F : Hp} : ∀ {xs : TE3} {kvs : List (D × D)}, RT F xs kvs → RP F (xs.map fun x => (V.ref x.2.1, x.2.2)) kvs
  | _, _, .nil => .nil
  | _, _, .cons _ a b r => .cons a b (RT.rp r)
theorem RP.fsts {F : Hp} : ∀ {ps : List (V × V)} {kvs : List (D × D)}, RP F ps kvs → RFs F (ps.map (·.1)) (kvs.map (·.1))
  | _, _, .nil => .nil
  | _, _, .cons a _ r => .cons a (RP.fsts r)
theorem RP.snds {F : Hp} : ∀ {ps : List (V × V)} {kvs : List (D × D)}, RP F ps kvs → RFs F (ps.map (·.2)) (kvs.map (·.2))
  | _, _, .nil => .nil
  | _, _, .cons _ a r => .cons a (RP.snds r)
theorem RFs.zipP {F : Hp} : ∀ {xs ys : List V} {ds es : List D}, RFs F xs ds → RFs F ys es → RP F (xs.zip ys) (ds.zip es)
  | _, _, _, _, .nil, _ => by simpa using RP.nil
  | _, _, _, _, .cons _ _, .nil => by simpa using RP.nil
  | _, _, _, _, .cons a h, .cons b g => .cons a b (RFs.zipP h g)

/-! ### the walks -/
section
variable {F0 : Hp} {d : Addr} {o : Obj} {ps : List (V × V)} {kvs : List (D × D)}
theorem two_le : 2 ≤ lineN := by decide
theorem wk_items (en : EnR F0 d o ps) (r : RP F0 ps kvs) (z : kvs.length ≤ lineN) : Wk F0 none (ItI d o ps) (kvs.map itemD) where
  go := fun i d0 F H e l1 l2 _ => by
    rw [List.getElem?_map] at e
    cases q : kvs[i]? with
    | none =>
      rw [q] at e
      cases e
    | some p =>
      rw [q] at e
      cases e
      obtain ⟨k, v, h1, h2, h3⟩ := r.get q
      refine ⟨⟨en.mono (l1.trans l2), (List.getElem?_eq_some_iff.mp h1).1⟩, fun x H' ⟨T, k', v', e1, e2, e3, e4⟩ => ?_⟩
      rw [h1] at e1
      cases e1
      subst e2 e4
      have hn := none_le l2 e3
      refine ⟨upd F T (.tup [k, v]), Grow.newT l2 e3, .tup upd_same (by show 2 ≤ lineN; exact two_le) (.cons ((h2.up l1).up (Le.new hn)) (.cons ((h3.up l1).up (Le.new hn)) .nil))⟩
  st := fun i F H e l1 l2 _ => ⟨en.mono (l1.trans l2), by rw [r.len]; rw [List.length_map] at e; exact e⟩
  ln := by rw [List.length_map]; exact z
theorem wk_keys (en : EnR F0 d o ps) (r : RP F0 ps kvs) (z : kvs.length ≤ lineN) : Wk F0 none (ItK d o ps) (kvs.map (·.1)) where
  go := fun i d0 F H e l1 l2 _ => by
    rw [List.getElem?_map] at e
    cases q : kvs[i]? with
    | none =>
      rw [q] at e
      cases e
    | some p =>
      rw [q] at e
      cases e
      obtain ⟨k, v, h1, h2, h3⟩ := r.get q
      refine ⟨⟨en.mono (l1.trans l2), (List.getElem?_eq_some_iff.mp h1).1⟩, fun x H' ⟨e1, v', e2⟩ => ?_⟩
      rw [h1] at e2
      cases e2
      subst e1
      exact ⟨F, Grow.refl l2, h2.up l1⟩
  st := fun i F H e l1 l2 _ => ⟨en.mono (l1.trans l2), by rw [r.len]; rw [List.length_map] at e; exact e⟩
  ln := by rw [List.length_map]; exact z
theorem wk_vals (en : EnR F0 d o ps) (r : RP F0 ps kvs) (z : kvs.length ≤ lineN) : Wk F0 none (ItV d o ps) (kvs.map (·.2)) where
  go := fun i d0 F H e l1 l2 _ => by
    rw [List.getElem?_map] at e
    cases q : kvs[i]? with
    | none =>
      rw [q] at e
      cases e
    | some p =>
      rw [q] at e
      cases e
      obtain ⟨k, v, h1, h2, h3⟩ := r.get q
      refine ⟨⟨en.mono (l1.trans l2), (List.getElem?_eq_some_iff.mp h1).1⟩, fun x H' ⟨e1, v', e2⟩ => ?_⟩
      rw [h1] at e2
      cases e2
      subst e1
      exact ⟨F, Grow.refl l2, h3.up l1⟩
  st := fun i F H e l1 l2 _ => ⟨en.mono (l1.trans l2), by rw [r.len]; rw [List.length_map] at e; exact e⟩
  ln := by rw [List.length_map]; exact z
theorem wk_pairs {src : Hp → Prop} (sr : ∀ F H, Le F0 F → Le F H → src H) (r : RP F0 ps kvs) (z : kvs.length ≤ lineN) : Wk F0 none (ItP src ps) (kvs.map itemD) where
  go := fun i d0 F H e l1 l2 _ => by
    rw [List.getElem?_map] at e
    cases q : kvs[i]? with
    | none =>
      rw [q] at e
      cases e
    | some p =>
      rw [q] at e
      cases e
      obtain ⟨k, v, h1, h2, h3⟩ := r.get q
      refine ⟨⟨sr F H l1 l2, (List.getElem?_eq_some_iff.mp h1).1⟩, fun x H' ⟨T, k', v', e1, e2, e3, e4⟩ => ?_⟩
      rw [h1] at e1
      cases e1
      subst e2 e4
      have hn := none_le l2 e3
      refine ⟨upd F T (.tup [k, v]), Grow.newT l2 e3, .tup upd_same (by show 2 ≤ lineN; exact two_le) (.cons ((h2.up l1).up (Le.new hn)) (.cons ((h3.up l1).up (Le.new hn)) .nil))⟩
  st := fun i F H e l1 l2 _ => ⟨sr F H l1 l2, by rw [r.len]; rw [List.length_map] at e; exact e⟩
  ln := by rw [List.length_map]; exact z
end

section
variable {K : PySem.W.Frag} {F H F1 H1 : Hp} {E E1 : Sto} {σ : L2.St}
theorem fro_en {t : Bool} {kvs : List (D × D)} {a : Addr} (r : RW K F H (fro t kvs) (.ref a)) : ∃ o ps, EnR F a o ps ∧ RP F ps kvs ∧ kvs.length ≤ lineN := by
  cases t with
  | false =>
    have r : RF F (.ref a) (.dict kvs) := r
    cases r with
    | dk e z b => exact ⟨_, _, ⟨_, e, .inl ⟨_, rfl, rfl⟩⟩, b.rp, z⟩
  | true =>
    obtain ⟨b, o, xs, e, q, z, r⟩ := r
    cases e
    exact ⟨o, _, ⟨_, q, .inr ⟨_, _, rfl, rfl⟩⟩, r.rp, z⟩
theorem ask_dct {w : W} {v : V} {kvs : List (D × D)} (S1 : SR K F1 H1 E1 σ) (x1 : Ext F H E σ F1 H1 E1) (r : Rs K F1 H1 H E1 σ w v) (e : w.dctL? = some kvs) {Q : VK}
    (k : ∀ F2 H2 a o ps, v = .ref a → EnR F2 a o ps → RP F2 ps kvs → kvs.length ≤ lineN → SR K F2 H2 E1 σ → Ext F H E σ F2 H2 E1 → Q v H2) :
    Q v H1 ∨ ∃ d u, v = .ref d ∧ H1 d = some u ∧ Mut (some u) ∧ ∀ od, Q v (upd H1 d (.frz od u)) := by
  cases w with
  | od t es =>
    cases e
    obtain ⟨a, u, rfl, hu, mu, n0, q⟩ := S1.freezeTD r
    refine .inr ⟨a, u, rfl, hu, mu, fun od => ?_⟩
    obtain ⟨S2, l2, r2⟩ := q od
    obtain ⟨o, ps, en, rp, z⟩ := fro_en r2
    exact k _ _ a o ps rfl en rp z S2 (x1.lockN n0 hu (free_tm r rfl))
  | ft es =>
    cases e
    have r2 : RW K F1 H1 (fro true kvs) v := r.1
    obtain ⟨a, _, _, rfl, _⟩ := r.1
    obtain ⟨o, ps, en, rp, z⟩ := fro_en r2
    exact .inl (k F1 H1 a o ps rfl en rp z S1 x1)
  | fz d =>
    cases d with
    | dict es =>
      cases e
      have r1 : RF F1 v (.dict kvs) := r.1
      have r2 : RW K F1 H1 (fro false kvs) v := r.1
      cases r1 with
      | dk ha z b =>
        obtain ⟨o, ps, en, rp, z⟩ := fro_en r2
        exact .inl (k F1 H1 _ o ps rfl en rp z S1 x1)
    | _ => cases e
  | _ => cases e
end

section
variable {X : Cx} {xa : Nat → Addr} {Z : WX} {cl : Nat → List W → CRes} {tg e : Expr} {x : IE} {apos cpos : Pos}
theorem it_ask {J : Addr → Obj → List (V × V) → It} {f : List (D × D) → List D} {σ : L2.St} {H : Hp} {R : It → Hp → Prop} (hw : ∀ F0 d o ps kvs, EnR F0 d o ps → RP F0 ps kvs → kvs.length ≤ lineN → Wk F0 none (J d o ps) (f kvs))
    (h : toTI X.K xa Z (fun E => (ev cl x E).bind fun w E1 => .lift (w.dctL?.map f) E1) σ H R) : iItR J (fun σ H Q => toTE X.K xa Z (ev cl x) σ H fun v H1 => Q v H1 ∨ ∃ d u, v = .ref d ∧ H1 d = some u ∧ Mut (some u) ∧ ∀ od, Q v (upd H1 d (.frz od u))) σ H R := by
  obtain ⟨F, E, S, p⟩ := h
  refine ⟨F, E, S, (Post.bindB p).mono fun w E1 F1 H1 _ S1 x1 p2 v r => ?_⟩
  obtain ⟨ds, e1, p3⟩ := Post.liftB p2
  obtain ⟨kvs, e2, rfl⟩ := map_some' e1
  refine ask_dct (Q := fun x H1 => ∃ d o ps, x = V.ref d ∧ EnR H1 d o ps ∧ R (J d o ps) H1) S1 x1 r e2 fun F2 H2 a o ps ev en rp z S2 x2 => ⟨a, o, ps, ev, en.mono S2.le, ?_⟩
  exact p3 F2 H2 S2 x2 _ none (hw F2 a o ps kvs en rp z) Lh.no fun _ _ z => nomatch z
theorem di_items {elts : List Expr} {kk : Nat} {tpos : Pos} (h : PE X e (toTE X.K xa Z (ev cl x))) (hbase : attributeBase e "items" X.env (eval e X.env) = eval e X.env) (hline : (apos.endLine == cpos.line) = true) :
    PI X (.Tuple elts kk tpos) (.Call (.Attribute e "items" apos) [] [] cpos) (toTI X.K xa Z (evR cl (.items x))) := by
  refine ⟨fun pins s σ H R I q => (pi_itemsR (pe_lk h) hbase hline).run pins s σ H R I (it_ask (x := x) (f := fun kvs => kvs.map itemD) (fun F0 d o ps kvs en rp z => wk_items en rp z) ?_)⟩
  obtain ⟨F, E, S, p⟩ := q
  unfold evR at p
  exact ⟨F, E, S, p⟩
theorem di_vals (h : PE X e (toTE X.K xa Z (ev cl x))) (hbase : attributeBase e "values" X.env (eval e X.env) = eval e X.env) (hline : (apos.endLine == cpos.line) = true) :
    PI X tg (.Call (.Attribute e "values" apos) [] [] cpos) (toTI X.K xa Z (evR cl (.vals x))) := by
  refine ⟨fun pins s σ H R I q => (pi_valuesR (pe_lk h) hbase hline).run pins s σ H R I (it_ask (x := x) (f := fun kvs => kvs.map (·.2)) (fun F0 d o ps kvs en rp z => wk_vals en rp z) ?_)⟩
  obtain ⟨F, E, S, p⟩ := q
  unfold evR at p
  exact ⟨F, E, S, p⟩
theorem di_keysM (h : PE X e (toTE X.K xa Z (ev cl x))) (hbase : attributeBase e "keys" X.env (eval e X.env) = eval e X.env) (hline : (apos.endLine == cpos.line) = true) :
    PI X tg (.Call (.Attribute e "keys" apos) [] [] cpos) (toTI X.K xa Z (evR cl (.keys x))) := by
  refine ⟨fun pins s σ H R I q => (pi_keysMR (pe_lk h) hbase hline).run pins s σ H R I (it_ask (x := x) (f := fun kvs => kvs.map (·.1)) (fun F0 d o ps kvs en rp z => wk_keys en rp z) ?_)⟩
  obtain ⟨F, E, S, p⟩ := q
  unfold evR at p
  exact ⟨F, E, S, p⟩
theorem di_keys (h : PE X e (toTE X.K xa Z (ev cl x))) : PI X tg e (toTI X.K xa Z (evR cl (.keys x))) := by
  refine ⟨fun pins s σ H R I q => (pi_keysR (pe_lk h)).run pins s σ H R I (it_ask (x := x) (f := fun kvs => kvs.map (·.1)) (fun F0 d o ps kvs en rp z => wk_keys en rp z) ?_)⟩
  obtain ⟨F, E, S, p⟩ := q
  unfold evR at p
  exact ⟨F, E, S, p⟩

/-! ### enumerate, zip -/
/-- items that stand still -/
theorem src_rf {F : Hp} {v : V} {d : D} {ds : List D} (r : RF F v d) (e : (W.fz d).items? = some ds) : ∃ t a xs, v = .ref a ∧ SrcAt F t a xs ∧ RFs F xs ds ∧ ds.length ≤ lineN := by
  cases d with
  | list zs =>
    cases e
    cases r with
    | lst a z b => exact ⟨false, _, _, rfl, a, b, z⟩
  | tuple zs =>
    cases e
    cases r with
    | tup a z b => exact ⟨true, _, _, rfl, a, b, z⟩
  | _ => cases e
theorem srcAt_le {F H : Hp} {t : Bool} {a : Addr} {xs : List V} (h : SrcAt F t a xs) (l : Le F H) : SrcAt H t a xs := l _ _ h
theorem enumD_eq (ds : List D) : enumD ds = ((ds.zipIdx.map fun p => (PyData.int (p.2 : Nat), p.1)).map itemD) := by
  unfold enumD itemD
  rw [List.map_map]
  rfl
theorem enumRP {F : Hp} : ∀ {xs : List V} {ds : List D} (k : Nat), RFs F xs ds → RP F ((xs.zipIdx k).map fun p => (V.int (p.2 : Nat), p.1)) ((ds.zipIdx k).map fun p => (PyData.int (p.2 : Nat), p.1))
  | _, _, _, .nil => .nil
  | _, _, k, .cons a h => by
    rw [List.zipIdx_cons, List.zipIdx_cons]
    exact .cons (.int _) a (enumRP (k + 1) h)
theorem frzI_of {e : Expr} {x : IE} {g : Sto → Res (List D)} (h : PE X e (toTE X.K xa Z (ev cl x))) (hg : ∀ E, g E = (ev cl x E).bind fun w E1 => Res.lift (w.frz.bind fun d => (W.fz d).items?) E1) :
    PE X e (fun σ H Q => ∃ F E, SR X.K F H E σ ∧ Post X.K xa Z (g E) F H E σ fun ds E' F' H' => ∀ t a xs, SrcAt F' t a xs → RFs F' xs ds → ds.length ≤ lineN → Q (.ref a) H') := by
  refine pe_imp h fun σ H Q ⟨F, E, S, p⟩ => ?_
  rw [hg] at p
  refine ⟨F, E, S, (Post.bindB p).mono fun w E1 F1 H1 _ S1 x1 p2 v r => ?_⟩
  obtain ⟨ds, e1, p3⟩ := Post.liftB p2
  obtain ⟨d, e2, e3⟩ := bind_some' e1
  cases w with
  | fz d0 =>
    cases e2
    obtain ⟨t, a, xs, rfl, h1, h2, h3⟩ := src_rf r.1 e3
    exact p3 F1 H1 S1 x1 t a xs h1 h2 h3
  | ol zs =>
    cases e2
    obtain ⟨F2, S2, l2, n2, r2⟩ := S1.freezeT r
    obtain ⟨t, a, xs, rfl, h1, h2, h3⟩ := src_rf r2 e3
    exact p3 F2 H1 S2 (x1.widen l2 n2) t a xs h1 h2 h3
  | od t kvs =>
    cases t with
    | false =>
      cases e2
      cases e3
    | true => cases e2
  | _ => cases e2
theorem di_enum {elts : List Expr} {kk : Nat} {p pos tpos : Pos} (hg : Gl X "enumerate") (hm : X.mg "enumerate" = none) (h : PE X e (toTE X.K xa Z (ev cl x))) (hs : starEach [e] X.env = [(false, eval e X.env)]) :
    PI X (.Tuple elts kk tpos) (.Call (.Name "enumerate" p) [e] [] pos) (toTI X.K xa Z (evR cl (.enum x))) := by
  refine ⟨fun pins s σ H R I q => (pi_enumS hg hm (pa_cons (frzI_of (x := x) h fun _ => rfl) pa_nil hs) hs).run pins s σ H R I ?_⟩
  obtain ⟨F, E, S, p⟩ := q
  unfold evR at p
  have e1 : ((ev cl x E).bind fun w E1 => Res.lift ((w.frz.bind fun d => (W.fz d).items?).map enumD) E1) = ((ev cl x E).bind fun w E1 => Res.lift (w.frz.bind fun d => (W.fz d).items?) E1).bind fun ds E2 => .ok (enumD ds) E2 := by
    rw [bind_bind]
    congr 1
    funext w E1
    cases (w.frz.bind fun d => (W.fz d).items?) <;> rfl
  rw [e1] at p
  refine ⟨F, E, S, (Post.bindB p).mono fun ds E1 F1 H1 _ S1 x1 p2 t a xs h1 h2 h3 => ?_⟩
  refine ⟨t, a, xs, rfl, srcAt_le h1 S1.le, ?_⟩
  have p3 : Post X.K xa Z (.ok (enumD ds) E1) F H E σ fun ds E' F' H' => ∀ J lk, Wk F' lk J ds → Lh lk H' → (∀ a o, lk = some (a, o) → ∀ i, ¬ mutAt E' σ i a) → R J H' := p2
  refine p3 F1 H1 S1 x1 _ none ?_ Lh.no fun _ _ z => nomatch z
  rw [enumD_eq]
  exact wk_pairs (fun F H l1 l2 => srcAt_le (srcAt_le h1 l1) l2) (enumRP 0 h2) (by simp; exact h3)
theorem di_zip {e2 : Expr} {y : IE} {elts : List Expr} {kk : Nat} {p pos tpos : Pos} (hg : Gl X "zip") (hm : X.mg "zip" = none) (h : PE X e (toTE X.K xa Z (ev cl x))) (h2 : PE X e2 (toTE X.K xa Z (ev cl y))) (hs2 : starEach [e2] X.env = (false, eval e2 X.env) :: starEach [] X.env) (hs : starEach [e, e2] X.env = (false, eval e X.env) :: starEach [e2] X.env) (hpl : (backTo pos (starEach [e2] X.env)).any (·.1) = false) :
    PI X (.Tuple elts kk tpos) (.Call (.Name "zip" p) [e, e2] [] pos) (toTI X.K xa Z (evR cl (.zip x y))) := by
  refine ⟨fun pins s σ H R I q => (pi_zipS hg hm (pa_cons (frzI_of (x := x) h fun _ => rfl) (pa_cons (frzI_of (x := y) h2 fun _ => rfl) pa_nil hs2) hs) hs hpl).run pins s σ H R I ?_⟩
  obtain ⟨F, E, S, p⟩ := q
  unfold evR at p
  have e1 : ((ev cl x E).bind fun w E1 => (Res.lift (w.frz.bind fun d => (W.fz d).items?) E1).bind fun ds E2 => (ev cl y E2).bind fun u E3 => (Res.lift (u.frz.bind fun d => (W.fz d).items?) E3).bind fun es E4 => .ok (zipD ds es) E4) = ((ev cl x E).bind fun w E1 => Res.lift (w.frz.bind fun d => (W.fz d).items?) E1).bind fun ds E2 => ((ev cl y E2).bind fun u E3 => Res.lift (u.frz.bind fun d => (W.fz d).items?) E3).bind fun es E4 => .ok (zipD ds es) E4 := by
    rw [bind_bind]
    congr 1
    funext w E1
    congr 1
    funext ds E2
    rw [bind_bind]
  rw [e1] at p
  refine ⟨F, E, S, (Post.bindB p).mono fun ds E1 F1 H1 _ S1 x1 p2 t a xs g1 g2 g3 => ?_⟩
  refine ⟨F1, E1, S1, ((Post.bindB p2).rebase x1).mono fun es E2 F2 H2 _ S2 x2 p3 u b ys k1 k2 k3 => ?_⟩
  refine ⟨t, u, a, b, xs, ys, rfl, srcAt_le (srcAt_le g1 x2.fle) S2.le, srcAt_le k1 S2.le, ?_⟩
  have p4 : Post X.K xa Z (.ok (zipD ds es) E2) F H E σ fun ds E' F' H' => ∀ J lk, Wk F' lk J ds → Lh lk H' → (∀ a o, lk = some (a, o) → ∀ i, ¬ mutAt E' σ i a) → R J H' := p3
  refine p4 F2 H2 S2 (x1.trans x2) _ none ?_ Lh.no fun _ _ z => nomatch z
  have hz : (ds.zip es).length ≤ lineN := by
    rw [List.length_zip]
    omega
  exact wk_pairs (fun F H l1 l2 => ⟨srcAt_le (srcAt_le (srcAt_le g1 x2.fle) l1) l2, srcAt_le (srcAt_le k1 l1) l2⟩) (RFs.zipP (g2.up x2.fle) k2) hz
/-! ### *xs in a display -/
theorem dds_star {es : List Expr} {xs : IEs} {pp : Pos} (h : PE X e (toTE X.K xa Z (ev cl x))) (hs : PA X es (toTDs X.K xa Z (evDs cl xs))) (hst : starEach (.Starred e pp :: es) X.env = (true, eval e X.env) :: starEach es X.env) : PA X (.Starred e pp :: es) (toTDs X.K xa Z (evDs cl (.star x xs))) := by
  refine pa_imp (StX.pa_star (frzI_of (x := x) h fun _ => rfl) hs hst) fun σ H Q ⟨F, E, S, p⟩ => ?_
  unfold evDs at p
  have e1 : ((ev cl x E).bind fun w E1 => (Res.lift (w.frz.bind fun d => (W.fz d).items?) E1).bind fun ds E2 => if ds.length ≤ 1000 then (evDs cl xs E2).bind fun es E3 => Res.ok (ds ++ es) E3 else .stuck) = ((ev cl x E).bind fun w E1 => Res.lift (w.frz.bind fun d => (W.fz d).items?) E1).bind fun ds E2 => if ds.length ≤ 1000 then (evDs cl xs E2).bind fun es E3 => .ok (ds ++ es) E3 else .stuck := by
    rw [bind_bind]
  rw [e1] at p
  refine ⟨F, E, S, (Post.bindB p).mono fun ds E1 F1 H1 _ S1 x1 p2 t a vs h1 h2 h3 => ?_⟩
  refine ⟨a, vs, rfl, ?_, ?_⟩
  · cases t with
    | true => exact .inl (SqT.of (srcAt_le h1 S1.le))
    | false => exact .inr (SqL.of (srcAt_le h1 S1.le))
  · split at p2
    · refine ⟨F1, E1, S1, ((Post.bindB p2).rebase x1).mono fun es E2 F2 H2 _ S2 x2 p3 us r2 => ?_⟩
      exact p3 F2 H2 S2 (x1.trans x2) (vs ++ us) ((h2.up x2.fle).app r2)
    · exact p2.elim
/-! ### xs.extend(ys) -/
theorem ds_ext {bo : List Bool} {o : Expr} {i : Nat} {pos : Pos} (ho : PE X o (tVar i)) (he : PE X e (toTE X.K xa Z (ev cl x))) (hst : starEach [e] X.env = (false, eval e X.env) :: starEach [] X.env)
    (hbase : attributeBase o "extend" X.env (eval o X.env) = eval o X.env)
    (hfew : ((backTo cpos (starEach [e] X.env)).all (fun x => !x.1) && (backToKw cpos (keywordEach [] X.env)).all (fun x => x.1.isSome) && decide ([e].length + ([] : List Keyword).length + (if ([] : List Keyword).isEmpty then 0 else 1) < 30)) = true)
    (hline : (apos.endLine == cpos.line) = true) (hplain : (backTo cpos (starEach [] X.env)).any (·.1) = false) (hs : swapsWith (.Call (.Attribute o "extend" apos) [e] [] cpos) none pos.line X.env = pure false) :
    PS X (.Expr (.Call (.Attribute o "extend" apos) [e] [] cpos) pos) (toTS X.K xa Z bo (evS cl bo (.ext i x))) := by
  refine ps_imp (ps_expr (pe_bm PySem.F.plainAttrs_list PySem.F.slot_list_extend PySem.F.type_list_extend mt_extend ho (pa_cons he pa_nil hst) hbase hfew hline hst hplain) hs) fun D σ H ⟨F, E, S, p⟩ => ?_
  unfold evS at p
  cases g : getS E i with
  | none =>
    rw [g] at p
    exact p.elim
  | some w0 =>
    rw [g] at p
    cases w0 with
    | ol ds0 =>
      obtain ⟨v0, s0, a, xs, rfl, h0, _, _⟩ := S.val g
      have p1 : PostS X.K xa Z bo ((ev cl x E).bind fun w E1 => (Res.lift w.lst? E1).bind fun es E2 => match getS E2 i with
        | some (.ol ds) => if ds.length + es.length ≤ lineN then .ok .next (setS E2 i (.ol (ds ++ es))) else .stuck
        | _ => .stuck) F H E σ D := p
      refine ⟨_, s0, .inl ⟨rfl, xs, SqL.of h0⟩, F, E, S, p1.of_ev fun w E1 F1 H1 _ S1 x1 p2 v r => ?_⟩
      cases f : w.lst? with
      | none =>
        rw [f] at p2
        exact p2.elim
      | some es =>
        rw [f] at p2
        have p3 : PostS X.K xa Z bo (match getS E1 i with
          | some (.ol ds) => if ds.length + es.length ≤ lineN then .ok .next (setS E1 i (.ol (ds ++ es))) else .stuck
          | _ => .stuck) F H E σ D := p2
        cases g1 : getS E1 i with
        | none =>
          rw [g1] at p3
          exact p3.elim
        | some u =>
          rw [g1] at p3
          cases u with
          | ol ds =>
            have p4 : PostS X.K xa Z bo (if ds.length + es.length ≤ lineN then .ok .next (setS E1 i (.ol (ds ++ es))) else .stuck) F H E σ D := p3
            split at p4
            · rename_i lt
              obtain ⟨b, zs, rfl, h1, z1, r1⟩ := lst_of S1.le r.1 f
              obtain ⟨a2, ys, s, h2, rr, _⟩ := own_ahead S1 (getS_at g1)
              rw [s0] at s
              cases s
              obtain ⟨S3, x3⟩ := S1.write (getS_at g1) s0 (es := ds ++ es) (by rw [List.length_append]; exact lt) (rr.app r1)
              refine ⟨a, b, ys, zs, rfl, rfl, h2, h1, ?_, p4 F1 _ σ S3 (x1.trans x3).xs⟩
              rw [line_eq, rr.len, r1.len]
              exact lt
            · exact p4.elim
          | _ => exact p3.elim
    | _ => exact p.elim

/-! ### sorted(d) -/
theorem RK.ints {F : Hp} : ∀ {es : List (Key × V)} {kvs : List (D × D)} {ns : List Int}, RK F es kvs → ints? (kvs.map (·.1)) = some ns → es.map (·.1) = ns.map Sum.inl
  | _, _, _, .nil, hi => by
    cases hi
    rfl
  | _, (dd, ee) :: kvs, ns, .cons a b c, hi => by
    cases dd with
    | int i =>
      cases a
      obtain ⟨ms, e1, e2⟩ := map_some' (show (ints? (kvs.map (·.1))).map (i :: ·) = some ns from hi)
      subst e2
      rw [List.map_cons, List.map_cons, RK.ints c e1]
    | _ => cases hi
theorem dsort_go {K : PySem.W.Frag} {F H : Hp} {w r : W} {y : V} {Q : VK} (l : Le F H) (rw1 : RW K F H w y) (h1 : op1 .dsort w = some r) (k : K1 K H Q F r) : ∃ (a : Addr) (kvs : List (Key × V)) (ks : List Int), y = .ref a ∧ Rd H a (.dK kvs) ∧ kvs.map (·.1) = ks.map Sum.inl ∧ ks.length < 64 ∧
    ∀ (ys : List Int) (p : Addr), ys.Perm ks → ys.Pairwise (· ≤ ·) → H p = none → Q (.ref p) (upd H p (.lst (ys.map V.int))) := by
  have go : ∀ (kvs : List (D × D)) (a : Addr) (es : List (Key × V)) (ns : List Int), y = .ref a → Rd H a (.dK es) → RK F es kvs → ints? (kvs.map (·.1)) = some ns → ns.length < 64 → r = .ol ((sortI ns).map .int) → ∃ (a : Addr) (kvs : List (Key × V)) (ks : List Int), y = .ref a ∧ Rd H a (.dK kvs) ∧ kvs.map (·.1) = ks.map Sum.inl ∧ ks.length < 64 ∧
    ∀ (ys : List Int) (p : Addr), ys.Perm ks → ys.Pairwise (· ≤ ·) → H p = none → Q (.ref p) (upd H p (.lst (ys.map V.int))) := fun kvs a es ns ey hd rk hi hl er => by
    subst ey er
    refine ⟨a, es, ns, rfl, hd, rk.ints hi, hl, fun ys p hp hs hq => ?_⟩
    have := sortI_unique hp hs
    subst this
    refine k.lst l ?_ (RFs.ofInts _) hq
    rw [List.length_map, (sortI_perm ns).length_eq]
    unfold lineN
    omega
  cases w with
  | od t kvs =>
    cases t with
    | true => cases h1
    | false =>
      obtain ⟨ns, e1, e2⟩ := bind_some' (show ((ints? (kvs.map (·.1))).bind fun ns => if ns.length < 64 then some (W.ol ((sortI ns).map .int)) else none) = some r from h1)
      obtain ⟨hl, er⟩ := if_some e2
      obtain ⟨a, ey, _, es, he, rk⟩ := rw1
      exact go kvs a es ns ey (.inl he) rk e1 hl er
  | fz d =>
    cases d with
    | dict kvs =>
      obtain ⟨ns, e1, e2⟩ := bind_some' (show ((ints? (kvs.map (·.1))).bind fun ns => if ns.length < 64 then some (W.ol ((sortI ns).map .int)) else none) = some r from h1)
      obtain ⟨hl, er⟩ := if_some e2
      have rw1 : RF F y (.dict kvs) := rw1
      cases rw1 with
      | dk he z rk => exact go kvs _ _ ns rfl (.inr ⟨_, l _ _ he⟩) rk e1 hl er
    | _ => cases h1
  | _ => cases h1
theorem o1_dsort (hc : X.calm = true) : CallR X (.builtin "sorted") (rO1 X.K .dsort) := by
  intro pins s σ H xs us Q I rx h
  obtain ⟨F, w, y, r, rfl, l, rw1, h1, k⟩ := h
  obtain ⟨a, es, ns, rfl, hd, hk, hl, q⟩ := dsort_go l rw1 h1 k
  exact call_sortedDI hc pins s σ H _ us Q I rx ⟨a, es, ns, rfl, hd, hk, hl, q⟩
end
end Sf

end

section
set_option maxRecDepth 100000
set_option maxHeartbeats 4000000
/-! Sf: sorted(set(..)) of ints. -/
namespace Sf
open PySem PySem.Spec PyProof.Rows L2
/-- a new set, empty -/
abbrev setE (w : World) : Obj := { cls := .type "set", dict := none, data := .set #[] 0 (.fresh 0 0 (!w.params.followText "set-order")) }
section
variable {P : Program} {w : World} {A : Around} {E : Value → Shared → Prop} {s : Shared}
/-- T(..): what __new__ makes, what __init__ does with it -/
theorem callT {T newId initId : String} {args : List Value} {Q Q₁ : Value → Shared → Prop} (ft : TypeCalled T newId initId) (hct : checkTypeCall T ⟨args, []⟩ = pure ())
    (hnew : codeAny (model P w) A.in1 (.call (.builtin newId) ⟨.type T :: args, []⟩) (wants Q₁ E) s)
    (hnext : ∀ obj s₁, Q₁ obj s₁ → s₁.TypeIs obj T ∧ codeAny (model P w) A.in1 (.call (.builtin initId) ⟨obj :: args, []⟩) (wants (fun r s₂ => r = .none ∧ Q obj s₂) E) s₁) :
    wpAny (model P w) A (call (.type T) args) Q E s := by
  obtain ⟨c, tl, hmro⟩ := ft.mro
  have made := ft.made
  have sub := ft.sub
  have a1 := ft.notType
  have a2 := ft.canCreate
  refine wpAny_call (codeAny_of_tree (wpAny_pure ⟨Code.quiet_builtin _ (by decide +kernel), codeAny_builtin F.entry_type_call ?_⟩))
  rw [Around.under_plain (weight_type_call_type T args []) rfl]
  repeat (any_goals (first | assumption | wp_step))
  refine codeAny_mono hnew fun r s₁ hr => ?_
  match r, hr with
  | .error e, hr => exact hr
  | .ok .next, hr => exact hr.elim
  | .ok .brk, hr => exact hr.elim
  | .ok .cont, hr => exact hr.elim
  | .ok (.ret obj), hr =>
    obtain ⟨hT, hi⟩ := hnext _ _ hr
    have b1 := ft.init.lookup
    have b2 := ft.init.bind obj
    repeat (any_goals (first | assumption | wp_step))
    refine codeAny_mono hi fun r₂ s₂ hr₂ => ?_
    match r₂, hr₂ with
    | .error e, hr₂ => exact hr₂
    | .ok .next, hr₂ => exact hr₂.elim
    | .ok .brk, hr₂ => exact hr₂.elim
    | .ok .cont, hr₂ => exact hr₂.elim
    | .ok (.ret v), hr₂ =>
      obtain ⟨rfl, hq⟩ := hr₂
      repeat (any_goals (first | assumption | wp_step))
/-- a set of a list of ints, just made -/
theorem set_of_list {l : Addr} {items : Array Value} {ns : List Int} {Q : Value → Shared → Prop} (hh : A.handled = none) (hl : s.heap.IsList l items) (hit : IntsAre items.toList ns) (hb : ns.length + 1 < scanBound)
    (h : ∀ (h' : Heap) (tk c : Nat), SetR w h' s.heap.objs.size (fun j => decide (j ∈ ns)) c → c ≤ ns.length → (∀ b o, s.heap.get? b = some o → h'.get? b = some o) → Q (.ref s.heap.objs.size) { s with heap := h', toks := tk }) :
    wpAny (model P w) A (call (.type "set") [.ref l]) Q E s := by
  have hz : items.size = ns.length := by simpa using IntsAre.length hit
  refine callT F.called_set (F.typeCall_set_1 _) (Q₁ := fun obj s₁ => obj = .ref s.heap.objs.size ∧ s₁ = { s with heap := s.heap.push (setE w) }) (code_set_led1 (.ref l) ⟨rfl, rfl⟩) fun obj s₁ e => ?_
  obtain ⟨rfl, rfl⟩ := e
  have hS : (s.heap.push (setE w)).get? s.heap.objs.size = some (setE w) := Heap.get?_push_size _ rfl
  refine ⟨⟨_, hS, rfl⟩, codeAny_call_builtin F.called_set.init.plain F.entry_set_init (check_set_init_1 ⟨_, hS, rfl⟩ ?_)⟩
  have hl1 : (s.heap.push (setE w)).IsList l items := hl.push _
  obtain ⟨⟨ocls, odict, odata, oslots⟩, hol, hcl, nl, hdl⟩ := id hl1
  simp only at hcl hdl
  subst hcl hdl
  have hls : l < s.heap.objs.size := let ⟨_, q, _⟩ := hl; Heap.lt_size q
  have hsz : (s.heap.push (setE w)).objs.size = s.heap.objs.size + 1 := Heap.size_push ..
  have f1 := F.sub_list_set
  have f2 := F.sub_list_frozenset
  have f3 : (Value.type "list" == Value.type "dict") = false := by decide
  unfold Builtin.«set.__init__» noKeywords Builtin.Frozenset.updateFrom
  generalize hPI : pyIter = PI
  wp_walk
  subst hPI
  refine wpAny_pyIter_list hl1 (wpAny_bind (wpAny_runValue ?_))
  have hh3 : A.in1.in1.in1.handled = none := by simp [hh]
  have hneI : l ≠ (s.heap.push (setE w)).objs.size := by
    rw [hsz]
    exact Nat.ne_of_lt (Nat.lt_succ_of_lt hls)
  refine set_update_ints ((Walks.list hh3 _ l hneI items).toS) s.heap.objs.size ?_ ns hz hb (fun i v hv => ?_) (items.size - 0) 0 _ (by omega) (Nat.zero_le _) ⟨⟨_, Heap.get?_push_size _ rfl, rfl, rfl⟩, hl1.push _⟩ ⟨0, Nat.le_refl 0, setR_new_at (Heap.get?_push_of_some _ hS)⟩ fun s' c hm hc hR => ?_
  · rw [hsz]
    intro m
    rcases List.mem_cons.mp m with e | m
    · exact Nat.ne_of_lt (Nat.lt_succ_self _) e
    · exact Nat.ne_of_gt hls (List.mem_singleton.mp m)
  · have hi : i < ns.length := by
      rw [← hz]
      exact (Array.getElem?_eq_some_iff.mp hv).1
    obtain ⟨t, e⟩ := IntsAre.int_at hit i v (by rw [Array.getElem?_toList]; exact hv)
    refine ⟨ns[i], t, List.getElem?_eq_getElem hi, ?_⟩
    rw [e, List.getD_eq_getElem?_getD, List.getElem?_eq_getElem hi]
    rfl
  · obtain ⟨h', g2, d', tk', os'⟩ := s'
    have eg : g2 = s.gens := hm.gens
    have ed : d' = s.drawn := hm.drawn
    have eo : os' = s.os := hm.os
    subst eg ed eo
    rw [hz] at hc
    refine wpAny_pure (wpAny_pure ⟨rfl, h h' tk' c hR hc fun b o e => ?_⟩)
    have hb0 : b < s.heap.objs.size := Heap.lt_size e
    refine hm.heap b o (fun m => ?_) (Heap.get?_push_of_some _ (Heap.get?_push_of_some _ e))
    rcases List.mem_cons.mp m with e | m
    · exact Nat.ne_of_lt hb0 e
    · have e2 := List.mem_singleton.mp m
      rw [hsz] at e2
      exact Nat.ne_of_lt (Nat.lt_succ_of_lt hb0) e2
end
/-! ### rising, each once -/
theorem insU_mem (x z : Int) : ∀ l : List Int, z ∈ insU x l ↔ z = x ∨ z ∈ l
  | [] => by simp [insU]
  | y :: r => by
    unfold insU
    split
    · simp
    · split
      · rename_i h
        subst h
        simp
      · simp only [List.mem_cons, insU_mem x z r]
        constructor <;> intro h <;> rcases h with h | h | h <;> simp [h]
theorem insU_sorted (x : Int) : ∀ l : List Int, l.Pairwise (· < ·) → (insU x l).Pairwise (· < ·)
  | [], _ => by simp [insU]
  | y :: r, h => by
    obtain ⟨h1, h2⟩ := List.pairwise_cons.mp h
    unfold insU
    split
    · rename_i q
      refine List.pairwise_cons.mpr ⟨fun z hz => ?_, h⟩
      rcases List.mem_cons.mp hz with rfl | hz
      · exact q
      · have := h1 z hz
        omega
    · split
      · exact h
      · refine List.pairwise_cons.mpr ⟨fun z hz => ?_, insU_sorted x r h2⟩
        rcases (insU_mem x z r).mp hz with rfl | hz
        · omega
        · exact h1 z hz
theorem sortU_mem (z : Int) : ∀ l : List Int, z ∈ sortU l ↔ z ∈ l
  | [] => by simp [sortU]
  | x :: r => by
    unfold sortU
    rw [insU_mem, sortU_mem z r, List.mem_cons]
theorem sortU_sorted : ∀ l : List Int, (sortU l).Pairwise (· < ·)
  | [] => List.Pairwise.nil
  | x :: r => insU_sorted x _ (sortU_sorted r)
theorem insU_len (x : Int) : ∀ l : List Int, (insU x l).length ≤ l.length + 1
  | [] => by simp [insU]
  | y :: l => by
    have := insU_len x l
    unfold insU
    split
    · simp
    · split
      · simp
      · simp only [List.length_cons]
        omega
theorem sortU_len : ∀ l : List Int, (sortU l).length ≤ l.length
  | [] => Nat.le_refl _
  | x :: r => by
    have h1 := insU_len x (sortU r)
    have h2 := sortU_len r
    unfold sortU
    simp only [List.length_cons]
    omega
theorem rising_eq : ∀ {a b : List Int}, a.Pairwise (· < ·) → b.Pairwise (· < ·) → (∀ z, z ∈ a ↔ z ∈ b) → a = b
  | [], [], _, _, _ => rfl
  | [], y :: b, _, _, h => by
    have := (h y).mpr (List.mem_cons_self ..)
    cases this
  | x :: a, [], _, _, h => by
    have := (h x).mp (List.mem_cons_self ..)
    cases this
  | x :: a, y :: b, ha, hb, h => by
    obtain ⟨a1, a2⟩ := List.pairwise_cons.mp ha
    obtain ⟨b1, b2⟩ := List.pairwise_cons.mp hb
    have e : x = y := by
      rcases List.mem_cons.mp ((h x).mp (List.mem_cons_self ..)) with e | e
      · exact e
      · rcases List.mem_cons.mp ((h y).mpr (List.mem_cons_self ..)) with e2 | e2
        · exact e2.symm
        · have := b1 x e
          have := a1 y e2
          omega
    subst e
    rw [rising_eq a2 b2 fun z => ?_]
    constructor
    · intro hz
      rcases List.mem_cons.mp ((h z).mp (List.mem_cons_of_mem _ hz)) with e | e
      · subst e
        have := a1 z hz
        omega
      · exact e
    · intro hz
      rcases List.mem_cons.mp ((h z).mpr (List.mem_cons_of_mem _ hz)) with e | e
      · subst e
        have := b1 z hz
        omega
      · exact e
variable [WorldI]
section
variable {X : Cx}
def rSetI (X : Cx) : List V → Hp → VK → Prop := fun xs H Q => ∃ (a : Addr) (ns : List Int), xs = [V.ref a] ∧ (SqL X.K H a (ns.map V.int) ∨ SqT X.K H a (ns.map V.int)) ∧ ns.length < 64 ∧ ∀ (p : Addr) (c : Nat), H p = none → c ≤ ns.length → Q (.ref p) (upd H p (SetO X.w p (fun j => decide (j ∈ ns)) c))
theorem cr_setI (hc : X.calm = true) : CallR X (.type "set") (rSetI X) := by
  intro pins s σ H xs us Q I rx h
  obtain ⟨a, ns, rfl, hq, hl, q⟩ := h
  rw [Vals.ref1 rx]
  have fin : ∀ (h' : Heap) (tk c : Nat), SetR X.w h' s.heap.objs.size (fun j => decide (j ∈ ns)) c → c ≤ ns.length → (∀ b o, s.heap.get? b = some o → h'.get? b = some o) → EP X pins σ Q (.ref s.heap.objs.size) { s with heap := h', toks := tk } := fun h' tk c R hcn kept =>
    ⟨.ref s.heap.objs.size, _, I.laid (a := s.heap.objs.size) (o := SetO X.w s.heap.objs.size (fun j => decide (j ∈ ns)) c) (t' := tk) kept (Nat.le_refl _) (setO_new R), rfl, q _ c (I.hok.fresh (Nat.le_refl _)) hcn⟩
  rcases hq with hq | hq
  · obtain ⟨its, rv, pl, hz⟩ := I.list hq
    exact set_of_list (I.ok.hd hc) pl.isList (ns := ns) (by simpa using ints_of_vals rv) (by unfold scanBound; omega) fin
  · obtain ⟨its, rv, pt, hz⟩ := I.tuple hq
    exact call_set_tupI ns (I.ok.hd hc) (show s.heap.IsTuple a its.toArray from pt) (by simpa using ints_of_vals rv) (by unfold scanBound; omega) fin
theorem seq_of {K : PySem.W.Frag} {F H : Hp} {w : W} {x : V} {ds : List D} (l : Le F H) (r : RW K F H w x) (e : w.seq? = some ds) : ∃ a xs, x = .ref a ∧ (SqL K H a xs ∨ SqT K H a xs) ∧ RFs F xs ds := by
  cases w with
  | fz d =>
    cases d with
    | list zs =>
      cases e
      cases r with
      | lst a z b => exact ⟨_, _, rfl, .inl (SqL.of (l _ _ a)), b⟩
    | tuple zs =>
      cases e
      cases r with
      | tup a z b => exact ⟨_, _, rfl, .inr (SqT.of (l _ _ a)), b⟩
    | _ => cases e
  | ol zs =>
    cases e
    obtain ⟨a, xs, rfl, h, _, b⟩ := r
    exact ⟨_, _, rfl, .inl (SqL.of h), b⟩
  | lk zs =>
    cases e
    obtain ⟨a, xs, rfl, h, _, b⟩ := r
    exact ⟨_, _, rfl, .inl (SqL.of h), b⟩
  | _ => cases e
variable {xa : Nat → Addr} {Z : WX} {cl : Nat → List W → CRes}
theorem u_sset {a' : Expr} {a : IA} {p p2 pos pos2 : Pos} (hc : X.calm = true) (hm : X.mg "sorted" = none) (hm2 : X.mg "set" = none) (ha : PE X a' (toTA X.K xa Z (evA cl a))) (hg : Gl X "sorted" := by rfl) (hg2 : Gl X "set" := by rfl)
    (hst2 : starEach [a'] X.env = (false, eval a' X.env) :: starEach [] X.env := by rfl) (hst : starEach [.Call (.Name "set" p2) [a'] [] pos2] X.env = (false, eval (.Call (.Name "set" p2) [a'] [] pos2) X.env) :: starEach [] X.env := by rfl) :
    PE X (.Call (.Name "sorted" p) [.Call (.Name "set" p2) [a'] [] pos2] [] pos) (toTE X.K xa Z (ev cl (.o1 .sset a))) := by
  refine de_o1 (r := fun x H Q => rSetI X [x] H fun y H1 => rSortedSet X.w [y] H1 Q) (fun ta h => pe_callB (cr_sortedSet hc) hg hm (by decide +kernel) (pa_cons (pe_callTy (cr_setI hc) hg2 hm2 (by decide +kernel) (pa_cons h pa_nil hst2) (by decide) (by decide) hst2 rfl) pa_nil hst) (by decide) (by decide) hst rfl) ha fun x H Q h => ?_
  obtain ⟨F, w, y, r, e, l, rw1, h1, k⟩ := h
  cases e
  obtain ⟨ds, e1, e2⟩ := bind_some' (show (w.seq?.bind fun ds => (ints? ds).bind fun ns => if ns.length < 64 then some (W.ol ((sortU ns).map .int)) else none) = some r from h1)
  obtain ⟨ns, e3, e4⟩ := bind_some' e2
  obtain ⟨hl, rfl⟩ := if_some e4
  obtain ⟨b, xs, rfl, hq, rf⟩ := seq_of l rw1 e1
  have ex := rf.ints e3
  subst ex
  refine ⟨b, ns, rfl, hq, hl, fun p c hp hcn => ⟨p, _, c, rfl, upd_same, by omega, fun ms q hs hm' _ hq' => ?_⟩⟩
  have ems : ms = sortU ns := rising_eq hs (sortU_sorted ns) fun z => by rw [hm' z, sortU_mem, decide_eq_true_eq]
  subst ems
  have fp := none_le l hp
  have hne : q ≠ p := fun z => by
    subst z
    rw [upd_same] at hq'
    cases hq'
  rw [upd_ne hne] at hq'
  have g1 : Grow F H F (upd H p (SetO X.w p (fun j => decide (j ∈ ns)) c)) := Grow.newL l hp
  have l2 : Le F (upd H p (SetO X.w p (fun j => decide (j ∈ ns)) c)) := g1.2.2.1
  have hq2 : (upd H p (SetO X.w p (fun j => decide (j ∈ ns)) c)) q = none := by rw [upd_ne hne]; exact hq'
  have g2 : Grow F _ F (upd (upd H p (SetO X.w p (fun j => decide (j ∈ ns)) c)) q (.lst ((sortU ns).map V.int))) := Grow.newL l2 hq2
  refine k _ _ _ ⟨Le.refl F, g1.2.1.trans g2.2.1, g2.2.2.1, fun b hb => .inl hb⟩ ⟨⟨q, _, rfl, upd_same, ?_, RFs.ofInts _⟩, fun _ a e => ?_⟩
  · have := sortU_len ns
    rw [List.length_map]
    unfold lineN
    omega
  · cases e
    exact ⟨hq', none_le l hq'⟩
end
end Sf

end

section
set_option maxRecDepth 100000
set_option maxHeartbeats 1000000
/-! Sf: first, *rest = e. -/
namespace Sf
open PySem PySem.Spec PyProof.Rows L2
theorem walks_tail {prog : Program} {w : World} {A : Around} {I : Addr} {fp wr : List Addr} {G : Array GenState → Array GenState → Prop} {n : Nat} {P : Nat → Value → Prop} {St : Nat → Shared → Prop}
    (W : WalksS prog w A I fp wr G (n + 1) P St) : WalksS prog w A I fp wr G n (fun i => P (i + 1)) (fun i => St (i + 1)) where
  sub := W.sub
  grefl := W.grefl
  gtrans := W.gtrans
  frame := fun i => W.frame (i + 1)
  item := fun i s Q E hi st hQ => W.item (i + 1) s Q E (Nat.succ_lt_succ hi) st hQ
  done := W.done
  self := fun i => W.self (i + 1)
theorem items_tail {us : List Value} {u : Value} {acc : Array Value} {n : Nat} (e : us.length = n) (h : ItemsOf (fun i v => (u :: us).toArray[i + 1]? = some v) acc n) : acc.toList = us := by
  apply List.ext_getElem?
  intro i
  rw [Array.getElem?_toList]
  cases g : acc[i]? with
  | some v =>
    have := h.2 i v g
    have this : (u :: us).toArray[i + 1]? = some v := this
    rw [List.getElem?_toArray, List.getElem?_cons_succ] at this
    exact this.symm
  | none =>
    have h1 : acc.size ≤ i := by
      rcases Nat.lt_or_ge i acc.size with l | l
      · rw [Array.getElem?_eq_getElem l] at g
        cases g
      · exact l
    rw [List.getElem?_eq_none (by rw [e, ← h.1]; exact h1)]
theorem sizeOk_list {us : List Value} (h : us.length ≤ sizeLine) : sizeOk (.seq us.toArray) := by
  simp [sizeOk, h]
section
variable {X : Cx} {pos : Pos}
def gStar (K : PySem.W.Frag) (i j : Nat) : TG := fun v σ H Q => ∃ a x xs, v = .ref a ∧ SqT K H a (x :: xs) ∧ xs.length ≤ sizeLine ∧ ∀ q, H q = none → Q ((σ.set i (some x)).set j (some (.ref q))) (upd H q (.lst xs))
theorem pg_star1 {i j k : Nat} {x y : Str} {p1 p2 p3 : Pos} (hc : X.calm = true) (hg1 : PG X (.Name x p1) (gName i)) (hg2 : PG X (.Name y p2) (gName j)) : PG X (.Tuple [.Name x p1, .Starred (.Name y p2) p3] k pos) (gStar X.K i j) := by
  refine ⟨fun pins s σ H v u Q I r hw => ?_⟩
  obtain ⟨a, x0, xs, e1, hq, hl, hw⟩ := hw
  subst e1
  cases r
  obtain ⟨its, rv, ht, hz⟩ := I.tuple hq
  have ht : s.heap.IsTuple a its.toArray := ht
  cases rv with
  | cons r0 rr =>
  rename_i u0 us _
  rw [assign_Tuple]
  refine wpAny_bind (wpAny_standAt ?_)
  unfold unpack
  refine wpAny_bind (wpAny_holding ?_)
  show wpAny _ _ (unpackItems (.ref a) 2 (some 1)) _ _ _
  unfold unpackItems
  refine wpAny_bind ?_
  unfold notIterableAtAll
  refine wpAny_bind (wpAny_specialOf ht.typeIs slot_tuple_iter.lookup ?_)
  refine wpAny_pure ?_
  simp only [Bool.false_eq_true, if_false]
  refine wpAny_bind (wpAny_holding (PySem.W.iter_tupleW (I.ok.hd hc) ht fun s₂ e2 W0 st hfp hw2 hk => ?_))
  have hne : a ≠ s.heap.objs.size := by
    obtain ⟨_, e, _⟩ := ht
    exact Nat.ne_of_lt (Heap.lt_size e)
  have W1 : WalksS X.prog X.w X.A.in1 s.heap.objs.size [s.heap.objs.size, a] [s.heap.objs.size] (fun a b => b = a) (us.length + 1) (fun i v => (u0 :: us).toArray[i]? = some v) (fun i s' => s'.heap.IsTupleIter s.heap.objs.size a i ∧ s'.heap.IsTuple a (u0 :: us).toArray) :=
    (Walks.tuple (A := X.A.in1) (I.ok.hd hc) s.heap.objs.size a hne (u0 :: us).toArray).toS
  have W := W1.of_in1
  have I2 : Inv X pins σ H s₂ := by
    subst e2
    exact I.kept hk
  rw [show draw (Value.ref s.heap.objs.size) 1 = (do
      match ← pyNext (.ref s.heap.objs.size) with
      | none => pure []
      | some v => return v :: (← holding [v] (draw (.ref s.heap.objs.size) 0))) from rfl]
  refine wpAny_bind (wpAny_holding (wpAny_bind (W.item 0 s₂ _ _ (Nat.succ_pos _) st fun v s3 hv st3 m3 => ?_)))
  obtain rfl : u0 = v := by simpa using hv
  refine wpAny_bind (wpAny_holding (wpAny_pure ?_))
  refine wpAny_pure ?_
  simp only [List.length_cons, List.length_nil, Nat.lt_irrefl, if_false]
  have hlen : us.length = xs.length := rr.length.symm
  refine wpAny_bind (wpAny_holding (wpAny_collect_iter (.inr (.inr (.inr rfl))) (walks_tail W1) (fun i s q => q.1.typeIs) st3 (fun b hb => ?_) (by simp) (fun s4 acc m4 hacc => ?_) (by rw [hlen]; exact hl)))
  · rcases List.mem_cons.mp hb with rfl | hb
    · obtain ⟨_, e, _⟩ := st3.1
      exact Heap.lt_size e
    · obtain rfl := List.mem_singleton.mp hb
      obtain ⟨_, e, _⟩ := st3.2
      exact Heap.lt_size e
  rw [items_tail rfl hacc]
  have m := m3.trans (fun _ _ _ e1 e2 => e2.trans e1) m4
  obtain ⟨h', tk, e4, k4⟩ := PySem.W.moved_old e2 rfl m
  subst e4
  have I4 : Inv X pins σ H { s with heap := h', toks := tk } := I.kept k4
  simp only [Nat.sub_self, Nat.not_lt_zero, if_false, Nat.sub_zero, List.take_length, List.drop_length]
  have hf : H h'.objs.size = none := I4.hok.fresh (Nat.le_refl _)
  refine wpAny_bind (wpAny_newObj_type (hd := sizeOk_list (by rw [hlen]; exact hl)) (wpAny_pure ?_))
  have I5 : Inv X pins σ (upd H h'.objs.size (.lst xs)) { s with heap := h'.push { cls := .type "list", data := .seq us.toArray }, toks := tk } :=
    I4.laid (t' := tk) (fun b u e => Heap.get?_push_of_some _ e) (Nat.le_refl _) ⟨hl, us, 0, rr, Heap.get?_push_size _ rfl⟩
  refine assignInOrder_cons (thn (hg1.run pins _ σ _ x0 u0 (fun σ' H' => σ' = σ.set i (some x0) ∧ H' = upd H h'.objs.size (.lst xs)) I5 r0 ⟨rfl, rfl⟩) fun _ s6 ⟨σ6, H6, I6, e6, e7⟩ => ?_)
  subst e6 e7
  refine assignInOrder_cons (thn (hg2.run pins _ _ _ (.ref h'.objs.size) (.ref h'.objs.size) Q I6 rfl (hw _ hf)) fun _ s7 ⟨σ7, H7, I7, q7⟩ => ?_)
  exact assignInOrder_nil ⟨σ7, H7, I7, q7⟩
end
end Sf

end

section
set_option maxRecDepth 100000
set_option maxHeartbeats 1000000
/-! Sf: match (string, int) with two cases. -/
namespace Sf
open PySem PySem.Spec PyProof.Rows L2
section
variable {X : Cx}
def PatS (X : Cx) (p : Pattern) (cs : List Str) : Prop := ∀ (pins : List (Addr × Obj)) (s : Shared) (σ : L2.St) (H : Hp) (x : Str) (t : Tok) (Q : Option (List (Str × Value)) → Shared → Prop), L2.Inv X pins σ H s →
  (∀ s', L2.Inv X pins σ H s' → Q (if cs.contains x then some [] else none) s') → wpAny (model X.prog X.w) X.A (matchPattern p X.env (.str x t)) Q X.xe s
def PatI (X : Cx) (p : Pattern) (n : Int) : Prop := ∀ (pins : List (Addr × Obj)) (s : Shared) (σ : L2.St) (H : Hp) (x : Int) (t : Tok) (Q : Option (List (Str × Value)) → Shared → Prop), L2.Inv X pins σ H s →
  (∀ s', L2.Inv X pins σ H s' → Q (if x == n then some [] else none) s') → wpAny (model X.prog X.w) X.A (matchPattern p X.env (.int x t)) Q X.xe s
theorem pat_str {y : Str} {j : Nat} {pos mpos : Pos} : PatS X (.MatchValue (.Constant (.str y) j pos) mpos) [y] := by
  intro pins s σ H x t Q I h
  refine wpAny_matchPattern_Value (thn (pe_str.run pins s σ H (fun v H' => v = .str y ∧ H' = H) I ⟨rfl, rfl⟩) fun v s1 ⟨v0, H1, I1, r1, e1, e2⟩ => ?_)
  subst e1 e2
  obtain ⟨u, rfl⟩ := r1
  refine eq_str (wpAny_truthy_bool ?_)
  have := h s1 I1
  rw [List.contains_cons, List.contains_nil, Bool.or_false] at this
  cases g : x == y with
  | true =>
    rw [g] at this
    exact this
  | false =>
    rw [g] at this
    exact this
theorem pat_or {p q : Pattern} {cs ds : List Str} {pos : Pos} (h1 : PatS X p cs) (h2 : PatS X q ds) (hn : p.names = []) : PatS X (.MatchOr [p, q] pos) (cs ++ ds) := by
  intro pins s σ H x t Q I h
  have e0 : namesOfAll ([p, q].take 1) = [] := by
    show namesOfAll [p] = []
    unfold namesOfAll
    rw [hn]
    unfold namesOfAll
    rfl
  refine wpAny_matchPattern_Or (wpAny_matchFirst_cons (h1 pins s σ H x t _ I fun s1 I1 => ?_))
  cases q1 : cs.contains x with
  | true =>
    have := h s1 I1
    simp only [List.contains_append, q1, Bool.true_or, if_true] at this ⊢
    rw [e0]
    exact this
  | false =>
    simp only [Bool.false_eq_true, if_false]
    refine wpAny_matchFirst_cons (h2 pins s1 σ H x t _ I1 fun s2 I2 => ?_)
    have := h s2 I2
    simp only [List.contains_append, q1, Bool.false_or] at this
    cases q2 : ds.contains x with
    | true =>
      rw [q2] at this
      simp only [if_true] at this ⊢
      rw [e0]
      exact this
    | false =>
      rw [q2] at this
      simp only [Bool.false_eq_true, if_false] at this ⊢
      exact wpAny_matchFirst_nil this
theorem pat_int {n : Int} {j : Nat} {pos mpos : Pos} : PatI X (.MatchValue (.Constant (.int n) j pos) mpos) n := by
  intro pins s σ H x t Q I h
  refine wpAny_matchPattern_Value (thn (pe_int.run pins s σ H (fun v H' => v = .int n ∧ H' = H) I ⟨rfl, rfl⟩) fun v s1 ⟨v0, H1, I1, r1, e1, e2⟩ => ?_)
  subst e1 e2
  obtain ⟨u, rfl⟩ := r1
  refine eq_int (wpAny_truthy_bool ?_)
  have := h s1 I1
  cases g : x == n with
  | true =>
    rw [g] at this
    exact this
  | false =>
    rw [g] at this
    exact this
theorem pat_seq {p q : Pattern} {cs : List Str} {n : Int} {pos : Pos} (hc : X.calm = true) (h1 : PatS X p cs) (h2 : PatI X q n) (hs1 : p.isStar = false) (hs2 : q.isStar = false) (hw : p.isWildcard = false)
    {pins : List (Addr × Obj)} {s : Shared} {σ : L2.St} {H : Hp} {a : Addr} {x : Str} {m : Int} {Q : Option (List (Str × Value)) → Shared → Prop} (I : L2.Inv X pins σ H s) (hq : SqT X.K H a [.str x, .int m])
    (h : ∀ s', L2.Inv X pins σ H s' → Q (if cs.contains x && m == n then some [] else none) s') : wpAny (model X.prog X.w) X.A (matchPattern (.MatchSequence [p, q] pos) X.env (.ref a)) Q X.xe s := by
  obtain ⟨its, rv, ht, hz⟩ := I.tuple hq
  cases rv with
  | cons r1 rr =>
  cases rr with
  | cons r2 rr =>
  cases rr
  obtain ⟨t1, rfl⟩ := r1
  obtain ⟨t2, rfl⟩ := r2
  refine matchSeq_tuple_hit (items := #[Value.str x t1, Value.int m t2]) ht (by show ((2 : Nat) : Int) < 2 ^ 63; decide) rfl ?_ (by simp [List.findIdx?_cons, hs1, hs2]) (by simp [hw, hs1])
  refine unpackItems_tuple (s := { s with toks := s.toks + 1 + 1 }) (items := #[Value.str x t1, Value.int m t2]) (I.ok.hd hc) ht fun h' hx => ?_
  have I1 : L2.Inv X pins σ H { s with heap := h', toks := s.toks + 1 + 1 } := I.kept fun b o e => hx b o (Nat.ne_of_lt (Heap.lt_size e)) e
  refine wpAny_matchEach_cons (h1 pins _ σ H x t1 _ I1 fun s2 I2 => ?_) hs1
  cases q1 : cs.contains x with
  | false =>
    have := h s2 I2
    simp only [q1, Bool.false_and, Bool.false_eq_true, if_false] at this ⊢
    exact this
  | true =>
    simp only [if_true]
    refine wpAny_matchEach_cons (h2 pins s2 σ H m t2 _ I2 fun s3 I3 => ?_) hs2
    have := h s3 I3
    simp only [q1, Bool.true_and] at this
    cases q2 : m == n with
    | false =>
      rw [q2] at this
      simp only [Bool.false_eq_true, if_false] at this ⊢
      exact this
    | true =>
      rw [q2] at this
      simp only [if_true] at this ⊢
      exact wpAny_matchEach_nil this
def tMat (K : PySem.W.Frag) (te : TE) (c1 : List Str) (n1 : Int) (t1 : TS) (c2 : List Str) (n2 : Int) (t2 : TS) : TS := fun D σ H => te σ H fun v H1 => ∃ a x n, v = .ref a ∧ SqT K H1 a [.str x, .int n] ∧
  if c1.contains x && n == n1 then t1 D σ H1 else if c2.contains x && n == n2 then t2 D σ H1 else D.nx σ H1
theorem ps_mat {e : Expr} {te : TE} {p1 q1 p2 q2 : Pattern} {c1 c2 : List Str} {n1 n2 : Int} {b1 b2 : List Stmt} {t1 t2 : TS} {s1 s2 pos : Pos} (hc : X.calm = true) (he : PE X e te) (hp1 : PatS X p1 c1) (hq1 : PatI X q1 n1) (hp2 : PatS X p2 c2) (hq2 : PatI X q2 n2)
    (hb1 : PSs X b1 t1) (hb2 : PSs X b2 t2) (hs1 : p1.isStar = false) (hs2 : q1.isStar = false) (hw : p1.isWildcard = false) (hs3 : p2.isStar = false) (hs4 : q2.isStar = false) (hw2 : p2.isWildcard = false) :
    PS X (.Match e [⟨.MatchSequence [p1, q1] s1, none, b1⟩, ⟨.MatchSequence [p2, q2] s2, none, b2⟩] pos) (tMat X.K te c1 n1 t1 c2 n2 t2) := by
  refine ⟨fun pins s σ H D I h => ?_⟩
  refine wpAny_Match (thn (he.run pins s σ H _ I h) fun v s5 ⟨v0, H5, I5, r5, a, x, n, e5, hq, g⟩ => ?_)
  subst e5
  obtain rfl : v = .ref a := r5
  refine wpAny_matchCases_cons (pat_seq hc hp1 hq1 hs1 hs2 hw I5 hq fun s6 I6 => ?_)
  cases k1 : (c1.contains x && n == n1) with
  | true =>
    rw [k1] at g
    simp only [if_true] at g ⊢
    exact assignInOrder_nil (hb1.run pins s6 σ H5 D I6 g)
  | false =>
    rw [k1] at g
    simp only [Bool.false_eq_true, if_false] at g ⊢
    refine wpAny_matchCases_cons (pat_seq hc hp2 hq2 hs3 hs4 hw2 I6 hq fun s7 I7 => ?_)
    cases k2 : (c2.contains x && n == n2) with
    | true =>
      rw [k2] at g
      simp only [if_true] at g ⊢
      exact assignInOrder_nil (hb2.run pins s7 σ H5 D I7 g)
    | false =>
      rw [k2] at g
      simp only [Bool.false_eq_true, if_false] at g ⊢
      exact wpAny_matchCases_nil ⟨σ, H5, I7, g⟩
end
variable [WorldI]
section
variable {X : Cx} {xa : Nat → Addr} {Z : WX} {bo : List Bool} {cl : Nat → List W → CRes}
theorem matW_some {w : W} {p : Str × Int} (h : matW w = some p) : w = .fz (.tuple [.str p.1, .int p.2]) := by
  unfold matW at h
  split at h
  · cases h
    rfl
  · cases h
theorem ds_mat {e : Expr} {x : IE} {p1 q1 p2 q2 : Pattern} {c1 c2 : List Str} {n1 n2 : Int} {b1 b2 : List Stmt} {u1 u2 : S} {s1 s2 pos : Pos} (hc : X.calm = true) (he : PE X e (toTE X.K xa Z (ev cl x))) (hp1 : PatS X p1 c1) (hq1 : PatI X q1 n1) (hp2 : PatS X p2 c2) (hq2 : PatI X q2 n2)
    (hb1 : PSs X b1 (toTS X.K xa Z bo (evS cl bo u1))) (hb2 : PSs X b2 (toTS X.K xa Z bo (evS cl bo u2))) (hs1 : p1.isStar = false) (hs2 : q1.isStar = false) (hw : p1.isWildcard = false) (hs3 : p2.isStar = false) (hs4 : q2.isStar = false) (hw2 : p2.isWildcard = false) :
    PS X (.Match e [⟨.MatchSequence [p1, q1] s1, none, b1⟩, ⟨.MatchSequence [p2, q2] s2, none, b2⟩] pos) (toTS X.K xa Z bo (evS cl bo (.mat x c1 n1 u1 c2 n2 u2))) := by
  refine ps_imp (ps_mat hc he hp1 hq1 hp2 hq2 hb1 hb2 hs1 hs2 hw hs3 hs4 hw2) fun D σ H ⟨F, E, S, p⟩ => ?_
  unfold evS at p
  refine ⟨F, E, S, p.of_ev fun w E1 F1 H1 _ S1 x1 p2 v r => ?_⟩
  cases g : matW w with
  | none =>
    rw [g] at p2
    exact p2.elim
  | some pr =>
    rw [g] at p2
    obtain ⟨y, n⟩ := pr
    have ew := matW_some g
    subst ew
    have r1 : RF F1 v (.tuple [.str y, .int n]) := r.1
    cases r1 with
    | tup a0 z b =>
    cases b with
    | cons b1 bb =>
    cases bb with
    | cons b2 bb =>
    cases bb
    cases b1
    cases b2
    refine ⟨_, y, n, rfl, SqT.of (S1.le _ _ a0), ?_⟩
    have p3 : PostS X.K xa Z bo (if c1.contains y && n == n1 then evS cl bo u1 E1 else if c2.contains y && n == n2 then evS cl bo u2 E1 else .ok .next E1) F H E σ D := p2
    split
    · rename_i k
      rw [if_pos k] at p3
      exact ⟨F1, E1, S1, p3.rebase x1.xs⟩
    · rename_i k
      rw [if_neg k] at p3
      split
      · rename_i k2
        rw [if_pos k2] at p3
        exact ⟨F1, E1, S1, p3.rebase x1.xs⟩
      · rename_i k2
        rw [if_neg k2] at p3
        exact p3 F1 H1 σ S1 x1.xs
theorem ds_unst {st : Stmt} {i j : Nat} {x : IE} (h : PS X st (tAsg (toTE X.K xa Z (ev cl x)) (gStar X.K i j))) (hi : i < X.N.length) (hj : j < X.N.length) : PS X st (toTS X.K xa Z bo (evS cl bo (.unst i j x))) := by
  refine ⟨fun pins s σ H D I q => h.run pins s σ H D I ?_⟩
  have lenσ : σ.length = X.N.length := I.len
  obtain ⟨F, E, S, p⟩ := q
  unfold evS at p
  refine ⟨F, E, S, p.of_ev fun w E1 F1 H1 _ S1 x1 p2 v r => ?_⟩
  unfold unstS at p2
  split at p2
  · rename_i d ds _
    split at p2
    · exact p2.elim
    rename_i hb
    simp only [Bool.or_eq_true, decide_eq_true_eq, not_or] at hb
    obtain ⟨⟨hb1, hb2⟩, hij⟩ := hb
    split at p2
    · rename_i hz
      have r1 : RF F1 v (.tuple (d :: ds)) := r.1
      cases r1 with
      | tup a0 z b =>
      cases b with
      | cons b1 bb =>
      rename_i v1 vs
      refine ⟨_, v1, vs, rfl, SqT.of (S1.le _ _ a0), by rw [line_eq, bb.len]; exact hz, fun q hq => ?_⟩
      have fq : F1 q = none := by
        cases g : F1 q with
        | none => rfl
        | some o => rw [S1.le _ _ g] at hq; cases hq
      have nq : ∀ k, ¬ ownAt E1 σ k q := fun k ho => ho.some_at S1 hq
      have S2 := S1.updD (D := q) (o := .lst vs) fq nq
      have hH : H q = none := by
        cases g : H q with
        | none => rfl
        | some o => exact absurd hq (x1.thr q (by rw [g]; exact fun z => nomatch z))
      have x2 : Ext F H E σ F1 (upd H1 q (.lst vs)) E1 := ⟨x1.fle, fun b o e m => by
        rw [upd_ne fun z => by rw [z, hH] at e; cases e]
        exact x1.keep b o e m, x1.fnew, x1.own, x1.mta, fun b e => by
        by_cases z : b = q
        · rw [z]
          unfold upd
          simp
        · rw [upd_ne z]
          exact x1.thr b e⟩
      obtain ⟨S3, x3⟩ := S2.storeX x2.xs (w := .fz d) (v := v1) ⟨b1, fun o => nomatch o⟩ (bo := bo) (i := i) (by rw [lenσ]; exact hi) (by unfold bOf; simpa using hb1)
      have nq3 : ∀ k, ¬ ownAt (setS E1 i (.fz d)) (σ.set i (some v1)) k q := fun k ⟨w, e1, e2, e3⟩ => by
        by_cases z : i = k
        · subst z
          have : E1.length = σ.length := S1.len
          unfold setS at e1
          rw [List.getElem?_set_self (by rw [this, lenσ]; exact hi)] at e1
          cases e1
          cases e2
        · rw [setS_ne z] at e1
          rw [List.getElem?_set_ne z] at e3
          exact nq k ⟨w, e1, e2, e3⟩
      obtain ⟨S4, x4⟩ := S3.storeX x3 (w := .ol ds) (v := .ref q) ⟨⟨q, vs, rfl, upd_same .., hz, bb⟩, fun _ a e => by cases e; exact ⟨hH, fq, nq3⟩⟩ (bo := bo) (i := j) (by rw [List.length_set, lenσ]; exact hj) (by unfold bOf; simpa using hb2)
      exact p2 F1 _ _ S4 x4
    · exact p2.elim
  · exact p2.elim
end
end Sf

end

section
set_option maxRecDepth 100000
set_option maxHeartbeats 1000000
/-! Sf: a, b = x, y where a tuple is made first: its parts may own. -/
namespace Sf
open PySem PySem.Spec PyProof.Rows L2
variable [WorldI]
section
variable {X : Cx} {xa : Nat → Addr} {Z : WX} {bo : List Bool} {cl : Nat → List W → CRes}
theorem gAll_all : ∀ (is : List Nat) (vs : List V) (σ : L2.St) (H : Hp) (Q : L2.St → Hp → Prop), vs.length = is.length → Q (setAll is vs σ) H → gAll is vs σ H Q
  | [], [], σ, H, Q, _, h => ⟨rfl, h⟩
  | [], _ :: _, _, _, _, e, _ => by simp at e
  | _ :: _, [], _, _, _, e, _ => by simp at e
  | i :: is, v :: vs, σ, H, Q, e, h => ⟨v, vs, rfl, gAll_all is vs (σ.set i (some v)) H Q (by simpa using e) h⟩
theorem ds_parT {st : Stmt} {is : List Nat} {xs : IEs} {n : Nat} (h : PS X st (tAsg (tTup (toTW X.K xa Z (evWs cl xs))) (gTup X.K n (gAll is)))) (hn : n = is.length) (hz : is.length ≤ 100) (hl : is.all (fun i => decide (i < X.N.length)) = true) : PS X st (toTS X.K xa Z bo (evS cl bo (.par is xs))) := by
  refine ⟨fun pins s σ H D I q => h.run pins s σ H D I ?_⟩
  have lenσ : σ.length = X.N.length := I.len
  obtain ⟨F, E, S, p⟩ := q
  unfold evS at p
  refine ⟨F, E, S, p.of_ev fun ws E1 F1 H1 _ S1 x1 p2 vs r => ?_⟩
  unfold unpS at p2
  split at p2
  · exact p2.elim
  rename_i hb
  cases e : putAll is ws E1 with
  | none =>
    rw [e] at p2
    exact p2.elim
  | some E3 =>
    rw [e] at p2
    have l0 := putAll_len e
    have l1 := r.len
    rw [List.length_map] at l1
    refine ⟨by rw [line_eq]; unfold lineN; omega, fun q hq => ⟨q, vs, rfl, SqT.of upd_same, by omega, ?_⟩⟩
    have fq : F1 q = none := by
      cases g : F1 q with
      | none => rfl
      | some o => rw [S1.le _ _ g] at hq; cases hq
    have nq : ∀ k, ¬ ownAt E1 σ k q := fun k ho => ho.some_at S1 hq
    have S2 := S1.updD (D := q) (o := .tup vs) fq nq
    have hH : H q = none := by
      cases g : H q with
      | none => rfl
      | some o => exact absurd hq (x1.thr q (by rw [g]; exact fun z => nomatch z))
    have x2 : Ext F H E σ F1 (upd H1 q (.tup vs)) E1 := ⟨x1.fle, fun b o e m => by
      rw [upd_ne fun z => by rw [z, hH] at e; cases e]
      exact x1.keep b o e m, x1.fnew, x1.own, x1.mta, fun b e => by
      by_cases z : b = q
      · rw [z]
        unfold upd
        simp
      · rw [upd_ne z]
        exact x1.thr b e⟩
    have r2 : RAs X.K F1 (upd H1 q (.tup vs)) H E1 σ (ws.map .inr) vs := ⟨r.len, fun j y u hy hu => by
      have q0 := r.at_ j y u hy hu
      cases y with
      | inl k => exact q0
      | inr w1 =>
        have q2 : Rs X.K F1 H1 H E1 σ w1 u := q0
        exact ⟨q2.1.keep (Le.refl F1) fun ow a ob e1 e2 => by
          rw [upd_ne fun z => by rw [z, hq] at e2; cases e2]
          exact e2, q2.2⟩, r.sep⟩
    obtain ⟨S3, x3⟩ := put_own is ws vs E1 E3 F1 (upd H1 q (.tup vs)) F H E σ σ e S2 (x2.xs (bo := bo)) r2 fun i hi => ⟨by rw [lenσ]; exact slots_lt (t := .tp is) hl i hi, by
      cases q : bOf bo i with
      | false => rfl
      | true => exact absurd (List.any_eq_true.mpr ⟨i, hi, q⟩) hb⟩
    exact gAll_all is vs σ _ _ (by omega) ((show PostS X.K xa Z bo (.ok .next E3) F H E σ D from p2) F1 _ _ S3 x3)
end
end Sf

end

section
set_option maxRecDepth 100000
set_option maxHeartbeats 1000000
/-! Sf: sorted(d.keys()). -/
namespace Sf
open PySem PySem.Spec PyProof.Rows L2
section
variable {X : Cx} {o : Expr} {p pos apos mpos : Pos} {td : TE}
def rDsort (x : V) (H : Hp) (Q : VK) : Prop := ∃ (a : Addr) (kvs : List (Key × V)) (ks : List Int), x = .ref a ∧ Rd H a (.dK kvs) ∧ kvs.map (·.1) = ks.map Sum.inl ∧ ks.length < 64 ∧
    ∀ (ys : List Int) (p : Addr), ys.Perm ks → ys.Pairwise (· ≤ ·) → H p = none → Q (.ref p) (upd H p (.lst (ys.map V.int)))
theorem pe_sortedKeys (hc : X.calm = true) (hg : Gl X "sorted") (hm : X.mg "sorted" = none) (hd : PE X o td) (hbase : attributeBase o "keys" X.env (eval o X.env) = eval o X.env) (hline : (apos.endLine == mpos.line) = true)
    (hse : starEach [Expr.Call (.Attribute o "keys" apos) [] [] mpos] X.env = [(false, eval (Expr.Call (.Attribute o "keys" apos) [] [] mpos) X.env)]) :
    PE X (.Call (.Name "sorted" p) [.Call (.Attribute o "keys" apos) [] [] mpos] [] pos) (tUn rDsort td) := by
  refine ⟨fun pins s σ H Q I h => ?_⟩
  refine wpAny_Call_Name_kw (ld_blt I hg hm (u := .builtin "sorted") (by first | rfl | decide +kernel) ?_ (by first | decide +kernel | decide) (by first | decide +kernel | decide))
  rw [hse]
  refine PySem.callWith_builtin1 (wpAny_Call_method0_late hbase hline (thn (hd.run pins s σ H _ I h) fun v s1 ⟨x, H1, I1, r1, a, kvs, ks, ex, ha, hks, h64, q⟩ => ?_))
  subst ex
  obtain rfl : v = Value.ref a := r1
  obtain ⟨z, lo, vs, rel, dd⟩ := dk_rd I1.hok ha
  obtain ⟨ep, hat⟩ := dd.dictAt
  have hat' := hat
  obtain ⟨ob, es, ho, ex, hdat, hko, hpr, hnd⟩ := hat'
  refine ⟨"dict", "dict.keys", F.plainAttrs_dict, F.slot_dict_keys, F.type_dict_keys, ⟨ob, ho, ex.1⟩, fun b e => ?_, Calls.callWith_builtin rfl (PySem.evalArgs_none ?_)⟩
  · cases e
    exact ⟨ob, ho, ex.2.1⟩
  refine call_meetsIn F.slot_dict_keys ⟨ob, ho, ex.1⟩ F.entry_dict_keys (F.args_dict_keys_1 _) (PySem.W.kdl_meets_keys (mixKind X.prog X.w) a lo) ⟨⟨vs, dd⟩, ?_⟩
  have k1 : ∀ b u, s1.heap.get? b = some u → (s1.heap.push { cls := .type "dict_keys", data := .fields #[.ref a] }).get? b = some u := fun b u e => Heap.get?_push_of_some _ e
  have hat1 : (s1.heap.push { cls := .type "dict_keys", data := .fields #[.ref a] }).DictAt (mixKind X.prog X.w) a vs ep := hat.keep k1
  have hv1 : PySem.W.KdlKeysView (s1.heap.push { cls := .type "dict_keys", data := .fields #[.ref a] }) s1.heap.objs.size a := ⟨_, Heap.get?_push_size _ rfl, rfl, rfl⟩
  have hkeys : vs.map (·.1) = ks.map Sum.inl := rel.keys.symm.trans hks
  have hl : vs.length = ks.length := by
    have e := congrArg List.length hkeys
    rw [List.length_map, List.length_map] at e
    exact e
  have h16 : vs.length ≤ sizeLine := by rw [hl, sizeLine_eq]; omega
  refine Calls.call_function_entry PyProof.Rows.kind_sorted PyProof.Rows.plain_sorted PyProof.Rows.entry_sorted (PyProof.Rows.args_sorted1 _) ?_
  unfold Builtin.«sorted»
  refine wpAny_bind (m := checkCount "sorted" 1 1 _) (wpAny_pure ?_)
  refine wpAny_bind (PySem.W.kdu_collect (A := X.A.in1) (PySem.W.kdl_keys (knd := mixKind X.prog X.w) (kvs := vs) (ep := ep)) (I.ok.hd hc) ⟨hv1, hat1⟩ h16 fun h' tk acc hk hacc => ?_)
  have hal : acc.toList.length = ks.length := by rw [Array.length_toList, hacc.1, hl]
  have hS : IntsAre acc.toList ks := ints_each hal fun j v e => by
    obtain ⟨k, x, e1, e2⟩ := hacc.2 j v (by rw [← Array.getElem?_toList]; exact e)
    have e3 : (vs.map (·.1))[j]? = some k := by rw [List.getElem?_map, e1]; rfl
    rw [hkeys, List.getElem?_map] at e3
    cases e4 : ks[j]? with
    | none => rw [e4] at e3; cases e3
    | some y =>
      rw [e4] at e3
      have e5 : Sum.inl y = k := Option.some.inj e3
      subst e5
      rcases keyIs_shape (show keyIs (Sum.inl y) v = true from e2) with ⟨i, t, ek, ev⟩ | ⟨z, t, ek, ev⟩
      · cases ek
        exact ⟨y, t, rfl, ev⟩
      · cases ek
  have I2 : Inv X pins σ H1 { s1 with heap := h', toks := tk } := I1.kept fun b u e => hk b u (k1 b u e)
  refine wpAny_bind (wpAny_newList ?_ (by rw [hal, sizeLine_eq]; omega))
  have hoL : (h'.push (seqObj "list" acc.toList.toArray 0)).get? h'.objs.size = some (seqObj "list" acc.toList.toArray 0) := Heap.get?_push_size _ rfl
  show wpAny _ _ _ _ _ { s1 with heap := h'.push (seqObj "list" acc.toList.toArray 0), toks := tk }
  refine wpAny_bind (wpAny_holding (wpAny_call_entry PyProof.Rows.slot_list_sort ⟨_, hoL, rfl⟩ PyProof.Rows.entry_list_sort
    (PyProof.Rows.list_sort_tree (s := { s1 with heap := h'.push (seqObj "list" acc.toList.toArray 0), toks := tk }) hoL hS (by rw [hal]; exact h64) fun out ys g1 g2 g3 => ⟨_, rfl, ?_⟩) (PyProof.Rows.args_list_sort _)))
  obtain ⟨e', he'⟩ := PyProof.Rows.sortedHeap_at (vs := acc.toList) (out := out) hoL
  have hlen : (ys.map V.int).length ≤ sizeLine := by
    rw [List.length_map, g2.length_eq]
    exact Nat.le_trans (Nat.le_of_lt h64) (by decide)
  refine wpAny_pure ⟨_, rfl, .ref h'.objs.size, upd H1 h'.objs.size (.lst (ys.map V.int)), I2.laid (t' := tk) (fun b u e => ?_) (Nat.le_refl _)
    (show ObjOk X.prog X.w _ _ _ (.lst (ys.map V.int)) from ⟨hlen, out.toList, e', vals_of_ints g1, by rw [Array.toArray_toList]; exact he'⟩), rfl, q ys _ g2 g3 (I2.hok.fresh (Nat.le_refl _))⟩
  have hb : b < h'.objs.size := Heap.lt_size e
  rw [PyProof.Rows.sortedHeap_old (Nat.ne_of_lt hb) (by rw [size_push']; exact Nat.lt_succ_of_lt hb)]
  exact Heap.get?_push_of_some _ e
end
variable [WorldI]
section
variable {X : Cx} {xa : Nat → Addr} {Z : WX} {cl : Nat → List W → CRes} {o : Expr} {p pos apos mpos : Pos}
theorem de_sortK {a : IA} (hc : X.calm = true) (hg : Gl X "sorted") (hm : X.mg "sorted" = none) (ha : PE X o (toTA X.K xa Z (evA cl a))) (hbase : attributeBase o "keys" X.env (eval o X.env) = eval o X.env) (hline : (apos.endLine == mpos.line) = true)
    (hse : starEach [Expr.Call (.Attribute o "keys" apos) [] [] mpos] X.env = [(false, eval (Expr.Call (.Attribute o "keys" apos) [] [] mpos) X.env)]) :
    PE X (.Call (.Name "sorted" p) [.Call (.Attribute o "keys" apos) [] [] mpos] [] pos) (toTE X.K xa Z (ev cl (.o1 .dsort a))) :=
  de_o1 (r := rDsort) (fun ta h => pe_sortedKeys hc hg hm h hbase hline hse) ha fun x H Q ⟨F, w, y, r, e, l, rw1, h1, k⟩ => by
    cases e
    exact dsort_go l rw1 h1 k
end
end Sf

end

section
set_option maxRecDepth 100000
set_option maxHeartbeats 1000000
/-! Sf: dict comprehensions. -/
namespace Sf
open PySem PySem.Spec PyProof.Rows L2
variable [WorldI]

def dcF (cl : Nat → List W → CRes) (t : Bool) (k v : IE) (tg : Tg) : D → Sto → Res (Option D) := fun d E2 => (Res.lift (tg.put d E2) E2).bind fun E3 _ =>
        (ev cl k E3).bind fun w E4 => (Res.lift w.frzL E4).bind fun d E5 => (ev cl v E5).bind fun u E6 => (Res.lift u.frzL E6).bind fun e _ => if kindOk t d then .ok (some (.tuple [d, e])) (wipeS E6 tg.slots) else .stuck
theorem dmake_snoc (ys : List D) (d e : D) : dmake (ys ++ [.tuple [d, e]]) = dput (dmake ys) d e := by
  unfold dmake
  rw [List.foldl_append]
  rfl
structure DcW (K : PySem.W.Frag) (F1 H1 : Hp) (E1 : Sto) (σ1 : L2.St) (D : Addr) (f : PyData → Sto → Res (Option PyData)) (ds all : List PyData) (E9 : Sto) (i : Nat) (F H : Hp) (E : Sto) (acc : List (Key × V)) (ys rest : List PyData) : Prop where
  S : SR K F H E σ1
  x : Ext F1 H1 E1 σ1 F H E
  hD : H D = some (.dK acc)
  fD : F D = none
  r : RK F acc (dmake ys)
  le : acc.length ≤ i
  eq : mapR f (ds.drop i) E = .ok rest E9
  al : ys ++ rest = all
section
variable {K : PySem.W.Frag} {xa : Nat → Addr} {Z : WX} {cl : Nat → List W → CRes}
theorem DcW.nD {F1 H1 F H : Hp} {E1 E E9 : Sto} {σ1 : L2.St} {D : Addr} {f : PyData → Sto → Res (Option PyData)} {ds all ys rest : List PyData} {i : Nat} {acc : List (Key × V)} (w : DcW K F1 H1 E1 σ1 D f ds all E9 i F H E acc ys rest) (S1 : SR K F1 H1 E1 σ1) (h : H1 D = none) : ∀ j, ¬ ownAt E σ1 j D :=
  fun j q => (w.x.own j D q).some_at S1 h
theorem DcW.more {F1 H1 F H F4 H4 : Hp} {E1 E E6 E9 : Sto} {σ1 : L2.St} {D : Addr} {f : PyData → Sto → Res (Option PyData)} {ds all ys rest rest2 : List PyData} {i : Nat} {acc : List (Key × V)} {d e : PyData} (w : DcW K F1 H1 E1 σ1 D f ds all E9 i F H E acc ys rest) (S1 : SR K F1 H1 E1 σ1) (h : H1 D = none)
    (S4 : SR K F4 H4 E6 σ1) (x4 : Ext F H E σ1 F4 H4 E6) (er : mapR f (ds.drop (i + 1)) E6 = .ok rest2 E9) (eo : rest = .tuple [d, e] :: rest2) :
    H4 D = some (.dK acc) ∧ ∀ k v, keyD d = some k → RF F4 v e → DcW K F1 H1 E1 σ1 D f ds all E9 (i + 1) F4 (upd H4 D (.dK (putK acc k v))) E6 (putK acc k v) (ys ++ [.tuple [d, e]]) rest2 := by
  have h4 : H4 D = some (.dK acc) := x4.keep D _ w.hD fun j q => w.nD S1 h j q.own
  have f4 : F4 D = none := by
    cases z : F4 D with
    | none => rfl
    | some u =>
      exfalso
      rcases x4.fnew D (by rw [z]; exact fun q => nomatch q) with q | ⟨j, q⟩ | q
      · exact q w.fD
      · exact w.nD S1 h j q.own
      · rw [w.hD] at q
        cases q
  have n4 : ∀ j, ¬ ownAt E6 σ1 j D := fun j q => w.nD S1 h j (x4.own j D q)
  have x5 := w.x.trans x4
  refine ⟨h4, fun k v hk r => ⟨S4.updD f4 n4, ⟨x5.fle, fun b u q n => ?_, x5.fnew, x5.own, x5.mta, fun b q => ?_⟩, upd_same, f4, ?_, ?_, er, by rw [← w.al, eo, List.append_assoc]; rfl⟩⟩
  · rw [upd_ne (ne_of_none q h)]
    exact x5.keep b u q n
  · by_cases z : b = D
    · subst z
      rw [upd_same]
      exact fun y => nomatch y
    · rw [upd_ne z]
      exact x5.thr b q
  · rw [dmake_snoc]
    exact (w.r.up x4.fle).put hk r
  · have := length_putK acc k v
    have := w.le
    omega
theorem dc_ask {k v : IE} {tg : Tg} {src : IR} {g : TG} {σ : L2.St} {H : Hp} {Q : VK} (ht : TgOk K [] g tg) (hl : ∀ i ∈ tg.slots, i < σ.length) (h : toTE K xa Z (ev cl (.dc false k v tg src)) σ H Q) :
    tDc (toTI K xa Z (evR cl src)) g (toTT K xa Z0 (evT cl .tt)) (toTD K xa Z0 fun E => (ev cl k E).bind fun w E1 => Res.lift w.frzL E1) (toTD K xa Z0 fun E => (ev cl v E).bind fun w E1 => Res.lift w.frzL E1) tg.slots σ H Q := by
  obtain ⟨F, E, S, p⟩ := h
  unfold ev at p
  refine ⟨F, E, S, (Post.bindB p).mono fun ds E1 F1 H1 _ S1 x1 p2 J lk wk lh nm D hD => ?_⟩
  have p3 : Post K xa Z ((Res.noX (mapR (dcF cl false k v tg) ds (wipeS E1 tg.slots))).bind fun ys E9 => .ok (.od false (dmake ys)) (src.unlock E E9)) F H E σ fun w E' F' H' => ∀ v, Rs K F' H' H E' σ w v → Q v H' := p2
  cases em : mapR (dcF cl false k v tg) ds (wipeS E1 tg.slots) with
  | stuck =>
    rw [em] at p3
    exact p3.elim
  | exc c E9 =>
    rw [em] at p3
    exact p3.elim
  | ok all E9 =>
    rw [em] at p3
    have p4 : Post K xa Z (.ok (.od false (dmake all)) (src.unlock E E9)) F H E σ fun w E' F' H' => ∀ v, Rs K F' H' H E' σ w v → Q v H' := p3
    have fD : F1 D = none := none_le S1.le hD
    have Sw : SR K F1 H1 (wipeS E1 tg.slots) (wipe σ tg.slots) := S1.wipe
    have gr : Grow F1 H1 F1 (upd H1 D (.dK [])) := Grow.newL S1.le hD
    have nmw : ∀ a o, lk = some (a, o) → ∀ j, ¬ mutAt (wipeS E1 tg.slots) (wipe σ tg.slots) j a := fun a o e j q => nm a o e j (mutW q)
    refine ⟨fun i m H => m + i = ds.length ∧ ∃ F2 E2 acc ys rest, DcW K F1 H1 (wipeS E1 tg.slots) (wipe σ tg.slots) D (dcF cl false k v tg) ds all E9 i F2 H E2 acc ys rest, ⟨ds.length, rfl, F1, wipeS E1 tg.slots, [], [], all, ⟨Sw.grow gr, Ext.grow Sw gr, upd_same, fD, .nil, Nat.le_refl _, em, rfl⟩⟩, ?_⟩
    rintro i m H2 ⟨hm, F2, E2, acc, ys, rest, w⟩
    have lh2 : Lh lk H2 := fun a o e => w.x.keep a o (lh a o e) (nmw a o e)
    by_cases q : i < ds.length
    · right
      have hd : ds[i]? = some ds[i] := List.getElem?_eq_getElem q
      obtain ⟨go, yl⟩ := wk.go i _ F2 H2 hd w.x.fle w.S.le lh2
      refine ⟨go, fun H' => m - 1 + (i + 1) = ds.length ∧ ∃ F2 E2 acc ys rest, DcW K F1 H1 (wipeS E1 tg.slots) (wipe σ tg.slots) D (dcF cl false k v tg) ds all E9 (i + 1) F2 H' E2 acc ys rest, fun H' n => ⟨m - 1, by omega, n⟩, fun x H' y => ?_⟩
      obtain ⟨F3, gr3, rx⟩ := yl x H' y
      have S3 := w.S.grow gr3
      have e0 := w.eq
      rw [List.drop_eq_getElem_cons q] at e0
      unfold mapR at e0
      obtain ⟨o, E6, e1, e2⟩ := res_ok e0
      obtain ⟨rest2, E10, e3, e4⟩ := res_ok e2
      unfold dcF at e1
      obtain ⟨E3, _, e5, e6⟩ := res_ok e1
      obtain ⟨e7, _⟩ := lift_ok e5
      obtain ⟨wk1, E4, e8, e9⟩ := res_ok e6
      obtain ⟨dk, E5, e10, e11⟩ := res_ok e9
      obtain ⟨e12, ee1⟩ := lift_ok e10
      subst ee1
      obtain ⟨wv, E7, e13, e14⟩ := res_ok e11
      obtain ⟨dv, E8, e15, e16⟩ := res_ok e14
      obtain ⟨e17, ee2⟩ := lift_ok e15
      subst ee2
      have n : kindOk false dk = true := by
        by_cases n : kindOk false dk = true
        · exact n
        · rw [if_neg n] at e16
          cases e16
      rw [if_pos n] at e16
      cases e16
      cases e4
      refine ht _ _ E3 F3 H' (wipe σ tg.slots) x _ e7 S3 rx (fun j hj => ⟨by rw [wipe_length]; exact hl j hj, rfl⟩) fun σ4 S4 x4 o4 ow4 => ⟨?_, ?_⟩
      · rw [wipe_eq (σ := wipe σ tg.slots) o4 x4.ln, wipe_twice]
      have hwipe : wipe σ4 tg.slots = wipe σ tg.slots := by rw [wipe_eq (σ := wipe σ tg.slots) o4 x4.ln, wipe_twice]
      have turn : ∀ {F5 H5 : Hp} {E5 : Sto}, SR K F5 H5 E5 σ4 → Ext F3 H' E3 σ4 F5 H5 E5 → SR K F5 H5 (wipeS E5 tg.slots) (wipe σ tg.slots) ∧ Ext F2 H2 E2 (wipe σ tg.slots) F5 H5 (wipeS E5 tg.slots) := fun {F5 H5 E5} S5 x5 => by
        have Sw5 : SR K F5 H5 (wipeS E5 tg.slots) (wipe σ tg.slots) := by
          rw [← hwipe]
          exact S5.wipe
        have xg := Ext.grow w.S gr3
        refine ⟨Sw5, ⟨xg.fle.trans x5.fle, fun b u hb n => x5.keep b u (xg.keep b u hb n) fun j z => n j (ow4.2 j b z), fun b hb => ?_, fun j b hb => ?_, fun j b hb => ?_, fun b hb => x5.thr b (xg.thr b hb)⟩⟩
        · rcases x5.fnew b hb with z | ⟨j, z⟩ | z
          · exact xg.fnew b z
          · exact .inr (.inl ⟨j, ow4.2 j b z⟩)
          · refine .inr (.inr ?_)
            cases e : H2 b with
            | none => rfl
            | some u => exact absurd z (xg.thr b (by rw [e]; exact fun y => nomatch y))
        · refine ow4.1 j b (x5.own j b (ownW (vs := tg.slots) ?_))
          rw [hwipe]
          exact hb
        · refine ow4.2 j b (x5.mta j b (mutW (vs := tg.slots) ?_))
          rw [hwipe]
          exact hb
      have ett : evT cl .tt E3 = .ok true E3 := by
        unfold evT
        rfl
      refine ⟨F3, E3, S4, post_ok ett fun F5 H5 S5 x5 => ?_⟩
      show toTD K xa Z0 (fun E => (ev cl k E).bind fun w E1 => Res.lift w.frzL E1) σ4 H5 _
      have ek : ((ev cl k E3).bind fun w E1 => Res.lift w.frzL E1) = .ok dk E5 := by
        rw [e8]
        show Res.lift wk1.frzL E5 = _
        rw [e12]
        rfl
      have evv : ((ev cl v E5).bind fun w E1 => Res.lift w.frzL E1) = .ok dv E8 := by
        rw [e13]
        show Res.lift wv.frzL E8 = _
        rw [e17]
        rfl
      refine ⟨F5, E3, S5, post_ok ek fun F6 H6 S6 x6 vk rk => ?_⟩
      refine ⟨F6, E5, S6, post_ok evv fun F7 H7 S7 x7 vv rv => ?_⟩
      obtain ⟨kk, hk⟩ := kindK n
      have ev1 := keyD_rf hk rk
      subst ev1
      obtain ⟨Sw7, xw7⟩ := turn S7 ((x5.trans x6).trans x7)
      obtain ⟨hD7, mo⟩ := w.more Sw hD Sw7 xw7 e3 rfl
      refine ⟨acc, kk, rfl, hD7, ?_, by omega, _, _, _, _, _, mo kk vv hk rv⟩
      rw [line_eq]
      have := w.le
      have := wk.ln
      omega
    · left
      refine ⟨wk.st i F2 H2 (by omega) w.x.fle w.S.le lh2, ?_⟩
      have e0 := w.eq
      rw [List.drop_eq_nil_of_le (by omega)] at e0
      cases e0
      have al := w.al
      rw [List.append_nil] at al
      subst al
      have S2 := w.S.unwipe
      have x2 := x1.trans (Ext.block w.S w.x)
      obtain ⟨S3, x3, o3⟩ := unlock_all (src := src) S2.1 x2
      have nD0 : H D = none := by
        cases z : H D with
        | none => rfl
        | some u => exact absurd hD (x1.thr D (by rw [z]; exact fun y => nomatch y))
      refine p4 F2 H2 S3 x3 (.ref D) ⟨⟨D, rfl, ?_, acc, w.hD, w.r⟩, fun _ a e => ?_⟩
      · have := w.le
        have := wk.ln
        rw [← w.r.len]
        omega
      · cases e
        exact ⟨nD0, w.fD, fun j z => (x2.own j D (o3 j D z)).some_at S nD0⟩
end
section
variable {X : Cx} {xa : Nat → Addr} {Z : WX} {cl : Nat → List W → CRes} {pos : Pos}
theorem v_dc {kx vx tg iter : Expr} {scope : Scope} (own : List (Str × Nat)) {g : TG} {t : Tg} {src : IR} {k v : IE} (hc : X.calm = true) (hN : X.N.Nodup) (ht : TgOk X.K [] g t)
    (hi : PI X tg iter (toTI X.K xa Z (evR cl src))) (ok : BlkOk X.N X.env.scope scope own)
    (hg : ∀ (s : Shared) (H : Hp) (C : Addr) (cs : List (Str × Addr)) (fp : List Addr), PG (X.blk s H scope (compEnvC scope cs C X.env) fp) tg g)
    (hk : ∀ (s : Shared) (H : Hp) (C : Addr) (cs : List (Str × Addr)) (fp : List Addr), PE (X.blk s H scope (compEnvC scope cs C X.env) fp) kx (toTE X.K xa Z0 (ev cl k)))
    (he : ∀ (s : Shared) (H : Hp) (C : Addr) (cs : List (Str × Addr)) (fp : List Addr), PE (X.blk s H scope (compEnvC scope cs C X.env) fp) vx (toTE X.K xa Z0 (ev cl v)))
    (hsl : t.slots = own.map (·.2) := by rfl) (hl : t.slots.all (fun i => decide (i < X.N.length)) = true := by rfl) (hs : ∀ x, foldedSetIterable iter X.env x = pure x := by intro _; rfl) :
    PE X (.DictComp kx vx [⟨tg, iter, [], 0⟩] scope pos) (toTE X.K xa Z (ev cl (.dc false k v t src))) := by
  have hk2 : ∀ (s : Shared) (H : Hp) (C : Addr) (cs : List (Str × Addr)) (fp : List Addr), PE (X.blk s H scope (compEnvC scope cs C X.env) fp) kx (toTD X.K xa Z0 fun E => (ev cl k E).bind fun w E1 => Res.lift w.frzL E1) := fun s H C cs fp => ddL_of (hk s H C cs fp) fun _ => rfl
  have he2 : ∀ (s : Shared) (H : Hp) (C : Addr) (cs : List (Str × Addr)) (fp : List Addr), PE (X.blk s H scope (compEnvC scope cs C X.env) fp) vx (toTD X.K xa Z0 fun E => (ev cl v E).bind fun w E1 => Res.lift w.frzL E1) := fun s H C cs fp => ddL_of (he s H C cs fp) fun _ => rfl
  have hq : ∀ (s : Shared) (H : Hp) (C : Addr) (cs : List (Str × Addr)) (fp : List Addr), PTs (X.blk s H scope (compEnvC scope cs C X.env) fp) [] (toTT X.K xa Z0 (evT cl .tt)) := fun _ _ _ _ _ => dts_nil
  refine ⟨fun pins s σ H Q I h => (pe_dc hc hN hi ok hg hq hk2 he2 hs).run pins s σ H Q I ?_⟩
  have lenσ : σ.length = X.N.length := I.len
  rw [← hsl]
  exact dc_ask ht (fun i q => by rw [lenσ]; exact slots_lt hl i q) h
end
end Sf

end

section
set_option maxRecDepth 100000
set_option maxHeartbeats 1000000
/-! Sf: the rules as a printer of proofs uses them. -/
namespace Sf
open PySem PySem.Spec PyProof.Rows L2
variable [WorldI]
section
variable {X : Cx} {xa : Nat → Addr} {Z : WX} {bo : List Bool} {cl : Nat → List W → CRes} {n : Nat} {a' b' c' : Expr} {a b c : IA} {pos p : Pos}

theorem hu16 {k : Nat} (hr : Room k X.A) : X.A.units + 16 < cLine := by
  have := hr.un
  omega
theorem hu64 {k : Nat} (hr : Room k X.A) : X.A.units + 64 < cLine := by
  have := hr.un
  omega
theorem hu66 {k : Nat} (hr : Room k X.A) : X.A.units + 66 < cLine := by
  have := hr.un
  omega

/-! ### operators -/
theorem u_add (ha : PE X a' (toTA X.K xa Z (evA cl a))) (hb : PE X b' (toTA X.K xa Z (evA cl b))) : PE X (.BinOp a' .Add b' pos) (toTE X.K xa Z (ev cl (.o2 .add a b))) := de_o2 (fun _ _ h g => pe_op o2_add h g) ha hb fun _ _ _ _ h => h
theorem u_sub (ha : PE X a' (toTA X.K xa Z (evA cl a))) (hb : PE X b' (toTA X.K xa Z (evA cl b))) : PE X (.BinOp a' .Sub b' pos) (toTE X.K xa Z (ev cl (.o2 .sub a b))) := de_o2 (fun _ _ h g => pe_op o2_sub h g) ha hb fun _ _ _ _ h => h
theorem u_mul (ha : PE X a' (toTA X.K xa Z (evA cl a))) (hb : PE X b' (toTA X.K xa Z (evA cl b))) : PE X (.BinOp a' .Mult b' pos) (toTE X.K xa Z (ev cl (.o2 .mul a b))) := de_o2 (fun _ _ h g => pe_op o2_mul h g) ha hb fun _ _ _ _ h => h
theorem u_fdiv (ha : PE X a' (toTA X.K xa Z (evA cl a))) (hb : PE X b' (toTA X.K xa Z (evA cl b))) : PE X (.BinOp a' .FloorDiv b' pos) (toTE X.K xa Z (ev cl (.o2 .fdiv a b))) := de_o2 (fun _ _ h g => pe_op o2_fdiv h g) ha hb fun _ _ _ _ h => h
theorem u_mod (ha : PE X a' (toTA X.K xa Z (evA cl a))) (hb : PE X b' (toTA X.K xa Z (evA cl b))) : PE X (.BinOp a' .Mod b' pos) (toTE X.K xa Z (ev cl (.o2 .mod a b))) := de_o2 (fun _ _ h g => pe_op o2_mod h g) ha hb fun _ _ _ _ h => h
theorem u_pow (ha : PE X a' (toTA X.K xa Z (evA cl a))) (hb : PE X b' (toTA X.K xa Z (evA cl b))) : PE X (.BinOp a' .Pow b' pos) (toTE X.K xa Z (ev cl (.o2 .pow a b))) := de_o2 (fun _ _ h g => pe_op o2_pow h g) ha hb fun _ _ _ _ h => h
theorem u_neg (ha : PE X a' (toTA X.K xa Z (evA cl a))) : PE X (.UnaryOp .USub a' pos) (toTE X.K xa Z (ev cl (.o1 .neg a))) := de_o1 (fun _ h => pe_un o1_neg h) ha fun _ _ _ h => h
theorem u_idx (hW : X.w = WorldI.w) (hu : X.A.units + 16 < cLine) (ha : PE X a' (toTA X.K xa Z (evA cl a))) (hb : PE X b' (toTA X.K xa Z (evA cl b))) (hs : PlainIx b' := by intro _ _; rfl) : PE X (.Subscript a' b' pos) (toTE X.K xa Z (ev cl (.o2 .idx a b))) := de_o2 (fun _ _ h g => pe_ix (o2_idx hW hu) h g hs) ha hb fun _ _ _ _ h => h

/-! ### comparisons -/
inductive Cm (X : Cx) : CmpOp → O2 → Prop
  | eq (h : X.A.units + 64 < cLine) : Cm X .Eq .eq
  | ne (h : X.A.units + 64 < cLine) : Cm X .NotEq .ne
  | lt (h : X.A.units + 64 < cLine) : Cm X .Lt .lt
  | le : Cm X .LtE .le
  | gt : Cm X .Gt .gt
  | ge : Cm X .GtE .ge
  | isin (hW : X.w = WorldI.w) (hu : X.A.units + 66 < cLine) : Cm X .In .isin
  | notin (hW : X.w = WorldI.w) (hu : X.A.units + 66 < cLine) : Cm X .NotIn .notin
  | isN : Cm X .Is .isN
  | notN : Cm X .IsNot .notN
  | isB : Cm X .Is .isB
  | notB : Cm X .IsNot .notB
theorem Cm.op {op : CmpOp} {o : O2} (h : Cm X op o) : OpR X (compareOp op) (rO2 X.K o) := by
  cases h with
  | eq h => exact o2_eq h
  | ne h => exact o2_ne h
  | lt h => exact o2_lt h
  | le => exact o2_le
  | gt => exact o2_gt
  | ge => exact o2_ge
  | isin hW hu => exact o2_in hW hu
  | notin hW hu => exact o2_notin hW hu
  | isN => exact o2_isN
  | notN => exact o2_notN
  | isB => exact o2_isB
  | notB => exact o2_notB
theorem inW_bool {neg l : Bool} {d : PyData} {ys : List PyData} {r : W} (h : inW neg l d ys = some r) : ∃ b, r = .fz (.bool b) := by
  unfold inW at h
  obtain ⟨_, rfl⟩ := if_some h
  exact ⟨_, rfl⟩
theorem op2D_bool {o : O2} {d e x : PyData} (ho : o = .eq ∨ o = .ne ∨ o = .lt ∨ o = .le ∨ o = .gt ∨ o = .ge ∨ o = .isN ∨ o = .notN ∨ o = .isB ∨ o = .notB) (h : op2D o d e = some x) : ∃ b, x = .bool b := by
  rcases ho with rfl | rfl | rfl | rfl | rfl | rfl | rfl | rfl | rfl | rfl
  case inl =>
    unfold op2D at h
    obtain ⟨_, rfl⟩ := if_some h
    exact ⟨_, rfl⟩
  case inr.inl =>
    unfold op2D at h
    obtain ⟨_, rfl⟩ := if_some h
    exact ⟨_, rfl⟩
  case inr.inr.inl =>
    cases d with
    | int i => cases e with
      | int j => cases h; exact ⟨_, rfl⟩
      | _ => cases h
    | tuple i => cases e with
      | tuple j =>
        obtain ⟨_, rfl⟩ := if_some (show (if (SeqAt.shaped (.tuple i) && SeqAt.shaped (.tuple j)) && PySem.W.alike (.tuple i) (.tuple j) then some (PyData.bool (PySem.W.dataLt (.tuple i) (.tuple j))) else none) = some x from h)
        exact ⟨_, rfl⟩
      | _ => cases h
    | _ => cases e <;> cases h
  all_goals
    unfold op2D at h
    split at h <;> first | (cases h; exact ⟨_, rfl⟩) | (rename_i q; cases q; done) | (cases h; done)
theorem Cm.bool {op : CmpOp} {o : O2} (h : Cm X op o) {w u r : W} (e : op2 o w u = some r) : ∃ b, r = .fz (.bool b) := by
  have look : o ≠ .idx → o ≠ .add → o ≠ .mul → o ≠ .isin → o ≠ .notin → (o = .eq ∨ o = .ne ∨ o = .lt ∨ o = .le ∨ o = .gt ∨ o = .ge ∨ o = .isN ∨ o = .notN ∨ o = .isB ∨ o = .notB) → ∃ b, r = .fz (.bool b) := fun h1 h2 h3 h4 h5 ho => by
    obtain ⟨d, f, x, _, _, q, rfl⟩ := op2_look e h1 h2 h3 h4 h5
    obtain ⟨b, rfl⟩ := op2D_bool ho q
    exact ⟨b, rfl⟩
  cases h with
  | isin =>
    obtain ⟨d, _, e2⟩ := bind_some' (show (w.look.bind fun d => match u.dct? d with
      | some kvs => some (.fz (.bool (dget kvs d).isSome))
      | none => u.within?.bind fun ys => inW false u.isL d ys) = some r from e)
    cases q : u.dct? d with
    | some kvs =>
      rw [q] at e2
      cases e2
      exact ⟨_, rfl⟩
    | none =>
      rw [q] at e2
      obtain ⟨ys, _, e3⟩ := bind_some' e2
      exact inW_bool e3
  | notin =>
    obtain ⟨d, _, e2⟩ := bind_some' (show (w.look.bind fun d => match u.dct? d with
      | some kvs => some (.fz (.bool (!(dget kvs d).isSome)))
      | none => u.within?.bind fun ys => inW true u.isL d ys) = some r from e)
    cases q : u.dct? d with
    | some kvs =>
      rw [q] at e2
      cases e2
      exact ⟨_, rfl⟩
    | none =>
      rw [q] at e2
      obtain ⟨ys, _, e3⟩ := bind_some' e2
      exact inW_bool e3
  | _ => exact look (by decide) (by decide) (by decide) (by decide) (by decide) (by decide)
theorem o2_boolR {op : CmpOp} {o : O2} (h : Cm X op o) : ∀ E w E1, ev cl (.o2 o a b) E = .ok w E1 → ∃ b, w = .fz (.bool b) := by
  intro E w E1 e
  unfold ev at e
  obtain ⟨x, E2, _, e2⟩ := res_ok e
  obtain ⟨y, E3, _, e3⟩ := res_ok e2
  obtain ⟨e4, _⟩ := lift_ok e3
  obtain ⟨ws, e5, e6⟩ := bind_some' e4
  obtain ⟨w0, u0, rfl, _, _⟩ := resolve_two e5
  exact h.bool e6
theorem u_cmp {op : CmpOp} {o : O2} (h : Cm X op o) (ha : PE X a' (toTA X.K xa Z (evA cl a))) (hb : PE X b' (toTA X.K xa Z (evA cl b))) (hm : behindInMarks op b' = false := by first | exact nomark _ (by decide) (by decide) | with_unfolding_all rfl) : PE X (.Compare a' [op] [b'] pos) (toTE X.K xa Z (ev cl (.o2 o a b))) :=
  de_o2 (fun _ _ h1 h2 => pe_cmpR h.op h1 h2 hm) ha hb fun _ _ _ _ h => h
theorem t_cmp {op : CmpOp} {o : O2} (h : Cm X op o) (ha : PE X a' (toTA X.K xa Z (evA cl a))) (hb : PE X b' (toTA X.K xa Z (evA cl b))) (hm : behindInMarks op b' = false := by first | exact nomark _ (by decide) (by decide) | with_unfolding_all rfl) : PT X (.Compare a' [op] [b'] pos) (toTT X.K xa Z (evT cl (.v (.e (.o2 o a b))))) := by
  refine dt_cmp (pt_cmpR h.op ha hb hm) (fun σ H Q ⟨F, E, S, p⟩ => ?_) (o2_boolR h)
  unfold ev at p
  refine ⟨F, E, S, (Post.bind_ p).mono fun x E1 F1 H1 _ S1 x1 p2 v rv => ?_⟩
  refine ⟨F1, E1, S1, (Post.bind_ p2).mono fun y E2 F2 H2 _ S2 x2 p3 u ru => ?_⟩
  obtain ⟨w, e1, p4⟩ := Post.lift_ p3
  obtain ⟨ws, e2, e3⟩ := bind_some' e1
  obtain ⟨w0, u0, rfl, q1, q2⟩ := resolve_two e2
  exact ⟨F2, w0, u0, w, S2.le, (rv.carry x2).use S2 q1, ru.use S2 q2, e3, K1.of_post S2 (fun b z => x2.thr b (x1.thr b z)) p4⟩
theorem chn_bool {op2' : CmpOp} {o o2 : O2} (h2 : Cm X op2' o2) : ∀ E w E1, ev cl (.chn o o2 a b c) E = .ok w E1 → ∃ b, w = .fz (.bool b) := by
  intro E w E1 e
  unfold ev at e
  obtain ⟨x, E2, _, e2⟩ := res_ok e
  obtain ⟨y, E3, _, e3⟩ := res_ok e2
  obtain ⟨t, E4, _, e4⟩ := res_ok e3
  cases t with
  | true =>
    rw [if_pos rfl] at e4
    obtain ⟨z, E5, _, e5⟩ := res_ok e4
    obtain ⟨e6, _⟩ := lift_ok e5
    obtain ⟨ws, e7, e8⟩ := bind_some' e6
    obtain ⟨w0, u0, rfl, _, _⟩ := resolve_two e7
    exact h2.bool e8
  | false =>
    rw [if_neg Bool.false_ne_true] at e4
    cases e4
    exact ⟨false, rfl⟩
theorem u_chn {op op2' : CmpOp} {o o2 : O2} (h : Cm X op o) (h2 : Cm X op2' o2) (ha : PE X a' (toTA X.K xa Z (evA cl a))) (hb : PE X b' (toTA X.K xa Z (evA cl b))) (hc : PE X c' (toTA X.K xa Z (evA cl c))) (hm : lastMarks [op, op2'] [b', c'] = false := by with_unfolding_all rfl) : PE X (.Compare a' [op, op2'] [b', c'] pos) (toTE X.K xa Z (ev cl (.chn o o2 a b c))) :=
  pe_imp (pe_chain h.op h2.op ha hb hc hm) (de_chn h.op h2.op ha hb hc)
theorem t_chn {op op2' : CmpOp} {o o2 : O2} (h : Cm X op o) (h2 : Cm X op2' o2) (ha : PE X a' (toTA X.K xa Z (evA cl a))) (hb : PE X b' (toTA X.K xa Z (evA cl b))) (hc : PE X c' (toTA X.K xa Z (evA cl c))) (hm : lastMarks [op, op2'] [b', c'] = false := by with_unfolding_all rfl) : PT X (.Compare a' [op, op2'] [b', c'] pos) (toTT X.K xa Z (evT cl (.v (.e (.chn o o2 a b c))))) :=
  dt_cmp (pt_chain h.op h2.op ha hb hc hm) (de_chn h.op h2.op ha hb hc) (chn_bool h2)
theorem t_val {e : Expr} (h : PE X e (toTA X.K xa Z (evA cl a))) (he : ∀ whole, isTrue e X.env whole = (do let v ← whole; standAt e.pos; holding [v] (truthy v)) := by intro _; rfl) : PT X e (toTT X.K xa Z (evT cl (.v a))) := dt_v h he

/-! ### built-in functions -/
theorem u_bi {o : O1} {x : Str} {id : String} (hc : CallR X (.builtin id) (rO1 X.K o)) (hv : bootBuiltins x = some (.builtin id)) (hn : x ≠ "__name__") (hdb : (x == ("__debug__" : Str)) = false) (hg : Gl X x) (hm : X.mg x = none) (ha : PE X a' (toTA X.K xa Z (evA cl a))) (hst : starEach [a'] X.env = (false, eval a' X.env) :: starEach [] X.env) : PE X (.Call (.Name x p) [a'] [] pos) (toTE X.K xa Z (ev cl (.o1 o a))) :=
  de_o1 (r := fun x => rO1 X.K o [x]) (fun ta h => pe_callB hc hg hm hv (pa_cons h pa_nil hst) hn hdb hst rfl) ha fun _ _ _ h => h
theorem u_ty {o : O1} {x : Str} {T : String} (hc : CallR X (.type T) (rO1 X.K o)) (hv : bootBuiltins x = some (.type T)) (hn : x ≠ "__name__") (hdb : (x == ("__debug__" : Str)) = false) (hg : Gl X x) (hm : X.mg x = none) (ha : PE X a' (toTA X.K xa Z (evA cl a))) (hst : starEach [a'] X.env = (false, eval a' X.env) :: starEach [] X.env) : PE X (.Call (.Name x p) [a'] [] pos) (toTE X.K xa Z (ev cl (.o1 o a))) :=
  de_o1 (r := fun x => rO1 X.K o [x]) (fun ta h => pe_callTy hc hg hm hv (pa_cons h pa_nil hst) hn hdb hst rfl) ha fun _ _ _ h => h
theorem u_len (hW : X.w = WorldI.w) (hm : X.mg "len" = none) (ha : PE X a' (toTA X.K xa Z (evA cl a))) (hg : Gl X "len" := by rfl) (hst : starEach [a'] X.env = (false, eval a' X.env) :: starEach [] X.env := by rfl) : PE X (.Call (.Name "len" p) [a'] [] pos) (toTE X.K xa Z (ev cl (.o1 .len a))) := u_bi (o1_len hW) boot_len (by decide) (by decide) hg hm ha hst
theorem u_all (hc : X.calm = true) (hm : X.mg "all" = none) (ha : PE X a' (toTA X.K xa Z (evA cl a))) (hg : Gl X "all" := by rfl) (hst : starEach [a'] X.env = (false, eval a' X.env) :: starEach [] X.env := by rfl) : PE X (.Call (.Name "all" p) [a'] [] pos) (toTE X.K xa Z (ev cl (.o1 .all a))) := u_bi (o1_all hc) (by decide +kernel) (by decide) (by decide) hg hm ha hst
theorem u_any (hc : X.calm = true) (hm : X.mg "any" = none) (ha : PE X a' (toTA X.K xa Z (evA cl a))) (hg : Gl X "any" := by rfl) (hst : starEach [a'] X.env = (false, eval a' X.env) :: starEach [] X.env := by rfl) : PE X (.Call (.Name "any" p) [a'] [] pos) (toTE X.K xa Z (ev cl (.o1 .any a))) := u_bi (o1_any hc) (by decide +kernel) (by decide) (by decide) hg hm ha hst
theorem u_sum (hc : X.calm = true) (hm : X.mg "sum" = none) (ha : PE X a' (toTA X.K xa Z (evA cl a))) (hg : Gl X "sum" := by rfl) (hst : starEach [a'] X.env = (false, eval a' X.env) :: starEach [] X.env := by rfl) : PE X (.Call (.Name "sum" p) [a'] [] pos) (toTE X.K xa Z (ev cl (.o1 .sum a))) := u_bi (o1_sum hc) (by decide +kernel) (by decide) (by decide) hg hm ha hst
theorem u_min (hc : X.calm = true) (hu : X.A.units + 64 < cLine) (hm : X.mg "min" = none) (ha : PE X a' (toTA X.K xa Z (evA cl a))) (hg : Gl X "min" := by rfl) (hst : starEach [a'] X.env = (false, eval a' X.env) :: starEach [] X.env := by rfl) : PE X (.Call (.Name "min" p) [a'] [] pos) (toTE X.K xa Z (ev cl (.o1 .min a))) := u_bi (o1_min hc hu) (by decide +kernel) (by decide) (by decide) hg hm ha hst
theorem u_max (hc : X.calm = true) (hm : X.mg "max" = none) (ha : PE X a' (toTA X.K xa Z (evA cl a))) (hg : Gl X "max" := by rfl) (hst : starEach [a'] X.env = (false, eval a' X.env) :: starEach [] X.env := by rfl) : PE X (.Call (.Name "max" p) [a'] [] pos) (toTE X.K xa Z (ev cl (.o1 .max a))) := u_bi (o1_max hc) (by decide +kernel) (by decide) (by decide) hg hm ha hst
theorem u_sorted (hm : X.mg "sorted" = none) (ha : PE X a' (toTA X.K xa Z (evA cl a))) (hg : Gl X "sorted" := by rfl) (hst : starEach [a'] X.env = (false, eval a' X.env) :: starEach [] X.env := by rfl) : PE X (.Call (.Name "sorted" p) [a'] [] pos) (toTE X.K xa Z (ev cl (.o1 .sorted a))) := u_bi o1_sorted (by decide +kernel) (by decide) (by decide) hg hm ha hst
theorem u_repr (hgd : X.A.guards = some []) (hr : Room n X.A) (hm : X.mg "repr" = none) (ha : PE X a' (toTA X.K xa Z (evA cl a))) (hg : Gl X "repr" := by rfl) (hst : starEach [a'] X.env = (false, eval a' X.env) :: starEach [] X.env := by rfl) : PE X (.Call (.Name "repr" p) [a'] [] pos) (toTE X.K xa Z (ev cl (.o1 .repr a))) := u_bi (o1_repr hgd (by have := hr.un; omega)) (by decide +kernel) (by decide) (by decide) hg hm ha hst
theorem u_tup (hm : X.mg "tuple" = none) (ha : PE X a' (toTA X.K xa Z (evA cl a))) (hg : Gl X "tuple" := by rfl) (hst : starEach [a'] X.env = (false, eval a' X.env) :: starEach [] X.env := by rfl) : PE X (.Call (.Name "tuple" p) [a'] [] pos) (toTE X.K xa Z (ev cl (.o1 .tup a))) := u_ty o1_tup boot_tuple (by decide) (by decide) hg hm ha hst
theorem u_lis (hm : X.mg "list" = none) (ha : PE X a' (toTA X.K xa Z (evA cl a))) (hg : Gl X "list" := by rfl) (hst : starEach [a'] X.env = (false, eval a' X.env) :: starEach [] X.env := by rfl) : PE X (.Call (.Name "list" p) [a'] [] pos) (toTE X.K xa Z (ev cl (.o1 .lis a))) := u_ty o1_lis boot_list (by decide) (by decide) hg hm ha hst
theorem u_int (hm : X.mg "int" = none) (ha : PE X a' (toTA X.K xa Z (evA cl a))) (hg : Gl X "int" := by rfl) (hst : starEach [a'] X.env = (false, eval a' X.env) :: starEach [] X.env := by rfl) : PE X (.Call (.Name "int" p) [a'] [] pos) (toTE X.K xa Z (ev cl (.o1 .int a))) := u_ty o1_int (by decide +kernel) (by decide) (by decide) hg hm ha hst
/-- isinstance(e, T) -/
theorem u_isi {p2 : Pos} {x : Str} (o : O1) (ho : o = .isInt ∨ o = .isBool ∨ o = .isStr ∨ o = .isTup) (hv : bootBuiltins x = some (.type o.ty)) (hm : X.mg "isinstance" = none) (hmx : X.mg x = none) (ha : PE X a' (toTA X.K xa Z (evA cl a))) (hg : Gl X "isinstance" := by rfl) (hgx : Gl X x := by rfl) (hn : x ≠ "__name__" := by decide) (hd : (x == ("__debug__" : Str)) = false := by decide)
    (hst : starEach [a', .Name x p2] X.env = (false, eval a' X.env) :: starEach [.Name x p2] X.env := by rfl) (hst2 : starEach [.Name x p2] X.env = (false, eval (.Name x p2) X.env) :: starEach [] X.env := by rfl) (hpl : (backTo pos (starEach [.Name x p2] X.env)).any (·.1) = false := by rfl) :
    PE X (.Call (.Name "isinstance" p) [a', .Name x p2] [] pos) (toTE X.K xa Z (ev cl (.o1 o a))) :=
  de_o1 (r := fun y H Q => ∃ x, [y, V.ty o.ty] = [x, V.ty o.ty] ∧ rO1 X.K o [x] H Q) (fun ta h => pe_callB (o1_isi o ho) hg hm (by decide +kernel) (pa_cons h (pa_cons (pe_bltn hgx hmx hv (v := .ty o.ty) rfl hn hd) pa_nil hst2) hst) (by decide) (by decide) hst hpl) ha fun x _ _ h => ⟨x, rfl, h⟩
theorem u_min2 (hc : X.calm = true) (hu : X.A.units + 64 < cLine) (hm : X.mg "min" = none) (ha : PE X a' (toTA X.K xa Z (evA cl a))) (hb : PE X b' (toTA X.K xa Z (evA cl b))) (hg : Gl X "min" := by rfl) (hst : starEach [a', b'] X.env = (false, eval a' X.env) :: starEach [b'] X.env := by rfl) (hst2 : starEach [b'] X.env = (false, eval b' X.env) :: starEach [] X.env := by rfl) (hpl : (backTo pos (starEach [b'] X.env)).any (·.1) = false := by rfl) :
    PE X (.Call (.Name "min" p) [a', b'] [] pos) (toTE X.K xa Z (ev cl (.o2 .min2 a b))) :=
  de_o2 (r := fun x y H Q => ∃ x' y', [x, y] = [x', y'] ∧ rO2 X.K .min2 x' y' H Q) (fun ta tb h h2 => pe_callB (o2_min2 hc hu) hg hm (by decide +kernel) (pa_cons h (pa_cons h2 pa_nil hst2) hst) (by decide) (by decide) hst hpl) ha hb fun x y _ _ h => ⟨x, y, rfl, h⟩
theorem u_max2 (hc : X.calm = true) (hm : X.mg "max" = none) (ha : PE X a' (toTA X.K xa Z (evA cl a))) (hb : PE X b' (toTA X.K xa Z (evA cl b))) (hg : Gl X "max" := by rfl) (hst : starEach [a', b'] X.env = (false, eval a' X.env) :: starEach [b'] X.env := by rfl) (hst2 : starEach [b'] X.env = (false, eval b' X.env) :: starEach [] X.env := by rfl) (hpl : (backTo pos (starEach [b'] X.env)).any (·.1) = false := by rfl) :
    PE X (.Call (.Name "max" p) [a', b'] [] pos) (toTE X.K xa Z (ev cl (.o2 .max2 a b))) :=
  de_o2 (r := fun x y H Q => ∃ x' y', [x, y] = [x', y'] ∧ rO2 X.K .max2 x' y' H Q) (fun ta tb h h2 => pe_callB (o2_max2 hc) hg hm (by decide +kernel) (pa_cons h (pa_cons h2 pa_nil hst2) hst) (by decide) (by decide) hst hpl) ha hb fun x y _ _ h => ⟨x, y, rfl, h⟩

/-! ### constants and names of the module -/
theorem u_int0 {i : Int} {j : Nat} : PE X (.Constant (.int i) j pos) (toTE X.K xa Z (ev cl (.con (.int i)))) := de_con pe_int fun _ => .int i
theorem u_str0 {x : Str} {j : Nat} : PE X (.Constant (.str x) j pos) (toTE X.K xa Z (ev cl (.con (.str x)))) := de_con pe_str fun _ => .str x
theorem u_bl0 {b : Bool} {j : Nat} : PE X (.Constant (.bool b) j pos) (toTE X.K xa Z (ev cl (.con (.bool b)))) := de_con pe_bl fun _ => .bl b
theorem u_non0 {j : Nat} : PE X (.Constant .none j pos) (toTE X.K xa Z (ev cl (.con .none))) := de_con pe_non fun _ => .non
theorem u_gint {x : Str} {i : Int} (hm : ∃ t, X.mg x = some (.int i t)) (hg : Gl X x := by rfl) (hd : (x == ("__debug__" : Str)) = false := by decide) : PE X (.Name x pos) (toTE X.K xa Z (ev cl (.con (.int i)))) := by
  obtain ⟨t, h⟩ := hm
  exact de_con (pe_glob hg h (v := .int i) ⟨t, rfl⟩ hd) fun _ => .int i
theorem u_gstr {x z : Str} (hm : ∃ t, X.mg x = some (.str z t)) (hg : Gl X x := by rfl) (hd : (x == ("__debug__" : Str)) = false := by decide) : PE X (.Name x pos) (toTE X.K xa Z (ev cl (.con (.str z)))) := by
  obtain ⟨t, h⟩ := hm
  exact de_con (pe_glob hg h (v := .str z) ⟨t, rfl⟩ hd) fun _ => .str z

/-! ### lists of expressions, with their side goals -/
section
variable {e : Expr} {es : List Expr}
theorem v_Ds {x : IE} {xs : IEs} (h : PE X e (toTE X.K xa Z (ev cl x))) (hs : PA X es (toTDs X.K xa Z (evDs cl xs))) (hst : starEach (e :: es) X.env = (false, eval e X.env) :: starEach es X.env := by rfl) : PA X (e :: es) (toTDs X.K xa Z (evDs cl (.cons x xs))) := dds_cons h hs hst
theorem v_Ws {x : IE} {xs : IEs} (h : PE X e (toTE X.K xa Z (ev cl x))) (hs : PA X es (toTW X.K xa Z (evWs cl xs))) (hst : starEach (e :: es) X.env = (false, eval e X.env) :: starEach es X.env := by rfl) : PA X (e :: es) (toTW X.K xa Z (evWs cl (.cons x xs))) := dws_cons h hs hst
theorem v_As {a : IA} {as : IAs} (h : PE X e (toTA X.K xa Z (evA cl a))) (hs : PA X es (toTAs X.K xa Z (evAs cl as))) (hst : starEach (e :: es) X.env = (false, eval e X.env) :: starEach es X.env := by rfl) : PA X (e :: es) (toTAs X.K xa Z (evAs cl (.cons a as))) := das_cons h hs hst
theorem v_tup {xs : IEs} {k : Nat} (h : PA X es (toTDs X.K xa Z (evDs cl xs))) (hz : decide (xs.len ≤ 1000000) = true := by decide) : PE X (.Tuple es k pos) (toTE X.K xa Z (ev cl (.dsp true xs))) := de_tup h hz
theorem v_lst {xs : IEs} (h : PA X es (toTDs X.K xa Z (evDs cl xs))) (hz : decide (xs.len ≤ 1000000) = true := by decide) : PE X (.List es pos) (toTE X.K xa Z (ev cl (.dsp false xs))) := de_lst h hz
end
theorem v_r1 {tg e : Expr} {m : IE} (hm : X.mg "range" = none) (h : PE X e (toTE X.K xa Z (ev cl m))) (hg : Gl X "range" := by rfl) (hs : starEach [e] X.env = [(false, eval e X.env)] := by rfl) : PI X tg (.Call (.Name "range" p) [e] [] pos) (toTI X.K xa Z (evR cl (.r1 m))) := di_r1 hg hm h hs
theorem v_r2 {tg e e2 : Expr} {m m2 : IE} (hm : X.mg "range" = none) (h : PE X e (toTE X.K xa Z (ev cl m))) (h2 : PE X e2 (toTE X.K xa Z (ev cl m2))) (hg : Gl X "range" := by rfl) (hs2 : starEach [e2] X.env = [(false, eval e2 X.env)] := by rfl) (hs : starEach [e, e2] X.env = [(false, eval e X.env), (false, eval e2 X.env)] := by rfl) :
    PI X tg (.Call (.Name "range" p) [e, e2] [] pos) (toTI X.K xa Z (evR cl (.r2 m m2))) := di_r2 hg hm h h2 hs2 hs
theorem v_q1 {e : Expr} {m : IE} (hm : X.mg "range" = none) (h : PE X e (toTE X.K xa Z (ev cl m))) (hg : Gl X "range" := by rfl) (hs : starEach [e] X.env = (false, eval e X.env) :: starEach [] X.env := by rfl) : PRg X (.Call (.Name "range" p) [e] [] pos) (toRg X.K xa Z (evR cl (.r1 m))) := dr_1 hg hm h hs
theorem v_q2 {e e2 : Expr} {m m2 : IE} (hm : X.mg "range" = none) (h : PE X e (toTE X.K xa Z (ev cl m))) (h2 : PE X e2 (toTE X.K xa Z (ev cl m2))) (hg : Gl X "range" := by rfl) (hs : starEach [e, e2] X.env = (false, eval e X.env) :: starEach [e2] X.env := by rfl) (hs2 : starEach [e2] X.env = (false, eval e2 X.env) :: starEach [] X.env := by rfl) (hp : (backTo pos (starEach [e2] X.env)).any (·.1) = false := by rfl) :
    PRg X (.Call (.Name "range" p) [e, e2] [] pos) (toRg X.K xa Z (evR cl (.r2 m m2))) := dr_2 hg hm h h2 hs hs2 hp
theorem v_tupR {e : Expr} {src : IR} (hc : X.calm = true) (hm : X.mg "tuple" = none) (he : PRg X e (toRg X.K xa Z (evR cl src))) (hg : Gl X "tuple" := by rfl) (na : starEach [e] X.env = (false, eval e X.env) :: starEach [] X.env := by rfl) : PE X (.Call (.Name "tuple" p) [e] [] pos) (toTE X.K xa Z (ev cl (.rng true src))) := de_rngT hc hg hm he na
theorem v_lisR {e : Expr} {src : IR} (hc : X.calm = true) (hm : X.mg "list" = none) (he : PRg X e (toRg X.K xa Z (evR cl src))) (hg : Gl X "list" := by rfl) (na : starEach [e] X.env = (false, eval e X.env) :: starEach [] X.env := by rfl) : PE X (.Call (.Name "list" p) [e] [] pos) (toTE X.K xa Z (ev cl (.rng false src))) := de_rngL hc hg hm he na

theorem v_Dst {e : Expr} {es : List Expr} {x : IE} {xs : IEs} {pp : Pos} (h : PE X e (toTE X.K xa Z (ev cl x))) (hs : PA X es (toTDs X.K xa Z (evDs cl xs))) (hst : starEach (.Starred e pp :: es) X.env = (true, eval e X.env) :: starEach es X.env := by rfl) : PA X (.Starred e pp :: es) (toTDs X.K xa Z (evDs cl (.star x xs))) := dds_star h hs hst
theorem s_ext {e o : Expr} {i : Nat} {x : IE} {apos cpos : Pos} (ho : PE X o (tVar i)) (he : PE X e (toTE X.K xa Z (ev cl x))) (hst : starEach [e] X.env = (false, eval e X.env) :: starEach [] X.env := by rfl)
    (hbase : attributeBase o "extend" X.env (eval o X.env) = eval o X.env := by rfl)
    (hfew : ((backTo cpos (starEach [e] X.env)).all (fun x => !x.1) && (backToKw cpos (keywordEach [] X.env)).all (fun x => x.1.isSome) && decide ([e].length + ([] : List Keyword).length + (if ([] : List Keyword).isEmpty then 0 else 1) < 30)) = true := by rfl)
    (hline : (apos.endLine == cpos.line) = true := by rfl) (hplain : (backTo cpos (starEach [] X.env)).any (·.1) = false := by rfl) (hs : swapsWith (.Call (.Attribute o "extend" apos) [e] [] cpos) none pos.line X.env = pure false := by rfl) :
    PS X (.Expr (.Call (.Attribute o "extend" apos) [e] [] cpos) pos) (toTS X.K xa Z bo (evS cl bo (.ext i x))) := ds_ext ho he hst hbase hfew hline hplain hs
theorem u_dsort (hc : X.calm = true) (hm : X.mg "sorted" = none) (ha : PE X a' (toTA X.K xa Z (evA cl a))) (hg : Gl X "sorted" := by rfl) (hst : starEach [a'] X.env = (false, eval a' X.env) :: starEach [] X.env := by rfl) : PE X (.Call (.Name "sorted" p) [a'] [] pos) (toTE X.K xa Z (ev cl (.o1 .dsort a))) := u_bi (o1_dsort hc) (by decide +kernel) (by decide) (by decide) hg hm ha hst

theorem u_sortK {o : Expr} {a : IA} {mpos apos : Pos} (hc : X.calm = true) (hm : X.mg "sorted" = none) (ha : PE X o (toTA X.K xa Z (evA cl a))) (hg : Gl X "sorted" := by rfl) (hbase : attributeBase o "keys" X.env (eval o X.env) = eval o X.env := by rfl) (hline : (apos.endLine == mpos.line) = true := by rfl)
    (hse : starEach [Expr.Call (.Attribute o "keys" apos) [] [] mpos] X.env = [(false, eval (Expr.Call (.Attribute o "keys" apos) [] [] mpos) X.env)] := by rfl) :
    PE X (.Call (.Name "sorted" p) [.Call (.Attribute o "keys" apos) [] [] mpos] [] pos) (toTE X.K xa Z (ev cl (.o1 .dsort a))) := de_sortK hc hg hm ha hbase hline hse

/-! ### dicts -/
theorem v_dnew (t : Bool) : PE X (.Dict [] [] pos) (toTE X.K xa Z (ev cl (.dnew t))) := de_dnew t
theorem v_dsp1 {k v : Expr} {t : Bool} {x y : IE} (hW : X.w = WorldI.w) (hu : X.A.units + 16 < cLine) (hk : PE X k (toTE X.K xa Z (ev cl x))) (hv : PE X v (toTE X.K xa Z (ev cl y))) : PE X (.Dict [some k] [v] pos) (toTE X.K xa Z (ev cl (.dsp1 t x y))) := de_dsp1 hW hu hk hv
theorem v_get2 {o k value : Expr} {a : IA} {y z : IE} {apos cpos : Pos} (hW : X.w = WorldI.w) (hu : X.A.units + 16 < cLine) (ho : PE X o (toTA X.K xa Z (evA cl a))) (hk : PE X k (toTE X.K xa Z (ev cl y))) (hv : PE X value (toTE X.K xa Z (ev cl z))) (m : M2 X o "get" apos k value cpos := by exact ⟨rfl, rfl, rfl, rfl⟩) :
    PE X (.Call (.Attribute o "get" apos) [k, value] [] cpos) (toTE X.K xa Z (ev cl (.get2 a y z))) := de_get2 hW hu ho hk hv m
theorem v_sdef {o k value : Expr} {i : Nat} {y z : IE} {apos cpos : Pos} (hW : X.w = WorldI.w) (hu : X.A.units + 16 < cLine) (ho : PE X o (tVar i)) (hk : PE X k (toTE X.K xa Z (ev cl y))) (hv : PE X value (toTE X.K xa Z (ev cl z))) (m : M2 X o "setdefault" apos k value cpos := by exact ⟨rfl, rfl, rfl, rfl⟩) :
    PE X (.Call (.Attribute o "setdefault" apos) [k, value] [] cpos) (toTE X.K xa Z (ev cl (.sdef i y z))) := de_sdef hW hu ho hk hv m
theorem s_dput {o k value : Expr} {i : Nat} {y z : IE} {pos' : Pos} (hW : X.w = WorldI.w) (hu : X.A.units + 16 < cLine) (ho : PE X o (tVar i)) (hk : PE X k (toTE X.K xa Z (ev cl y))) (hv : PE X value (toTE X.K xa Z (ev cl z))) (hs : swapsWith value (some (.Subscript o k pos')) pos.line X.env = pure false := by rfl) :
    PS X (.Assign [.Subscript o k pos'] value pos) (toTS X.K xa Z bo (evS cl bo (.dput i y z))) := ds_dput hW hu ho hk hv hs
theorem v_items {e : Expr} {x : IE} {apos cpos : Pos} {elts : List Expr} {kk : Nat} {tpos : Pos} (h : PE X e (toTE X.K xa Z (ev cl x))) (hbase : attributeBase e "items" X.env (eval e X.env) = eval e X.env := by rfl) (hline : (apos.endLine == cpos.line) = true := by rfl) :
    PI X (.Tuple elts kk tpos) (.Call (.Attribute e "items" apos) [] [] cpos) (toTI X.K xa Z (evR cl (.items x))) := di_items h hbase hline
theorem v_vals {tg e : Expr} {x : IE} {apos cpos : Pos} (h : PE X e (toTE X.K xa Z (ev cl x))) (hbase : attributeBase e "values" X.env (eval e X.env) = eval e X.env := by rfl) (hline : (apos.endLine == cpos.line) = true := by rfl) :
    PI X tg (.Call (.Attribute e "values" apos) [] [] cpos) (toTI X.K xa Z (evR cl (.vals x))) := di_vals h hbase hline
theorem v_keysM {tg e : Expr} {x : IE} {apos cpos : Pos} (h : PE X e (toTE X.K xa Z (ev cl x))) (hbase : attributeBase e "keys" X.env (eval e X.env) = eval e X.env := by rfl) (hline : (apos.endLine == cpos.line) = true := by rfl) :
    PI X tg (.Call (.Attribute e "keys" apos) [] [] cpos) (toTI X.K xa Z (evR cl (.keys x))) := di_keysM h hbase hline
theorem v_keysI {tg e : Expr} {x : IE} (h : PE X e (toTE X.K xa Z (ev cl x))) : PI X tg e (toTI X.K xa Z (evR cl (.keys x))) := di_keys h
theorem v_enum {e : Expr} {x : IE} {elts : List Expr} {kk : Nat} {tpos : Pos} (hm : X.mg "enumerate" = none) (h : PE X e (toTE X.K xa Z (ev cl x))) (hg : Gl X "enumerate" := by rfl) (hs : starEach [e] X.env = [(false, eval e X.env)] := by rfl) :
    PI X (.Tuple elts kk tpos) (.Call (.Name "enumerate" p) [e] [] pos) (toTI X.K xa Z (evR cl (.enum x))) := di_enum hg hm h hs
theorem v_zip {e e2 : Expr} {x y : IE} {elts : List Expr} {kk : Nat} {tpos : Pos} (hm : X.mg "zip" = none) (h : PE X e (toTE X.K xa Z (ev cl x))) (h2 : PE X e2 (toTE X.K xa Z (ev cl y))) (hg : Gl X "zip" := by rfl) (hs2 : starEach [e2] X.env = (false, eval e2 X.env) :: starEach [] X.env := by rfl) (hs : starEach [e, e2] X.env = (false, eval e X.env) :: starEach [e2] X.env := by rfl) (hpl : (backTo pos (starEach [e2] X.env)).any (·.1) = false := by rfl) :
    PI X (.Tuple elts kk tpos) (.Call (.Name "zip" p) [e, e2] [] pos) (toTI X.K xa Z (evR cl (.zip x y))) := di_zip hg hm h h2 hs2 hs hpl

/-! ### statements, with their side goals -/
theorem s_set {e : Expr} {x : Str} {i : Nat} {y : IE} {pos' : Pos} (hN : X.N.Nodup) (he : PE X e (toTE X.K xa Z (ev cl y))) (hi : X.N[i]? = some x := by rfl) (hx : Loc X.env.scope x := by first | exact Or.inl rfl | exact Or.inr rfl) (hs : swapsWith e (some (.Name x pos')) pos.line X.env = pure false := by rfl) (hf : X.fn x = true ∨ X.env.scope.names.lookup x = some .local := by first | exact .inl rfl | exact .inr rfl) :
    PS X (.Assign [.Name x pos'] e pos) (toTS X.K xa Z bo (evS cl bo (.set i y))) := ds_set_of (ps_set hN hi hx he hs hf) (List.getElem?_eq_some_iff.mp hi).1 fun _ _ _ h => h
theorem s_setLc {i : Nat} {y : Str} {py : Pos} {elt tg iter : Expr} {ifs : List Expr} {scope : Scope} (own : List (Str × Nat)) {spos : Pos} {g : TG} {t : Tg} {src : IR} {x : IE} {cnd : IT} (hc : X.calm = true) (hN : X.N.Nodup) (ht : TgOk X.K [] g t)
    (hi : PI X tg iter (toTI X.K xa Z (evR cl src))) (ok : BlkOk X.N X.env.scope scope own)
    (hg : ∀ (s : Shared) (H : Hp) (C : Addr) (cs : List (Str × Addr)) (fp : List Addr), PG (X.blk s H scope (compEnvC scope cs C X.env) fp) tg g)
    (hq : ∀ (s : Shared) (H : Hp) (C : Addr) (cs : List (Str × Addr)) (fp : List Addr), PTs (X.blk s H scope (compEnvC scope cs C X.env) fp) ifs (toTT X.K xa Z0 (evT cl cnd)))
    (he : ∀ (s : Shared) (H : Hp) (C : Addr) (cs : List (Str × Addr)) (fp : List Addr), PE (X.blk s H scope (compEnvC scope cs C X.env) fp) elt (toTE X.K xa Z0 (ev cl x)))
    (hsl : t.slots = own.map (·.2) := by rfl) (hl : t.slots.all (fun i => decide (i < X.N.length)) = true := by rfl) (hy : X.N[i]? = some y := by rfl) (hyl : X.env.scope.names.lookup y = some .local := by rfl)
    (hsw : swapsWith (.ListComp elt [⟨tg, iter, ifs, 0⟩] scope pos) (some (.Name y py)) spos.line X.env = pure true := by first | exact sw_true rfl rfl rfl (by decide +kernel) | exact sw_true rfl rfl rfl rfl) (hs : ∀ x, foldedSetIterable iter X.env x = pure x := by intro _; rfl) : PS X (.Assign [.Name y py] (.ListComp elt [⟨tg, iter, ifs, 0⟩] scope pos) spos) (toTS X.K xa Z bo (evS cl bo (.set i (.lc x t src cnd)))) :=
  ds_setLc hc hN hy hyl hsw hsl hl ht hi ok hg hq he hs
theorem v_lc {elt tg iter : Expr} {ifs : List Expr} {scope : Scope} (own : List (Str × Nat)) {g : TG} {t : Tg} {src : IR} {x : IE} {cnd : IT} (hc : X.calm = true) (hN : X.N.Nodup) (ht : TgOk X.K [] g t)
    (hi : PI X tg iter (toTI X.K xa Z (evR cl src))) (ok : BlkOk X.N X.env.scope scope own)
    (hg : ∀ (s : Shared) (H : Hp) (C : Addr) (cs : List (Str × Addr)) (fp : List Addr), PG (X.blk s H scope (compEnvC scope cs C X.env) fp) tg g)
    (hq : ∀ (s : Shared) (H : Hp) (C : Addr) (cs : List (Str × Addr)) (fp : List Addr), PTs (X.blk s H scope (compEnvC scope cs C X.env) fp) ifs (toTT X.K xa Z0 (evT cl cnd)))
    (he : ∀ (s : Shared) (H : Hp) (C : Addr) (cs : List (Str × Addr)) (fp : List Addr), PE (X.blk s H scope (compEnvC scope cs C X.env) fp) elt (toTE X.K xa Z0 (ev cl x)))
    (hsl : t.slots = own.map (·.2) := by rfl) (hl : t.slots.all (fun i => decide (i < X.N.length)) = true := by rfl) (hs : ∀ x, foldedSetIterable iter X.env x = pure x := by intro _; rfl) : PE X (.ListComp elt [⟨tg, iter, ifs, 0⟩] scope pos) (toTE X.K xa Z (ev cl (.lc x t src cnd))) :=
  de_lc hc hN hsl hl ht hi ok hg hq he hs
theorem s_expr {e : Expr} {x : IE} (h : PE X e (toTE X.K xa Z (ev cl x))) (hs : swapsWith e none pos.line X.env = pure false := by rfl) : PS X (.Expr e pos) (toTS X.K xa Z bo (evS cl bo (.expr x))) := ds_expr h hs
theorem s_unst {e : Expr} {i j k : Nat} {x y : Str} {z : IE} {p1 p2 p3 tpos : Pos} (hc : X.calm = true) (hN : X.N.Nodup) (he : PE X e (toTE X.K xa Z (ev cl z))) (hi : X.N[i]? = some x := by rfl) (hj : X.N[j]? = some y := by rfl)
    (hx : Loc X.env.scope x := by first | exact Or.inl rfl | exact Or.inr rfl) (hy : Loc X.env.scope y := by first | exact Or.inl rfl | exact Or.inr rfl) (hf : X.fn x = true ∨ X.env.scope.names.lookup x = some .local := by first | exact .inl rfl | exact .inr rfl) (hf2 : X.fn y = true ∨ X.env.scope.names.lookup y = some .local := by first | exact .inl rfl | exact .inr rfl)
    (hs : swapsWithSole [.Tuple [.Name x p1, .Starred (.Name y p2) p3] k tpos] e pos.line X.env = pure false := by rfl) (hw : swappedStores [.Tuple [.Name x p1, .Starred (.Name y p2) p3] k tpos] e X.env = pure none := by rfl) :
    PS X (.Assign [.Tuple [.Name x p1, .Starred (.Name y p2) p3] k tpos] e pos) (toTS X.K xa Z bo (evS cl bo (.unst i j z))) :=
  ds_unst (ps_asg he (pg_star1 hc (pg_name hN hi hx hf) (pg_name hN hj hy hf2)) hs hw) (List.getElem?_eq_some_iff.mp hi).1 (List.getElem?_eq_some_iff.mp hj).1
theorem s_mat {e : Expr} {x : IE} {p1 q1 p2 q2 : Pattern} {c1 c2 : List Str} {n1 n2 : Int} {b1 b2 : List Stmt} {u1 u2 : S} {s1 s2 pos : Pos} (hc : X.calm = true) (he : PE X e (toTE X.K xa Z (ev cl x))) (hp1 : PatS X p1 c1) (hq1 : PatI X q1 n1) (hp2 : PatS X p2 c2) (hq2 : PatI X q2 n2)
    (hb1 : PSs X b1 (toTS X.K xa Z bo (evS cl bo u1))) (hb2 : PSs X b2 (toTS X.K xa Z bo (evS cl bo u2))) (hs1 : p1.isStar = false := by rfl) (hs2 : q1.isStar = false := by rfl) (hw : p1.isWildcard = false := by rfl) (hs3 : p2.isStar = false := by rfl) (hs4 : q2.isStar = false := by rfl) (hw2 : p2.isWildcard = false := by rfl) :
    PS X (.Match e [⟨.MatchSequence [p1, q1] s1, none, b1⟩, ⟨.MatchSequence [p2, q2] s2, none, b2⟩] pos) (toTS X.K xa Z bo (evS cl bo (.mat x c1 n1 u1 c2 n2 u2))) := ds_mat hc he hp1 hq1 hp2 hq2 hb1 hb2 hs1 hs2 hw hs3 hs4 hw2
theorem s_parT {ts es : List Expr} {is : List Nat} {k k2 : Nat} {xs : IEs} {tpos epos : Pos} (hc : X.calm = true) (he : PA X es (toTW X.K xa Z (evWs cl xs))) (hg : PGs X ts (gAll is)) (hn : (assignEach ts X.env).length = is.length := by rfl) (hst : (assignEach ts X.env).findIdx? (·.1) = none := by rfl)
    (hz : is.length ≤ 100 := by decide) (hl : is.all (fun i => decide (i < X.N.length)) = true := by rfl)
    (hs : swapsWithSole [.Tuple ts k tpos] (.Tuple es k2 epos) pos.line X.env = pure false := by rfl) (hw : swappedStores [.Tuple ts k tpos] (.Tuple es k2 epos) X.env = pure none := by rfl) :
    PS X (.Assign [.Tuple ts k tpos] (.Tuple es k2 epos) pos) (toTS X.K xa Z bo (evS cl bo (.par is xs))) :=
  ds_parT (n := is.length) (ps_asg (pe_tup he) (pg_tup hc hg hn hst) hs hw) rfl hz hl
theorem s_augA {i : Nat} {x : Str} {e : Expr} {y : IE} {pos' : Pos} (hN : X.N.Nodup) (he : PE X e (toTE X.K xa Z (ev cl y))) (hi : X.N[i]? = some x := by rfl) (hx : Loc X.env.scope x := by first | exact Or.inl rfl | exact Or.inr rfl) (hf : X.fn x = true ∨ X.env.scope.names.lookup x = some .local := by first | exact .inl rfl | exact .inr rfl) :
    PS X (.AugAssign (.Name x pos') .Add e pos) (toTS X.K xa Z bo (evS cl bo (.aug i .add y))) := ds_aug hN hi hx he ip_add hf (.inl ⟨rfl, rfl⟩)
theorem s_unp {ts : List Expr} {e : Expr} {is : List Nat} {k : Nat} {x : IE} {tpos : Pos} (hc : X.calm = true) (he : PE X e (toTE X.K xa Z (ev cl x))) (hg : PGs X ts (gAll is)) (hn : (assignEach ts X.env).length = is.length := by rfl) (hst : (assignEach ts X.env).findIdx? (·.1) = none := by rfl)
    (hs : swapsWithSole [.Tuple ts k tpos] e pos.line X.env = pure false := by rfl) (hw : swappedStores [.Tuple ts k tpos] e X.env = pure none := by rfl) (h1 : (assignEach [.Tuple ts k tpos] X.env).map (·.2) = [assign (.Tuple ts k tpos) X.env] := by rfl) (hl : is.all (fun i => decide (i < X.N.length)) = true := by rfl) :
    PS X (.Assign [.Tuple ts k tpos] e pos) (toTS X.K xa Z bo (evS cl bo (.unp is x))) := ds_unp_of (ps_asg he (pg_tup hc hg hn hst) hs hw h1) (tg_tp rfl) hl
theorem g_nil : PGs X [] (gAll []) := pgs_nil
theorem g_cons {i : Nat} {is : List Nat} {x : Str} {es : List Expr} (hN : X.N.Nodup) (h : PGs X es (gAll is)) (hi : X.N[i]? = some x := by rfl) (hx : Loc X.env.scope x := by first | exact Or.inl rfl | exact Or.inr rfl) (hf : X.fn x = true ∨ X.env.scope.names.lookup x = some .local := by first | exact .inl rfl | exact .inr rfl)
    (hs : (assignEach (.Name x pos :: es) X.env).map (·.2) = assign (.Name x pos) X.env :: (assignEach es X.env).map (·.2) := by rfl) : PGs X (.Name x pos :: es) (gAll (i :: is)) := pgs_cons (pg_name hN hi hx hf) h hs
theorem g_nm {i : Nat} {x : Str} (hN : X.N.Nodup) (hi : X.N[i]? = some x := by rfl) (hx : Loc X.env.scope x := by first | exact Or.inl rfl | exact Or.inr rfl) (hf : X.fn x = true ∨ X.env.scope.names.lookup x = some .local := by first | exact .inl rfl | exact .inr rfl) : PG X (.Name x pos) (gName i) := pg_name hN hi hx hf
theorem g_tp {ts : List Expr} {is : List Nat} {k : Nat} (hc : X.calm = true) (hg : PGs X ts (gAll is)) (hn : (assignEach ts X.env).length = is.length := by rfl) (hst : (assignEach ts X.env).findIdx? (·.1) = none := by rfl) : PG X (.Tuple ts k pos) (gTup X.K is.length (gAll is)) := pg_tup hc hg hn hst
theorem s_for {tg iter : Expr} {body : List Stmt} {t : Tg} {src : IR} {b : S} {g : TG} (hp : PassesOwn (model X.prog X.w) X.A X.env X.xe) (hc : X.calm = true) (ht : TgOk X.K bo g t) (hi : PI X tg iter (toTI X.K xa Z (evR cl src))) (hg : PG X tg g)
    (hb : PSs X body (toTS X.K xa Z bo (evS cl bo b))) (hs : ∀ x, foldedSetIterable iter X.env x = pure x := by intro _; rfl) (hl : t.slots.all (fun i => decide (i < X.N.length)) = true := by rfl) : PS X (.For tg iter body [] pos) (toTS X.K xa Z bo (evS cl bo (.for_ t src b))) := ds_for hp hc hi hg ht (slots_lt hl) hb hs
theorem s_par2 {i j : Nat} {x y : Str} {a b : Expr} {xs : IEs} {px py pt : Pos} {kt k2 pt2} (hc : X.calm = true) (hN : X.N.Nodup) (ha : PA X [a, b] (toTW X.K xa Z (evWs cl xs))) (hi : X.N[i]? = some x := by rfl) (hj : X.N[j]? = some y := by rfl) (hij : i ≠ j := by decide)
    (hx : X.env.scope.names.lookup x = some .local := by rfl) (hy : X.env.scope.names.lookup y = some .local := by rfl)
    (hw : swappedStores [.Tuple [.Name x px, .Name y py] kt pt] (.Tuple [a, b] k2 pt2) X.env = pure (some [x, y]) := by rfl)
    (hs : swapsWithSole [.Tuple [.Name x px, .Name y py] kt pt] (.Tuple [a, b] k2 pt2) pos.line X.env = pure false := by rfl) :
    PS X (.Assign [.Tuple [.Name x px, .Name y py] kt pt] (.Tuple [a, b] k2 pt2) pos) (toTS X.K xa Z bo (evS cl bo (.par [i, j] xs))) := ds_par2 hc hN hi hj hij hx hy ha hw hs
theorem s_par3 {i j l : Nat} {x y z : Str} {a b c : Expr} {xs : IEs} {px py pz pt : Pos} {kt k2 pt2} (hc : X.calm = true) (hN : X.N.Nodup) (ha : PA X [a, b, c] (toTW X.K xa Z (evWs cl xs))) (hi : X.N[i]? = some x := by rfl) (hj : X.N[j]? = some y := by rfl) (hk : X.N[l]? = some z := by rfl) (hij : i ≠ j := by decide) (hil : i ≠ l := by decide) (hjl : j ≠ l := by decide)
    (hx : X.env.scope.names.lookup x = some .local := by rfl) (hy : X.env.scope.names.lookup y = some .local := by rfl) (hz : X.env.scope.names.lookup z = some .local := by rfl)
    (hw : swappedStores [.Tuple [.Name x px, .Name y py, .Name z pz] kt pt] (.Tuple [a, b, c] k2 pt2) X.env = pure (some [x, y, z]) := by rfl)
    (hs : swapsWithSole [.Tuple [.Name x px, .Name y py, .Name z pz] kt pt] (.Tuple [a, b, c] k2 pt2) pos.line X.env = pure false := by rfl) :
    PS X (.Assign [.Tuple [.Name x px, .Name y py, .Name z pz] kt pt] (.Tuple [a, b, c] k2 pt2) pos) (toTS X.K xa Z bo (evS cl bo (.par [i, j, l] xs))) := ds_par3 hc hN hi hj hk hij hil hjl hx hy hz ha hw hs
theorem s_app {e o : Expr} {i : Nat} {x : IE} {apos cpos : Pos} (ho : PE X o (tVar i)) (he : PE X e (toTE X.K xa Z (ev cl x))) (hst : starEach [e] X.env = (false, eval e X.env) :: starEach [] X.env := by rfl)
    (hbase : attributeBase o "append" X.env (eval o X.env) = eval o X.env := by rfl)
    (hfew : ((backTo cpos (starEach [e] X.env)).all (fun x => !x.1) && (backToKw cpos (keywordEach [] X.env)).all (fun x => x.1.isSome) && decide ([e].length + ([] : List Keyword).length + (if ([] : List Keyword).isEmpty then 0 else 1) < 30)) = true := by rfl)
    (hline : (apos.endLine == cpos.line) = true := by rfl) (hplain : (backTo cpos (starEach [] X.env)).any (·.1) = false := by rfl) (hs : swapsWith (.Call (.Attribute o "append" apos) [e] [] cpos) none pos.line X.env = pure false := by rfl) :
    PS X (.Expr (.Call (.Attribute o "append" apos) [e] [] cpos) pos) (toTS X.K xa Z bo (evS cl bo (.app i x))) := ds_app ho he hst hbase hfew hline hplain hs
theorem s_put {e o k : Expr} {i : Nat} {y z : IE} {spos : Pos} (ho : PE X o (tVar i)) (hk : PE X k (toTE X.K xa Z (ev cl y))) (he : PE X e (toTE X.K xa Z (ev cl z)))
    (ha : ∀ v, assign (.Subscript o k spos) X.env v = (do
      let ov ← holding [v] (eval o X.env)
      let iv ← holding [v, ov] (eval k X.env)
      standAt spos
      holding [v, ov, iv] (setItem ov iv v)
      release [v, ov, iv] []) := by intro _; rfl) (hs : swapsWithSole [.Subscript o k spos] e pos.line X.env = pure false := by rfl) (hw : swappedStores [.Subscript o k spos] e X.env = pure none := by rfl)
    (h1 : (assignEach [.Subscript o k spos] X.env).map (·.2) = [assign (.Subscript o k spos) X.env] := by rfl) :
    PS X (.Assign [.Subscript o k spos] e pos) (toTS X.K xa Z bo (evS cl bo (.put i y z))) := ds_put ho hk he ha hs hw h1
end
end Sf

end

section
set_option maxRecDepth 100000
set_option maxHeartbeats 1000000
/-! Sf: xs.index(x), xs.pop(i), sorted(xs) of pairs. -/
namespace Sf
open PySem PySem.Spec PyProof.Rows L2
variable [WorldI]
section
variable {X : Cx} {xa : Nat → Addr} {Z : WX} {bo : List Bool} {cl : Nat → List W → CRes}

/-! ### sorted pairs -/
theorem ltP2_eq (p q : Int × Int) : ltP2 p q = SrtO.lexB p q := rfl
theorem insP_perm (x : Int × Int) : ∀ l, (insP x l).Perm (x :: l)
  | [] => List.Perm.refl _
  | y :: r => by
    unfold insP
    split
    · exact ((insP_perm x r).cons y).trans (List.Perm.swap x y r)
    · exact List.Perm.refl _
theorem sortP_perm : ∀ l, (sortP l).Perm l
  | [] => List.Perm.refl _
  | x :: r => (insP_perm x (sortP r)).trans ((sortP_perm r).cons x)
def LeP (p q : Int × Int) : Prop := p.1 < q.1 ∨ (p.1 = q.1 ∧ p.2 ≤ q.2)
theorem insP_sorted (x : Int × Int) : ∀ l, l.Pairwise LeP → (insP x l).Pairwise LeP
  | [], _ => by simp [insP]
  | y :: r, h => by
    obtain ⟨h1, h2⟩ := List.pairwise_cons.mp h
    unfold insP
    split
    · rename_i q
      rw [ltP2_eq, SrtO.lexB_iff] at q
      refine List.pairwise_cons.mpr ⟨fun z hz => ?_, insP_sorted x r h2⟩
      rcases List.mem_cons.mp ((insP_perm x r).mem_iff.mp hz) with rfl | hz
      · rcases q with q | ⟨q, q2⟩
        · exact .inl q
        · exact .inr ⟨q, by omega⟩
      · exact h1 z hz
    · rename_i q
      have le : LeP x y := by
        rw [ltP2_eq, SrtO.lexB_iff] at q
        unfold LeP
        omega
      refine List.pairwise_cons.mpr ⟨fun z hz => ?_, h⟩
      rcases List.mem_cons.mp hz with rfl | hz
      · exact le
      · have := h1 z hz
        unfold LeP at *
        omega
theorem sortP_sorted : ∀ l, (sortP l).Pairwise LeP
  | [] => List.Pairwise.nil
  | x :: r => insP_sorted x _ (sortP_sorted r)
theorem LeP_anti {p q : Int × Int} (h : LeP p q) (k : LeP q p) : p = q := by
  unfold LeP at *
  exact Prod.ext (by omega) (by omega)
theorem perm_unique : ∀ {l m : List (Int × Int)}, l.Pairwise LeP → m.Pairwise LeP → l.Perm m → l = m
  | [], m, _, _, p => (List.nil_perm.mp p).symm
  | x :: l, [], _, _, p => by
    have := p.length_eq
    simp at this
  | x :: l, y :: m, hl, hm, p => by
    obtain ⟨a1, a2⟩ := List.pairwise_cons.mp hl
    obtain ⟨b1, b2⟩ := List.pairwise_cons.mp hm
    have e : x = y := by
      rcases List.mem_cons.mp (p.mem_iff.mp (List.mem_cons_self ..)) with e | hx
      · exact e
      · rcases List.mem_cons.mp (p.mem_iff.mpr (List.mem_cons_self ..)) with e | hy
        · exact e.symm
        · exact LeP_anti (a1 y hy) (b1 x hx)
    subst e
    rw [perm_unique a2 b2 p.cons_inv]
/-- what a value is as a pair -/
def kOf (H : Hp) (x : V) : Int × Int := match x with
  | .ref t => (match H t with
    | some (.tup [.int i, .int j]) => (i, j)
    | _ => (0, 0))
  | _ => (0, 0)
theorem pairs_of {F H : Hp} (l : Le F H) : ∀ {xs : List V} {ds : List D} {ps : List (Int × Int)}, RFs F xs ds → pairs? ds = some ps → xs.map (kOf H) = ps ∧ ∀ x ∈ xs, (∃ t, x = V.ref t ∧ H t = some (.tup [.int (kOf H x).1, .int (kOf H x).2])) ∧ RF F x (pairD (kOf H x))
  | _, _, ps, .nil, h => by
    cases h
    exact ⟨rfl, fun x hx => by cases hx⟩
  | _, _, ps, .cons (v := v) (d := d) r rs, h => by
    cases d with
    | tuple es =>
      match es, r, h with
      | [.int i, .int j], r, h =>
        obtain ⟨qs, e, rfl⟩ := map_some' (show (pairs? _).map ((i, j) :: ·) = some ps from h)
        obtain ⟨h1, h2⟩ := pairs_of l rs e
        have r0 := r
        cases r with
        | tup a z b =>
          rename_i t vs
          cases b with
          | cons b1 b2 =>
            cases b2 with
            | cons b3 b4 =>
              cases b4
              cases b1
              cases b3
              have ht := l _ _ a
              have ek : kOf H (.ref t) = (i, j) := by
                simp only [kOf, ht]
              refine ⟨by rw [List.map_cons, h1, ek], fun x hx => ?_⟩
              rcases List.mem_cons.mp hx with rfl | hx
              · rw [ek]
                exact ⟨⟨t, rfl, ht⟩, r0⟩
              · exact h2 x hx
      | [], _, h => simp [pairs?] at h
      | [_], _, h => simp [pairs?] at h
      | _ :: _ :: _ :: _, _, h => simp [pairs?] at h
    | _ => cases h
theorem rfs_map {F : Hp} {f : V → D} : ∀ {xs : List V}, (∀ x ∈ xs, RF F x (f x)) → RFs F xs (xs.map f)
  | [], _ => .nil
  | x :: xs, h => .cons (h x (List.mem_cons_self ..)) (rfs_map fun y hy => h y (List.mem_cons_of_mem _ hy))
theorem o1_psort : CallR X (.builtin "sorted") (rO1 X.K .psort) := by
  intro pins s σ H xs us Q I rx h
  obtain ⟨F, w, y, r, rfl, l, rw1, h1, k⟩ := h
  obtain ⟨ds, a, h2⟩ := bind_some' (show (w.lst?.bind fun ds => (pairs? ds).map fun ps => W.ol ((sortP ps).map pairD)) = some r from h1)
  obtain ⟨ps, b, rfl⟩ := map_some' h2
  obtain ⟨p, zs, rfl, h3, hz, h4⟩ := lst_of l rw1 a
  obtain ⟨e1, e2⟩ := pairs_of l h4 b
  refine cr_sortedPO pins s σ H _ us Q I rx ⟨p, zs, kOf H, rfl, SqL.of h3, fun x hx => (e2 x hx).1, fun ys q hs hp hq => ?_⟩
  have pm : ys.Perm zs := hp.perm
  have so : (ys.map (kOf H)).Pairwise LeP := by
    refine List.pairwise_map.mpr (hs.imp fun {u v} h => ?_)
    have := SrtO.lexB_no.mp h
    unfold LeP
    omega
  have ee : ys.map (kOf H) = sortP ps := perm_unique so (sortP_sorted ps) ((pm.map (kOf H)).trans (by rw [e1]; exact (sortP_perm ps).symm))
  rw [← ee, List.map_map] at k
  refine k.lst l ?_ (rfs_map (f := pairD ∘ kOf H) fun x hx => (e2 x (pm.mem_iff.mp hx)).2) hq
  rw [List.length_map, pm.length_eq, ← h4.len] at *
  exact hz

/-! ### xs.index(x) -/
theorem RFs.getD {F : Hp} {d : D} : ∀ {xs : List V} {ds : List D} (j : Nat), RFs F xs ds → ds[j]? = some d → ∃ v, xs[j]? = some v ∧ RF F v d
  | _, _, j, .nil, h => by simp at h
  | _, _, 0, .cons (v := v) a _, h => by
    simp only [List.getElem?_cons_zero, Option.some.injEq] at h
    subst h
    exact ⟨v, rfl, a⟩
  | _, _, j + 1, .cons a b, h => by
    simp only [List.getElem?_cons_succ] at h ⊢
    exact RFs.getD j b h
theorem RFs.getW {F : Hp} {v : V} : ∀ {xs : List V} {ds : List D} (j : Nat), RFs F xs ds → xs[j]? = some v → ∃ d, ds[j]? = some d ∧ RF F v d
  | _, _, j, .nil, h => by simp at h
  | _, _, 0, .cons (d := d) a _, h => by
    simp only [List.getElem?_cons_zero, Option.some.injEq] at h
    subst h
    exact ⟨d, rfl, a⟩
  | _, _, j + 1, .cons a b, h => by
    simp only [List.getElem?_cons_succ] at h ⊢
    exact RFs.getW j b h
theorem if_some2 {c : Prop} [Decidable c] {α : Type} {o : Option α} {r : α} (h : (if c then o else none) = some r) : c ∧ o = some r := by
  split at h
  · rename_i q
    exact ⟨q, h⟩
  · cases h
theorem tseq_lst {w : W} {ds : List D} (h : w.tseq? false = some ds) : w.lst? = some ds := by
  cases w with
  | fz d =>
    cases d with
    | list es => exact h
    | _ => cases h
  | ol es => exact h
  | lk es => exact h
  | _ => cases h
theorem de_lidx {o e : Expr} {a : IA} {k : IE} {apos cpos : Pos} (ho : PE X o (toTA X.K xa Z (evA cl a))) (he : PE X e (toTE X.K xa Z (ev cl k))) (hst : starEach [e] X.env = (false, eval e X.env) :: starEach [] X.env)
    (hbase : attributeBase o "index" X.env (eval o X.env) = eval o X.env)
    (hfew : ((backTo cpos (starEach [e] X.env)).all (fun x => !x.1) && (backToKw cpos (keywordEach [] X.env)).all (fun x => x.1.isSome) && decide ([e].length + ([] : List Keyword).length + (if ([] : List Keyword).isEmpty then 0 else 1) < 30)) = true)
    (hline : (apos.endLine == cpos.line) = true) (hplain : (backTo cpos (starEach [] X.env)).any (·.1) = false) :
    PE X (.Call (.Attribute o "index" apos) [e] [] cpos) (toTE X.K xa Z (ev cl (.lidx false a k))) := by
  refine pe_imp (pe_bm PySem.F.plainAttrs_list PySem.F.slot_list_index PySem.F.type_list_index mt_index ho (pa_cons he pa_nil hst) hbase hfew hline hst hplain) fun σ H Q ⟨F, E, S, p⟩ => ?_
  unfold ev at p
  refine ⟨F, E, S, (Post.bind_ p).mono fun x E1 F1 H1 _ S1 x1 p2 v rv => ?_⟩
  obtain ⟨ds0, e1, p3⟩ := Post.lift_ (Post.bind_ p2)
  obtain ⟨ws, e2, e3⟩ := bind_some' e1
  obtain ⟨w0, rfl⟩ := resolve_one e2
  obtain ⟨l0, xs0, rfl, h0, _, _⟩ := lst_of S1.le (rv.use S1 e2) (tseq_lst e3)
  refine ⟨.inl ⟨rfl, xs0, SqL.of h0⟩, F1, E1, S1, (Post.bind_ (p3 F1 H1 S1 (Ext.refl ..))).mono fun u E3 F3 H3 _ S3 x3 p5 v5 r5 => ?_⟩
  obtain ⟨r, e4, p6⟩ := Post.lift_ p5
  obtain ⟨ws3, e5, e6⟩ := bind_some' e4
  obtain ⟨w3, rfl⟩ := resolve_one e5
  obtain ⟨d, e7, e8⟩ := bind_some' (show (u.look.bind fun d => lidxW false w3 d) = some r from e6)
  obtain ⟨ds, e9, e10⟩ := bind_some' (show ((w3.tseq? false).bind fun ds => if flatD d && ds.all flatD then (ds.findIdx? fun y => PyData.eqv y d).map fun j => W.fz (.int (j : Nat)) else none) = some r from e8)
  obtain ⟨c, e11⟩ := if_some2 e10
  obtain ⟨j, e12, rfl⟩ := map_some' e11
  rw [Bool.and_eq_true] at c
  obtain ⟨l3, xs, er, h3, hz, rs⟩ := lst_of S3.le ((rv.carry x3).use S3 e5) (tseq_lst e9)
  have rd : RF F3 v5 d := lk_flat (lk_of S3.le r5.1 e7) c.1
  obtain ⟨hj, c1, c2⟩ := List.findIdx?_eq_some_iff_getElem.mp e12
  obtain ⟨z, hz1, hz2⟩ := rs.getD j (List.getElem?_eq_getElem hj)
  have ff := List.all_eq_true.mp c.2
  refine ⟨l3, xs, v5, j, z, er, rfl, SqL.of h3, flat_V rd c.1, flat_Vs rs c.2, hz1, ?_, fun m z' hm hz' => ?_, ?_⟩
  · rw [eqv_V hz2 rd (ff _ (List.getElem_mem hj)) c.1]
    exact c1
  · obtain ⟨d', q1, q2⟩ := rs.getW m hz'
    obtain ⟨lm, em⟩ := List.getElem?_eq_some_iff.mp q1
    rw [eqv_V q2 rd (ff _ (em ▸ List.getElem_mem lm)) c.1, ← em]
    exact Bool.eq_false_iff.mpr (c2 m hm)
  · exact (K1.of_post S3 (fun b z => x3.thr b (x1.thr b z)) p6).val S3.le (.int _)

theorem de_lidxD {o e : Expr} {a : IA} {k : IE} {apos cpos : Pos} (ho : PE X o (toTA X.K xa Z (evA cl a))) (he : PE X e (toTE X.K xa Z (ev cl k))) (hst : starEach [e] X.env = (false, eval e X.env) :: starEach [] X.env)
    (hbase : attributeBase o "index" X.env (eval o X.env) = eval o X.env)
    (hfew : ((backTo cpos (starEach [e] X.env)).all (fun x => !x.1) && (backToKw cpos (keywordEach [] X.env)).all (fun x => x.1.isSome) && decide ([e].length + ([] : List Keyword).length + (if ([] : List Keyword).isEmpty then 0 else 1) < 30)) = true)
    (hu : X.A.units + 66 < cLine) (hline : (apos.endLine == cpos.line) = true) (hplain : (backTo cpos (starEach [] X.env)).any (·.1) = false) :
    PE X (.Call (.Attribute o "index" apos) [e] [] cpos) (toTE X.K xa Z (ev cl (.lidxD a k))) := by
  refine pe_imp (pe_bm PySem.F.plainAttrs_list PySem.F.slot_list_index PySem.F.type_list_index (mt_indexD (by omega)) ho (pa_cons he pa_nil hst) hbase hfew hline hst hplain) fun σ H Q ⟨F, E, S, p⟩ => ?_
  unfold ev at p
  refine ⟨F, E, S, (Post.bind_ p).mono fun x E1 F1 H1 _ S1 x1 p2 v rv => ?_⟩
  obtain ⟨ds0, e1, p3⟩ := Post.lift_ (Post.bind_ p2)
  obtain ⟨ws, e2, e3⟩ := bind_some' e1
  obtain ⟨w0, rfl⟩ := resolve_one e2
  obtain ⟨l0, xs0, rfl, h0, _, _⟩ := lst_of S1.le (rv.use S1 e2) (tseq_lst e3)
  refine ⟨.inl ⟨rfl, xs0, SqL.of h0⟩, F1, E1, S1, (Post.bind_ (p3 F1 H1 S1 (Ext.refl ..))).mono fun u E3 F3 H3 _ S3 x3 p5 v5 r5 => ?_⟩
  obtain ⟨r, e4, p6⟩ := Post.lift_ p5
  obtain ⟨ws3, e5, e6⟩ := bind_some' e4
  obtain ⟨w3, rfl⟩ := resolve_one e5
  obtain ⟨d, e7, e8⟩ := bind_some' (show (u.look.bind fun d => lidxDW w3 d) = some r from e6)
  obtain ⟨ds, e9, e10⟩ := bind_some' (show ((w3.tseq? false).bind fun ds => if SeqAt.shaped d && SeqAt.shaped (.list ds) then (ds.findIdx? fun y => PyData.eqv y d).map fun j => W.fz (.int (j : Nat)) else none) = some r from e8)
  obtain ⟨c, e11⟩ := if_some2 e10
  obtain ⟨j, e12, rfl⟩ := map_some' e11
  rw [Bool.and_eq_true] at c
  have lw3 := (rv.carry x3).use S3 e5
  have lz : w3.look = some (.list ds) := by
    cases w3 with
    | fz f => cases f <;> first | (cases e9; rfl) | cases e9
    | ol _ => cases e9; rfl
    | lk _ => cases e9; rfl
    | _ => cases e9
  have l1 := lk_of S3.le lw3 lz
  obtain ⟨l3, xs, er, h3, hz, rs⟩ := lst_of S3.le lw3 (tseq_lst e9)
  cases er
  have rd := (lk_of S3.le r5.1 e7).dp (K := X.K) S3.le (shaped_noDict c.1)
  obtain ⟨hj, c1, c2⟩ := List.findIdx?_eq_some_iff_getElem.mp e12
  refine ⟨_, v5, d, ds, j, ds[j], rfl, rfl, l1.dp S3.le (shaped_noDict c.2), rd, c.2, c.1, List.getElem?_eq_getElem hj, c1, fun m z' hm hz' => ?_, ?_⟩
  · obtain ⟨lm, em⟩ := List.getElem?_eq_some_iff.mp hz'
    rw [← em]
    exact Bool.eq_false_iff.mpr (c2 m hm)
  · exact (K1.of_post S3 (fun b z => x3.thr b (x1.thr b z)) p6).val S3.le (.int _)

/-! ### xs.pop(i) -/
theorem RFs.erase {F : Hp} : ∀ {xs : List V} {ds : List D} (n : Nat), RFs F xs ds → RFs F (xs.eraseIdx n) (ds.eraseIdx n)
  | _, _, n, .nil => by
    simp only [List.eraseIdx_nil]
    exact .nil
  | _, _, 0, .cons _ b => b
  | _, _, n + 1, .cons a b => .cons a (RFs.erase n b)
theorem de_pop {o e : Expr} {i : Nat} {k : IE} {apos cpos : Pos} (ho : PE X o (tVar i)) (he : PE X e (toTE X.K xa Z (ev cl k))) (hst : starEach [e] X.env = (false, eval e X.env) :: starEach [] X.env)
    (hbase : attributeBase o "pop" X.env (eval o X.env) = eval o X.env)
    (hfew : ((backTo cpos (starEach [e] X.env)).all (fun x => !x.1) && (backToKw cpos (keywordEach [] X.env)).all (fun x => x.1.isSome) && decide ([e].length + ([] : List Keyword).length + (if ([] : List Keyword).isEmpty then 0 else 1) < 30)) = true)
    (hline : (apos.endLine == cpos.line) = true) (hplain : (backTo cpos (starEach [] X.env)).any (·.1) = false) :
    PE X (.Call (.Attribute o "pop" apos) [e] [] cpos) (toTE X.K xa Z (ev cl (.pop i k))) := by
  refine pe_imp (pe_bm PySem.F.plainAttrs_list PySem.F.slot_list_pop PySem.F.type_list_pop mt_popAt ho (pa_cons he pa_nil hst) hbase hfew hline hst hplain) fun σ H Q ⟨F, E, S, p⟩ => ?_
  unfold ev at p
  cases g : getS E i with
  | none =>
    rw [g] at p
    exact p.elim
  | some w0 =>
    rw [g] at p
    cases w0 with
    | ol ds0 =>
      obtain ⟨v0, s0, a, xs, rfl, h0, _, _⟩ := S.val g
      have p1 : Post X.K xa Z ((ev cl k E).bind fun u E1 => match u, getS E1 i with
        | .fz (.int j), some (.ol ds) => (match L2.ixN ds.length j with
          | some m => (match ds[m]? with
            | some d => Res.ok (W.fz d) (setS E1 i (.ol (ds.eraseIdx m)))
            | none => .stuck)
          | none => .stuck)
        | _, _ => .stuck) F H E σ (fun w E' F' H' => ∀ v, Rs X.K F' H' H E' σ w v → Q v H') := p
      refine ⟨_, s0, .inl ⟨rfl, xs, SqL.of h0⟩, F, E, S, (Post.bind_ p1).mono fun u E1 F1 H1 _ S1 x1 p2 v r => ?_⟩
      cases u with
      | fz du =>
        cases du with
        | int j =>
          cases g1 : getS E1 i with
          | none =>
            rw [g1] at p2
            exact p2.elim
          | some w1 =>
            rw [g1] at p2
            cases w1 with
            | ol ds =>
              have p3 : Post X.K xa Z (match L2.ixN ds.length j with
                | some m => (match ds[m]? with
                  | some d => Res.ok (W.fz d) (setS E1 i (.ol (ds.eraseIdx m)))
                  | none => .stuck)
                | none => .stuck) F1 H1 E1 σ (fun w E' F' H' => ∀ v, Rs X.K F' H' H E' σ w v → Q v H') := p2
              cases q : L2.ixN ds.length j with
              | none =>
                rw [q] at p3
                exact p3.elim
              | some m =>
                rw [q] at p3
                cases q2 : ds[m]? with
                | none =>
                  simp only [q2] at p3
                  exact p3.elim
                | some d =>
                  simp only [q2] at p3
                  obtain ⟨a2, ys, s, h2, rr, hz⟩ := own_ahead S1 (getS_at g1)
                  rw [s0] at s
                  cases s
                  have rj : RF F1 v (.int j) := r.1
                  cases rj
                  obtain ⟨y, hy, ry⟩ := rr.getD m q2
                  obtain ⟨S3, x3⟩ := S1.write (getS_at g1) s0 (es := ds.eraseIdx m) (Nat.le_trans (List.length_eraseIdx_le ..) hz) (rr.erase m)
                  have ix := ixN_seq q
                  refine ⟨a, ys, j, m, y, rfl, rfl, h2, ?_, ?_, ?_, hy, ?_⟩
                  · have := ix.2.2.1
                    unfold lineN at hz
                    omega
                  · have := ix.2.2.2
                    unfold lineN at hz
                    omega
                  · rw [rr.len]
                    exact ix.1
                  · exact p3 F1 _ S3 x3 y ⟨ry, fun o => nomatch o⟩
            | _ => exact p2.elim
        | _ => exact p2.elim
      | _ => exact p2.elim
    | _ => exact p.elim

/-! ### as a printer of proofs uses them -/
theorem u_psort {a' : Expr} {a : IA} {pos p : Pos} (hm : X.mg "sorted" = none) (ha : PE X a' (toTA X.K xa Z (evA cl a))) (hg : Gl X "sorted" := by rfl) (hst : starEach [a'] X.env = (false, eval a' X.env) :: starEach [] X.env := by rfl) : PE X (.Call (.Name "sorted" p) [a'] [] pos) (toTE X.K xa Z (ev cl (.o1 .psort a))) := u_bi o1_psort (by decide +kernel) (by decide) (by decide) hg hm ha hst
theorem v_lidx {o e : Expr} {a : IA} {k : IE} {apos cpos : Pos} (ho : PE X o (toTA X.K xa Z (evA cl a))) (he : PE X e (toTE X.K xa Z (ev cl k))) (hst : starEach [e] X.env = (false, eval e X.env) :: starEach [] X.env := by rfl)
    (hbase : attributeBase o "index" X.env (eval o X.env) = eval o X.env := by rfl)
    (hfew : ((backTo cpos (starEach [e] X.env)).all (fun x => !x.1) && (backToKw cpos (keywordEach [] X.env)).all (fun x => x.1.isSome) && decide ([e].length + ([] : List Keyword).length + (if ([] : List Keyword).isEmpty then 0 else 1) < 30)) = true := by rfl)
    (hline : (apos.endLine == cpos.line) = true := by rfl) (hplain : (backTo cpos (starEach [] X.env)).any (·.1) = false := by rfl) :
    PE X (.Call (.Attribute o "index" apos) [e] [] cpos) (toTE X.K xa Z (ev cl (.lidx false a k))) := de_lidx ho he hst hbase hfew hline hplain
theorem v_lidxD {o e : Expr} {a : IA} {k : IE} {apos cpos : Pos} (hu : X.A.units + 66 < cLine) (ho : PE X o (toTA X.K xa Z (evA cl a))) (he : PE X e (toTE X.K xa Z (ev cl k))) (hst : starEach [e] X.env = (false, eval e X.env) :: starEach [] X.env := by rfl)
    (hbase : attributeBase o "index" X.env (eval o X.env) = eval o X.env := by rfl)
    (hfew : ((backTo cpos (starEach [e] X.env)).all (fun x => !x.1) && (backToKw cpos (keywordEach [] X.env)).all (fun x => x.1.isSome) && decide ([e].length + ([] : List Keyword).length + (if ([] : List Keyword).isEmpty then 0 else 1) < 30)) = true := by rfl)
    (hline : (apos.endLine == cpos.line) = true := by rfl) (hplain : (backTo cpos (starEach [] X.env)).any (·.1) = false := by rfl) :
    PE X (.Call (.Attribute o "index" apos) [e] [] cpos) (toTE X.K xa Z (ev cl (.lidxD a k))) := de_lidxD ho he hst hbase hfew hu hline hplain
theorem v_pop {o e : Expr} {i : Nat} {k : IE} {apos cpos : Pos} (ho : PE X o (tVar i)) (he : PE X e (toTE X.K xa Z (ev cl k))) (hst : starEach [e] X.env = (false, eval e X.env) :: starEach [] X.env := by rfl)
    (hbase : attributeBase o "pop" X.env (eval o X.env) = eval o X.env := by rfl)
    (hfew : ((backTo cpos (starEach [e] X.env)).all (fun x => !x.1) && (backToKw cpos (keywordEach [] X.env)).all (fun x => x.1.isSome) && decide ([e].length + ([] : List Keyword).length + (if ([] : List Keyword).isEmpty then 0 else 1) < 30)) = true := by rfl)
    (hline : (apos.endLine == cpos.line) = true := by rfl) (hplain : (backTo cpos (starEach [] X.env)).any (·.1) = false := by rfl) :
    PE X (.Call (.Attribute o "pop" apos) [e] [] cpos) (toTE X.K xa Z (ev cl (.pop i k))) := de_pop ho he hst hbase hfew hline hplain
end
end Sf

end

section
set_option maxRecDepth 100000
set_option maxHeartbeats 1000000
/-! Sf: raise and try of the program's own exception classes. -/
namespace Sf
open PySem PySem.Spec PyProof.Rows L2
/-- an exception class of the program -/
structure ExC (K : PySem.W.Frag) (mg : Str → Option Value) (xa : Nat → Addr) (i : Nat) (x : Str) : Prop where
  e : PySem.W.excIn K (xa i) He.veBase "ValueError.__new__" = true
  k : PySem.W.keepIn K (.ref (xa i)) = true
  b : PySem.W.subIn K (.ref (xa i)) (.type "BaseException") = some true
  t : PySem.W.typeIn K (.ref (xa i)) = some (.type "type")
  m : mg x = some (.ref (xa i))
section
variable [WorldI] {X : Cx} {xa : Nat → Addr} {Z : WX} {cl : Nat → List W → CRes} {bo : List Bool} {pos pos' : Pos}
theorem s_raise {i : Nat} {x m : Str} {j : Nat} {p p2 p3 : Pos} (c : ExC X.K X.mg xa i x) (hc : X.calm = true) (tk : Takes X Z) (hg : Gl X x := by rfl) (hdb : (x == ("__debug__" : Str)) = false := by decide) :
    PS X (.Raise (some (.Call (.Name x p) [.Constant (.str m) j p2] [] p3)) none pos) (toTS X.K xa Z bo (evS cl bo (.raise i))) :=
  ps_imp (ps_raise hc tk (pmk_own PySem.F.excBase_ValueError c.e c.m c.k (raises_own c.b c.t) hg hdb)) fun D σ H ⟨F, E, S, p⟩ => by
    unfold evS at p
    exact (p F H σ S XS.refl).2
theorem PostS.calm {K : PySem.W.Frag} {F H : Hp} {E : Sto} {σ : L2.St} {D : Ends} {r : Res Fl} {Z Z' : WX} (h : PostS K xa Z bo r.noX F H E σ D) : PostS K xa Z' bo r F H E σ D := by
  cases r with
  | stuck => exact h.elim
  | exc c E' => exact h.elim
  | ok fl E' => exact h
theorem s_try {i : Nat} {x : Str} {body suite : List Stmt} {b₀ : Stmt} {np : Pos} {b s : S} {hits misses : List Nat} (hs : X.stack = X.env :: X.outer) (hf : X.env.frame = some X.env.locals) (c : ExC X.K X.mg xa i x) (tk : Takes X Z)
    (h1 : ∀ n ∈ hits, PySem.W.exmOne X.K (.ref (xa n)) (.ref (xa i)) = some true) (h2 : ∀ n ∈ misses, PySem.W.exmOne X.K (.ref (xa n)) (.ref (xa i)) = some false)
    (hb : ∀ (W : WX) (pn : List (Addr × Obj)) (xe : Value → Shared → Prop), Takes (X.tr pn xe) W → PassesOwn (model X.prog X.w) X.A X.env xe → PSs (X.tr pn xe) body (toTS X.K xa W bo (evS cl bo b)))
    (hsu : ∀ (a : Addr) (oe : Obj) (pn : List (Addr × Obj)), PSs (X.suite a ((a, oe) :: pn)) (b₀ :: suite) (toTS X.K xa Z0 bo (evS cl bo s))) (hg : Gl X x := by rfl) (hdb : (x == ("__debug__" : Str)) = false := by decide) :
    PS X (.Try body [.ExceptHandler (some (.Name x np)) none (b₀ :: suite) pos'] [] [] pos) (toTS X.K xa Z bo (evS cl bo (.tryx b hits misses s))) :=
  ps_imp (ps_try_only hs hf ⟨hg, hdb, .inl c.m⟩ tk (tb := fun W => toTS X.K xa W bo (evS cl bo b)) (ts := fun _ _ _ => toTS X.K xa Z0 bo (evS cl bo s)) hb fun a oe _ _ pn _ _ => hsu a oe pn) fun D σ H ⟨F, E, S, p⟩ => by
    refine ⟨F, E, S, ?_⟩
    unfold evS at p
    cases q : evS cl bo b E with
    | stuck =>
      rw [q] at p
      exact p.elim
    | ok fl E' =>
      rw [q] at p
      exact p
    | exc e E' =>
      rw [q] at p
      simp only at p
      intro F' H' σ' S' x'
      by_cases g : (hits.contains e.cls && e.flds.isEmpty) = true
      · rw [if_pos g] at p
        obtain ⟨g1, g2⟩ := Bool.and_eq_true_iff.mp g
        exact ⟨List.isEmpty_iff.mp g2, true, h1 _ (List.contains_iff_mem.mp g1), fun _ a _ => ⟨F', E', S', (p.calm (Z' := Z0)).rebase x'⟩, (fun z => nomatch z)⟩
      · rw [if_neg g] at p
        by_cases g : (misses.contains e.cls && e.flds.isEmpty) = true
        · rw [if_pos g] at p
          obtain ⟨g1, g2⟩ := Bool.and_eq_true_iff.mp g
          exact ⟨List.isEmpty_iff.mp g2, false, h2 _ (List.contains_iff_mem.mp g1), (fun z => nomatch z), fun _ => (p F' H' σ' S' x').2⟩
        · rw [if_neg g] at p
          exact p.elim
end
end Sf

end

section
set_option maxRecDepth 100000
set_option maxHeartbeats 1000000
/-! Sf: xs[k] += e. -/
namespace Sf
open PySem PySem.Spec PyProof.Rows L2
section
variable {X : Cx}
theorem get_list : PGet X (rIxL X.K) := by
  intro pins s σ H o i ov iv Q I ro ri h
  obtain ⟨p, xs, k, z, rfl, rfl, hq, he, q⟩ := h
  cases ro
  obtain ⟨t, rfl⟩ := ri
  obtain ⟨its, r, pl, hz⟩ := I.list hq
  obtain ⟨j, h1, h2, h3, h4, h5⟩ := atI_get he
  obtain ⟨w, ew, rw'⟩ := r.get h2
  have hl := r.length
  have hn := line63
  have fin : EP X pins σ Q w s := ⟨z, H, I, rw', q⟩
  by_cases h0 : 0 ≤ k
  · have hj : k.toNat = j := by
      rw [seqIndex_of h0 h5] at h1
      exact Option.some.inj h1
    exact wpAny_getItem_list pl.isList h0 (by omega) (by rw [hj]; simpa using ew) fin
  · have hj : (k + (its.toArray.size : Int)).toNat = j := by
      rw [seqIndex_neg (by omega) h4] at h1
      rw [List.size_toArray, ← hl]
      exact Option.some.inj h1
    exact wpAny_getItem_list_neg pl.isList (by omega) (by rw [List.size_toArray] <;> omega) (by omega) (by rw [hj]; simpa using ew) fin
end
section
variable [WorldI] {X : Cx} {xa : Nat → Addr} {Z : WX} {cl : Nat → List W → CRes} {bo : List Bool} {pos : Pos}
theorem s_augp {e o k : Expr} {i : Nat} {y z : IE} {spos : Pos} (ho : PE X o (tVar i)) (hk : PE X k (toTE X.K xa Z (ev cl y))) (he : PE X e (toTE X.K xa Z (ev cl z)))
    (ha : ∀ ov iv new, augStore k ov iv new = (do holding [new, ov, iv] (setItem ov iv new); release [new, ov, iv] []; pure .next) := by intros; rfl) :
    PS X (.AugAssign (.Subscript o k spos) .Add e pos) (toTS X.K xa Z bo (evS cl bo (.augp i y z))) := by
  refine ps_imp (ps_augS ho hk get_list he ip_add set_list ha) fun D σ H ⟨F, E, S, p⟩ => ?_
  unfold evS at p
  cases g : getS E i with
  | none =>
    rw [g] at p
    exact p.elim
  | some w0 =>
    rw [g] at p
    cases w0 with
    | ol ds0 =>
      obtain ⟨v0, s0, a, xs, rfl, h0, _, _⟩ := S.val g
      have p1 : PostS X.K xa Z bo ((ev cl y E).bind fun u E1 => match u, getS E1 i with
        | .fz (.int j), some (.ol ds) => (match atD ds j with
          | some (.int a) => (ev cl z E1).bind fun w E2 => (match w, getS E2 i with
            | .fz (.int b), some (.ol es) => (match L2.ixN es.length j with
              | some m => Res.ok Fl.next (setS E2 i (.ol (es.set m (.int (a + b)))))
              | none => .stuck)
            | _, _ => .stuck)
          | _ => .stuck)
        | _, _ => .stuck) F H E σ D := p
      refine ⟨_, s0, F, E, S, p1.of_ev fun u E1 F1 H1 _ S1 x1 p2 v r => ?_⟩
      cases u with
      | fz du =>
        cases du with
        | int j =>
          cases g1 : getS E1 i with
          | none =>
            rw [g1] at p2
            exact p2.elim
          | some w1 =>
            rw [g1] at p2
            cases w1 with
            | ol ds =>
              have p3 : PostS X.K xa Z bo (match atD ds j with
                | some (.int a) => (ev cl z E1).bind fun w E2 => (match w, getS E2 i with
                  | .fz (.int b), some (.ol es) => (match L2.ixN es.length j with
                    | some m => Res.ok Fl.next (setS E2 i (.ol (es.set m (.int (a + b)))))
                    | none => .stuck)
                  | _, _ => .stuck)
                | _ => .stuck) F H E σ D := p2
              cases q : atD ds j with
              | none =>
                rw [q] at p3
                exact p3.elim
              | some d =>
                rw [q] at p3
                cases d with
                | int c =>
                  have p4 : PostS X.K xa Z bo ((ev cl z E1).bind fun w E2 => (match w, getS E2 i with
                    | .fz (.int b), some (.ol es) => (match L2.ixN es.length j with
                      | some m => Res.ok Fl.next (setS E2 i (.ol (es.set m (.int (c + b)))))
                      | none => .stuck)
                    | _, _ => .stuck)) F1 H1 E1 σ D := PostS.rebase p3 x1.xs
                  obtain ⟨a2, ys, s, h2, rr, hz⟩ := own_ahead S1 (getS_at g1)
                  rw [s0] at s
                  cases s
                  have r6 : RF F1 v (.int j) := r.1
                  cases r6
                  obtain ⟨vv, h3, h4⟩ := rr.atI q
                  cases h4
                  refine ⟨a, ys, j, .int c, rfl, rfl, SqL.of h2, h3, F1, E1, S1, p4.of_ev fun w E2 F2 H2 _ S2 x2 p5 v2 r2 => ?_⟩
                  cases w with
                  | fz dw =>
                    cases dw with
                    | int b =>
                      cases g2 : getS E2 i with
                      | none =>
                        rw [g2] at p5
                        exact p5.elim
                      | some w2 =>
                        rw [g2] at p5
                        cases w2 with
                        | ol es =>
                          have p6 : PostS X.K xa Z bo (match L2.ixN es.length j with
                            | some m => Res.ok Fl.next (setS E2 i (.ol (es.set m (.int (c + b)))))
                            | none => .stuck) F1 H1 E1 σ D := p5
                          cases q2 : L2.ixN es.length j with
                          | none =>
                            rw [q2] at p6
                            exact p6.elim
                          | some m =>
                            rw [q2] at p6
                            obtain ⟨a3, ys2, s3, h5, rr2, hz2⟩ := own_ahead S2 (getS_at g2)
                            rw [s0] at s3
                            cases s3
                            have r7 : RF F2 v2 (.int b) := r2.1
                            cases r7
                            obtain ⟨S4, x4⟩ := S2.write (getS_at g2) s0 (es := es.set m (.int (c + b))) (by rw [List.length_set]; exact hz2) (RFs.set (.int (c + b)) m rr2)
                            exact ⟨c, b, rfl, rfl, a, ys2, j, m, rfl, rfl, h5, by rw [rr2.len]; exact q2, (show PostS X.K xa Z bo (Res.ok Fl.next (setS E2 i (.ol (es.set m (.int (c + b)))))) F1 H1 E1 σ D from p6) F2 _ σ S4 (x2.trans x4).xs⟩
                        | _ => exact p5.elim
                    | _ => exact p5.elim
                  | _ => exact p5.elim
                | _ => exact p3.elim
            | _ => exact p2.elim
        | _ => exact p2.elim
      | _ => exact p2.elim
    | _ => exact p.elim
end
end Sf

end

section
set_option maxRecDepth 100000
set_option maxHeartbeats 1000000
/-! Sf: instances of the program's own classes: fields, methods, calls, making. -/
namespace Sf
open PySem PySem.Spec PyProof.Rows L2
theorem RFl.put {R : V → D → Prop} {f : Str} {v : V} {d : D} (r : R v d) : ∀ {vs : List (Str × V)} {fs : List (Str × D)}, RFl R vs fs → RFl R (putF f v vs) (putO f d fs)
  | _, _, .nil => .cons r .nil
  | _, _, .cons (f := g) (v := v') (d := d') (vs := vs) (fs := fs) q h => by
    by_cases e : g = f
    · subst e
      simp only [putF, putO, if_pos]
      exact .cons r h
    · simp only [putF, putO, if_neg e]
      exact .cons q (RFl.put r h)
theorem putO_len (f : Str) (d : D) : ∀ fs : List (Str × D), (putO f d fs).length ≤ fs.length + 1
  | [] => Nat.le_refl _
  | p :: r => by
    unfold putO
    split
    · simp
    · have := putO_len f d r
      simp only [List.length_cons]
      omega
theorem RFl.no {R : V → D → Prop} {x : Str} : ∀ {vs : List (Str × V)} {fs : List (Str × D)}, RFl R vs fs → fs.lookup x = none → vs.lookup x = none
  | _, _, .nil, _ => rfl
  | _, _, .cons (f := f) r h, e => by
    by_cases q : x = f
    · subst q
      rw [List.lookup_cons, beq_self_eq_true] at e
      cases e
    · have q' : (x == f) = false := by simpa using q
      rw [List.lookup_cons, q'] at e ⊢
      exact RFl.no h e
variable [WorldI]
theorem obAt_ok {cs : List Nat} {m : Str} {x : Sum Nat W} {E : Sto} {u : Unit} (h : obAt cs m x E = some u) : ∃ c fs, resolve [x] E = some [.ob c fs] ∧ cs.contains c = true ∧ fs.lookup m = none := by
  unfold obAt at h
  obtain ⟨ws, e, h2⟩ := bind_some' h
  obtain ⟨w, rfl⟩ := resolve_one e
  cases w with
  | ob c fs =>
    have h3 : (if cs.contains c && (fs.lookup m).isNone then some () else none) = some u := h2
    obtain ⟨q, _⟩ := if_some h3
    obtain ⟨q1, q2⟩ := Bool.and_eq_true_iff.mp q
    exact ⟨c, fs, e, q1, Option.isNone_iff_eq_none.mp q2⟩
  | _ => cases h2
section
variable {X : Cx} {xa : Nat → Addr} {Z : WX} {cl : Nat → List W → CRes} {bo : List Bool} {pos pos' p : Pos}
/-- e.f -/
theorem de_fld {o : Expr} {i : Nat} {cs : List Nat} {f : Str} (ho : PE X o (tVar i)) (c : FldC X.K cs f) (hb : attributeBase o f X.env (eval o X.env) = eval o X.env) : PE X (.Attribute o f pos) (toTE X.K xa Z (ev cl (.fld i cs f))) := by
  refine pe_imp (pe_fld ho hb) fun σ H Q ⟨F, E, S, p⟩ => ?_
  unfold ev at p
  cases g : getS E i with
  | none =>
    rw [g] at p
    exact p.elim
  | some w =>
    rw [g] at p
    cases w with
    | ob n fs =>
      have p1 : Post X.K xa Z (if cs.contains n then Res.lift ((fs.lookup f).map W.fz) E else .stuck) F H E σ fun w E' F' H' => ∀ v, Rs X.K F' H' H E' σ w v → Q v H' := p
      split at p1
      · rename_i hn
        obtain ⟨w, e, p2⟩ := Post.lift_ p1
        obtain ⟨d, e2, rfl⟩ := map_some' e
        obtain ⟨v, s, a, dx, vs, rfl, h, z, r⟩ := S.val g
        obtain ⟨v, l, rv⟩ := r.look e2
        exact ⟨_, s, a, _, dx, vs, v, rfl, h, c.c n hn, c.n n hn, l, p2 F H S (Ext.refl ..) v ⟨rv, fun o => nomatch o⟩⟩
      · exact p1.elim
    | _ => exact p.elim
/-- o.f = e -/
theorem ds_sfl {o e : Expr} {i : Nat} {cs : List Nat} {f : Str} {x : IE} (ho : PE X o (tVar i)) (c : FldC X.K cs f) (he : PE X e (toTE X.K xa Z (ev cl x))) (hs : swapsWith e (some (.Attribute o f pos')) pos.line X.env = pure false) :
    PS X (.Assign [.Attribute o f pos'] e pos) (toTS X.K xa Z bo (evS cl bo (.sfl i cs f x))) := by
  refine ps_imp (ps_fld ho he hs) fun D σ H ⟨F, E, S, p⟩ => ?_
  unfold evS at p
  refine ⟨F, E, S, p.of_ev fun w E1 F1 H1 _ S1 x1 p2 v r => ?_⟩
  cases fz : w.frzL with
  | none =>
    rw [fz] at p2
    exact p2.elim
  | some d =>
    rw [fz] at p2
    obtain ⟨F2, S2, l2, n2, r2⟩ := lift_frz S1 r fz
    have x2 := x1.widen l2 n2
    have p3 : PostS X.K xa Z bo (match getS E1 i with
      | some (.ob c fs) => if cs.contains c && decide (fs.length < 100) then .ok .next (setS E1 i (.ob c (putO f d fs))) else .stuck
      | _ => .stuck) F H E σ D := p2
    cases g : getS E1 i with
    | none =>
      rw [g] at p3
      exact p3.elim
    | some u =>
      rw [g] at p3
      cases u with
      | ob n fs =>
        have p4 : PostS X.K xa Z bo (if cs.contains n && decide (fs.length < 100) then .ok .next (setS E1 i (.ob n (putO f d fs))) else .stuck) F H E σ D := p3
        split at p4
        · rename_i q
          obtain ⟨q1, q2⟩ := Bool.and_eq_true_iff.mp q
          have q2 := of_decide_eq_true q2
          obtain ⟨v0, s, a, dx, vs, rfl, h, z, ro⟩ := S2.val g
          obtain ⟨S3, x3⟩ := S2.writeO (ob := .ins (WorldI.cA n) dx (putF f v vs)) (w1 := .ob n (putO f d fs)) (getS_at g) rfl s ⟨a, dx, _, rfl, upd_same, by have := putO_len f d fs; omega, ro.put r2⟩
          exact ⟨_, s, a, _, dx, vs, rfl, h, c.c n q1, c.n n q1, by rw [ro.len]; omega, p4 F2 _ σ S3 (x2.trans x3).xs⟩
        · exact p4.elim
      | _ => exact p3.elim

/-! ### methods -/
section
variable {k : Nat} {fa C : Addr} {fd : FuncData} {ps : List Str} {sp : Sp} {E : L2.St → XK} {m x : Str} {apos cpos : Pos} {e o fe : Expr} {es : List Expr} {ta tf : TE} {t : TA} {cs : List Nat}
def tMethG (cs : List Nat) (m : Str) (sp : Sp) (E : L2.St → XK) (ta : TE) (t : TA) : TE := fun σ H Q => ta σ H fun x H1 => ∃ a n dx fs, cs.contains n = true ∧ x = .ref a ∧ H1 a = some (.ins (WorldI.cA n) dx fs) ∧ fs.lookup m = none ∧
  t σ H1 fun vs H2 => sp (x :: vs) H2 Q (E σ)
theorem pe_methG {pl : Sem Bool} (he : PE X o ta) (c : MthC X.K cs m fa) (G : FnG X.prog X.w X.K X.mg X.base k fa fd ps sp) (hgd : X.A.guards = some []) (hr : Room k X.A) (hb : Binds X.K fd ps []) (hx : ∀ σ, PassesAt (L2.CX X.prog X.w) X σ (E σ)) (ha : PA X (e :: es) t)
    (hst : starEach (e :: es) X.env = (false, eval e X.env) :: starEach es X.env) (hpl : (backTo cpos (starEach es X.env)).any (·.1) = false)
    (ht : eval (.Call (.Attribute o m apos) (e :: es) [] cpos) X.env = (do
      let ov ← eval o X.env
      standAt apos.atName
      let (f, first) ← holding [ov] (getMethod ov m pl)
      callWith cpos f first (backTo cpos (starEach (e :: es) X.env)) (backToKw cpos (keywordEach [] X.env)))) :
    PE X (.Call (.Attribute o m apos) (e :: es) [] cpos) (tMethG cs m sp E ta t) := by
  refine ⟨fun pins s σ H Q I h => ?_⟩
  refine PySem.W.methodCall_KW (pl := pl) (thn (he.run pins s σ H _ I h) fun u s1 ⟨x, H1, I1, rx, a, n, dx, fs, hn, ex, ea, l, q⟩ => ?_) ht
  subst ex
  obtain rfl : u = Value.ref a := rx
  refine getmeth_ok I1 ea (c.c n hn) (c.m n hn) l ?_
  refine PySem.W.callWith_K (first := [.ref a]) (h₀ := X.base) I.ok.mod.kin (c.m n hn).kp (thn (ha.run cpos pins s1 σ H1 _ I1 q) fun us s2 ⟨vs, H2, I2, r, q2⟩ => ⟨I2.kIn, ?_⟩) hst hpl
  exact runG (us := .ref a :: us) (vs := .ref a :: vs) G hgd hr hb (hx σ) I2 (.cons rfl r) q2
theorem pe_methG0 {pl : Sem Bool} (he : PE X o ta) (c : MthC X.K cs m fa) (G : FnG X.prog X.w X.K X.mg X.base k fa fd ps sp) (hgd : X.A.guards = some []) (hr : Room k X.A) (hb : Binds X.K fd ps []) (hx : ∀ σ, PassesAt (L2.CX X.prog X.w) X σ (E σ))
    (ht : eval (.Call (.Attribute o m apos) [] [] cpos) X.env = (do
      let ov ← eval o X.env
      standAt apos.atName
      let (f, first) ← holding [ov] (getMethod ov m pl)
      callWith cpos f first (backTo cpos (starEach [] X.env)) (backToKw cpos (keywordEach [] X.env)))) :
    PE X (.Call (.Attribute o m apos) [] [] cpos) (tMethG cs m sp E ta tNil) := by
  refine ⟨fun pins s σ H Q I h => ?_⟩
  refine PySem.W.methodCall_KW (pl := pl) (thn (he.run pins s σ H _ I h) fun u s1 ⟨x, H1, I1, rx, a, n, dx, fs, hn, ex, ea, l, q⟩ => ?_) ht
  subst ex
  obtain rfl : u = Value.ref a := rx
  refine getmeth_ok I1 ea (c.c n hn) (c.m n hn) l ?_
  exact PySem.W.callWith_K0 (first := [.ref a]) I1.kIn (c.m n hn).kp (runG (us := [.ref a]) (vs := [.ref a]) G hgd hr hb (hx σ) I1 (.cons rfl .nil) q)
/-! ### instances called -/
def tCallOG (X : Cx) (cs : List Nat) (sp : Sp) (E : L2.St → XK) (tf : TE) (t : TA) : TE := fun σ H Q => tf σ H fun y H1 => ∃ a, y = V.ref a ∧ t σ H1 fun vs H2 => (∃ n dx fs, cs.contains n = true ∧ H2 a = some (.ins (WorldI.cA n) dx fs)) ∧ sp (V.ref a :: vs) H2 Q (E σ)
theorem pe_callOG (hf : PE X fe tf) (c : MthC X.K cs "__call__" fa) (hfi : PySem.W.fnIn X.K fa = true) (G : FnG X.prog X.w X.K X.mg X.base k fa fd ps sp) (hgd : X.A.guards = some []) (hr : Room k X.A) (hb : Binds X.K fd ps []) (hx : ∀ σ, PassesAt (L2.CX X.prog X.w) X σ (E σ)) (ha : PA X (e :: es) t)
    (ht : eval (.Call fe (e :: es) [] cpos) X.env = (do callWith cpos (← eval fe X.env) [] (backTo cpos (starEach (e :: es) X.env)) (backToKw cpos (keywordEach [] X.env))))
    (he : starEach (e :: es) X.env = (false, eval e X.env) :: starEach es X.env) (hpl : (backTo cpos (starEach es X.env)).any (·.1) = false) : PE X (.Call fe (e :: es) [] cpos) (tCallOG X cs sp E tf t) := by
  refine ⟨fun pins s σ H Q I h => ?_⟩
  refine Call_ (thn (hf.run pins s σ H _ I h) fun u s1 ⟨y, H1, I1, ry, a, ey, q⟩ => ?_) ht
  subst ey
  obtain rfl : u = Value.ref a := ry
  refine StX.callO_with (thn (ha.run cpos pins s1 σ H1 _ I1 q) fun us s2 ⟨vs, H2, I2, r, ⟨n, dx, fs, hn, hi⟩, q2⟩ => ?_) he hpl
  obtain ⟨ox, od, J, hd⟩ := StX.insC_at (X := X) I2 (.inr ⟨dx, fs, hi⟩)
  refine ⟨⟨_, ox, od, J, hd⟩, ?_⟩
  have hl : (Value.ref a :: us).length = ps.length := by
    have := (show Vals (V.ref a :: vs) (Value.ref a :: us) from .cons rfl r).length
    rw [← this]
    exact G.len _ _ _ _ q2
  have bd := hb s2 (.ref a :: us) I2.kIn (by rw [List.append_nil]; exact hl)
  rw [List.append_nil] at bd
  refine wpAny_call (PySem.W.kco_code I2.kIn J hd (c.m n hn).at_ (c.m n hn).fn hfi (codeAny_mono (G.run X.A X.stack s2 H2 ⟨.ref a :: us, []⟩ (.ref a :: us) (V.ref a :: vs) Q (E σ) hgd hr I2.env0 bd (.cons rfl r) q2) ?_))
  intro rr s3 q
  match rr, q with
  | .error e, q => exact hx σ pins H2 s2 e s3 I2 q
  | .ok (.ret u), q => exact I2.after q
  | .ok .next, q => exact q.elim
  | .ok .brk, q => exact q.elim
  | .ok .cont, q => exact q.elim
/-! ### making -/
def tMakeG (C : Addr) (sp : Sp) (E : L2.St → XK) (t : TA) : TE := fun σ H Q => t σ H fun vs H1 => ∀ x dx, H1 x = none → H1 dx = none → dx ≠ x →
  sp (.ref x :: vs) (upd (upd H1 dx (.own x)) x (.ins C dx [])) (fun v H2 => v = .non ∧ Q (.ref x) H2) (E σ)
theorem guards_under {A : Around} {C : Addr} {us : List Value} {kw : List (Str × Value)} : (A.under (.builtin "type.__call__" ⟨.ref C :: us, kw⟩)).guards = A.guards := by
  first
    | rfl
    | (simp [Around.under, Code.guards, Code.isGuard, pushGuards, guardIds]; done)
    | (simp [Around.under, Code.guards, Code.isGuard, pushGuards, guardIds]; cases A.guards <;> rfl)
theorem run_makeG {pins : List (Addr × Obj)} {σ : L2.St} {H : Hp} {s : Shared} {Q : VK} {us : List Value} {vs : List V} (M : Mk X.K C fa) (G : FnG X.prog X.w X.K X.mg X.base k fa fd ps sp) (hgd : X.A.guards = some []) (hr : Room (k + 1) X.A) (hb : Binds X.K fd ps []) (hx : PassesAt (L2.CX X.prog X.w) X σ (E σ))
    (I : Inv X pins σ H s) (r : Vals vs us)
    (h : ∀ x dx, H x = none → H dx = none → dx ≠ x → sp (.ref x :: vs) (upd (upd H dx (.own x)) x (.ins C dx [])) (fun v H2 => v = .non ∧ Q (.ref x) H2) (E σ)) :
    wpAny (model X.prog X.w) X.A (call (.ref C) us) (EP X pins σ Q) X.xe s := by
  have hq := h (s.heap.objs.size + 1) s.heap.objs.size (I.hok.fresh (Nat.le_succ _)) (I.hok.fresh (Nat.le_refl _)) (Nat.ne_of_lt (Nat.lt_succ_self _))
  have I2 := Inv.made (C := C) I
  have r2 : Vals (V.ref (s.heap.objs.size + 1) :: vs) (Value.ref (s.heap.objs.size + 1) :: us) := .cons rfl r
  have hl : (Value.ref (s.heap.objs.size + 1) :: us).length = ps.length := by
    have e := r2.length
    rw [G.len _ _ _ _ hq] at e
    exact e.symm
  have bd := hb _ (Value.ref (s.heap.objs.size + 1) :: us) I2.kIn (by rw [List.append_nil]; exact hl)
  rw [List.append_nil] at bd
  refine wpAny_call (make_map (f := fa) I.kIn M.makes M.init (beq_iff_eq.mp M.fn) (codeAny_mono (G.run _ X.stack _ _ ⟨Value.ref (s.heap.objs.size + 1) :: us, []⟩ (Value.ref (s.heap.objs.size + 1) :: us) _ _ (E σ) (by rw [guards_under]; exact hgd) (hr.make C us [])
    (I2.env0.make C us []) bd r2 hq) fun r s' hq' => ?_))
  cases r with
  | error e => exact hx pins _ _ e s' I2 hq'
  | ok fl =>
    cases fl with
    | ret u =>
      obtain ⟨v, H', I3, rv, ev, q3⟩ := I2.after hq'
      subst ev
      exact ⟨rv, ⟨V.ref (s.heap.objs.size + 1), H', I3, rfl, q3⟩⟩
    | next => exact False.elim hq'
    | brk => exact False.elim hq'
    | cont => exact False.elim hq'
theorem pe_makeG (M : Mk X.K C fa) (G : FnG X.prog X.w X.K X.mg X.base k fa fd ps sp) (hgd : X.A.guards = some []) (hr : Room (k + 1) X.A) (hg : Gl X x) (hm : X.mg x = some (.ref C)) (hb : Binds X.K fd ps []) (hx : ∀ σ, PassesAt (L2.CX X.prog X.w) X σ (E σ))
    (ha : PA X (e :: es) t) (hdb : (x == ("__debug__" : Str)) = false) (he : starEach (e :: es) X.env = (false, eval e X.env) :: starEach es X.env) (hpl : (backTo pos (starEach es X.env)).any (·.1) = false) :
    PE X (.Call (.Name x p) (e :: es) [] pos) (tMakeG C sp E t) := by
  refine ⟨fun pins s σ H Q I h => ?_⟩
  refine wpAny_Call_Name_kw (ld_glob I hg hm ?_ hdb)
  refine PySem.W.callWith_K (h₀ := X.base) I.ok.mod.kin M.kp (thn (ha.run pos pins s σ H _ I h) fun us s1 ⟨vs, H1, I1, r, q⟩ => ⟨I1.kIn, ?_⟩) he hpl
  exact run_makeG M G hgd hr hb (hx σ) I1 r q
end

/-! ### .. the evaluator's -/
/-- o.m(..), o(..): the arguments, then the call -/
theorem ocall_ask {K : PySem.W.Frag} {F H F1 H1 : Hp} {E E1 : Sto} {σ : L2.St} {Q : VK} {f np : Nat} {cs : List Nat} {m : Str} {x : Sum Nat W} {v : V} {as : IAs} (hn : ∀ ws, ws.length ≠ np → cl f ws = .stuck) (S1 : SR K F1 H1 E1 σ) (x1 : Ext F H E σ F1 H1 E1) (rv : RA K F1 H1 H E1 σ x v)
    (p : Post K xa Z ((evAs cl as E1).bind fun xs E3 => (Res.lift (obAt cs m x E3) E3).bind fun _ E4 => callR (cl f) (x :: xs) E4) F H E σ fun w E' F' H' => ∀ v, Rs K F' H' H E' σ w v → Q v H') :
    toTAs K xa Z (evAs cl as) σ H1 fun vs H2 => (∃ a n dx fs, v = .ref a ∧ cs.contains n = true ∧ H2 a = some (.ins (WorldI.cA n) dx fs)) ∧ spF K xa (cl f) np (v :: vs) H2 Q (WE Z σ) := by
  refine ⟨F1, E1, S1, ((Post.bindB p).rebase x1).mono fun xs E2 F2 H2 _ S2 x2 q3 vs rs => ?_⟩
  have q3 : Post K xa Z ((Res.lift (obAt cs m x E2) E2).bind fun _ E4 => callR (cl f) (x :: xs) E4) F H E σ fun w E' F' H' => ∀ v, Rs K F' H' H E' σ w v → Q v H' := q3
  cases e : obAt cs m x E2 with
  | none =>
    rw [e] at q3
    exact q3.elim
  | some u =>
    rw [e] at q3
    obtain ⟨n, fs, e2, hn', hl⟩ := obAt_ok e
    obtain ⟨a, dx, vs', rfl, h, _, _⟩ := (rv.carry x2).use S2 e2
    exact ⟨⟨a, n, dx, vs', rfl, hn', h⟩, call_ask hn S2 (x1.trans x2) (RAs.cons rv x2 x1.thr rs) q3⟩
theorem ocall_start {K : PySem.W.Frag} {F H : Hp} {E : Sto} {σ : L2.St} {f : Nat} {cs : List Nat} {m : Str} {o : IA} {as : IAs} {k : W → Sto → Hp → Hp → Prop} {kk : TE} (S : SR K F H E σ) {Q : VK}
    (p : Post K xa Z (ev cl (.ocall cs m f o as) E) F H E σ fun w E' F' H' => ∀ v, Rs K F' H' H E' σ w v → Q v H') {R : V → Hp → Prop}
    (h : ∀ (x : Sum Nat W) (E1 : Sto) (F1 H1 : Hp) (a : Addr) (n : Nat) (dx : Addr) (fs : List (Str × V)), SR K F1 H1 E1 σ → Ext F H E σ F1 H1 E1 → RA K F1 H1 H E1 σ x (.ref a) → cs.contains n = true → H1 a = some (.ins (WorldI.cA n) dx fs) → fs.lookup m = none →
      Post K xa Z ((evAs cl as E1).bind fun xs E3 => (Res.lift (obAt cs m x E3) E3).bind fun _ E4 => callR (cl f) (x :: xs) E4) F H E σ (fun w E' F' H' => ∀ v, Rs K F' H' H E' σ w v → Q v H') → R (.ref a) H1) :
    toTA K xa Z (evA cl o) σ H R := by
  unfold ev at p
  refine ⟨F, E, S, (Post.bindB p).mono fun x E1 F1 H1 _ S1 x1 p2 v rv => ?_⟩
  have p2 : Post K xa Z ((Res.lift (obAt cs m x E1) E1).bind fun _ E2 => (evAs cl as E2).bind fun xs E3 => (Res.lift (obAt cs m x E3) E3).bind fun _ E4 => callR (cl f) (x :: xs) E4) F H E σ fun w E' F' H' => ∀ v, Rs K F' H' H E' σ w v → Q v H' := p2
  cases e : obAt cs m x E1 with
  | none =>
    rw [e] at p2
    exact p2.elim
  | some u =>
    rw [e] at p2
    obtain ⟨n, fs, e2, hn, hl⟩ := obAt_ok e
    have w : RW K F1 H1 (.ob n fs) v := rv.use S1 e2
    obtain ⟨a, dx, vs, rfl, h2, _, r⟩ := w
    exact h x E1 F1 H1 a n dx vs S1 x1 rv hn h2 (r.no hl) p2
section
variable {k : Nat} {f : Nat} {cs : List Nat} {m x : Str} {ps : List Str} {apos cpos : Pos} {e o fe : Expr} {es : List Expr} {a : IA} {as : IAs}
theorem de_meth {pl : Sem Bool} (c : Callee X.prog X.w X.K X.mg X.base xa cl k f (.inr (cs, m)) ps) (tk : Takes X Z) (hgd : X.A.guards = some []) (hr : Room k X.A) (ho : PE X o (toTA X.K xa Z (evA cl a))) (ha : PA X (e :: es) (toTAs X.K xa Z (evAs cl as)))
    (hst : starEach (e :: es) X.env = (false, eval e X.env) :: starEach es X.env) (hpl : (backTo cpos (starEach es X.env)).any (·.1) = false)
    (ht : eval (.Call (.Attribute o m apos) (e :: es) [] cpos) X.env = (do
      let ov ← eval o X.env
      standAt apos.atName
      let (f, first) ← holding [ov] (getMethod ov m pl)
      callWith cpos f first (backTo cpos (starEach (e :: es) X.env)) (backToKw cpos (keywordEach [] X.env)))) :
    PE X (.Call (.Attribute o m apos) (e :: es) [] cpos) (toTE X.K xa Z (ev cl (.ocall cs m f a as))) := by
  obtain ⟨fa, fd, G, hm, hk, hb, _⟩ := c.ex
  refine pe_imp (pe_methG (E := WE Z) (pl := pl) ho hm G hgd hr hb (fun σ => passAt tk σ) ha hst hpl ht) fun σ H Q ⟨F, E, S, q⟩ => ?_
  refine ocall_start (k := fun _ _ _ _ => True) (kk := fun _ _ _ => True) S q fun x E1 F1 H1 a n dx fs S1 x1 rv hn h2 hl p2 => ⟨a, n, dx, fs, hn, rfl, h2, hl, ?_⟩
  obtain ⟨F3, E3, S3, q3⟩ := ocall_ask (Z := Z) (xa := xa) c.num S1 x1 rv p2
  exact ⟨F3, E3, S3, q3.mono fun xs E2 F2 H2 _ S2 x2 q4 vs rs => (q4 vs rs).2⟩
theorem de_meth0 {pl : Sem Bool} (c : Callee X.prog X.w X.K X.mg X.base xa cl k f (.inr (cs, m)) ps) (tk : Takes X Z) (hgd : X.A.guards = some []) (hr : Room k X.A) (ho : PE X o (toTA X.K xa Z (evA cl a)))
    (ht : eval (.Call (.Attribute o m apos) [] [] cpos) X.env = (do
      let ov ← eval o X.env
      standAt apos.atName
      let (f, first) ← holding [ov] (getMethod ov m pl)
      callWith cpos f first (backTo cpos (starEach [] X.env)) (backToKw cpos (keywordEach [] X.env)))) :
    PE X (.Call (.Attribute o m apos) [] [] cpos) (toTE X.K xa Z (ev cl (.ocall cs m f a .nil))) := by
  obtain ⟨fa, fd, G, hm, hk, hb, _⟩ := c.ex
  refine pe_imp (pe_methG0 (E := WE Z) (pl := pl) ho hm G hgd hr hb (fun σ => passAt tk σ) ht) fun σ H Q ⟨F, E, S, q⟩ => ?_
  refine ocall_start (k := fun _ _ _ _ => True) (kk := fun _ _ _ => True) S q fun x E1 F1 H1 a n dx fs S1 x1 rv hn h2 hl p2 => ⟨a, n, dx, fs, hn, rfl, h2, hl, ?_⟩
  obtain ⟨F3, E3, S3, q3⟩ := ocall_ask (Z := Z) (xa := xa) c.num S1 x1 rv p2
  unfold evAs at q3
  exact (q3 F3 H1 S3 (Ext.refl ..) [] ⟨rfl, fun j x v h => by simp at h, fun i j a ⟨w, h, _⟩ => by simp at h⟩).2
theorem de_ocl (c : Callee X.prog X.w X.K X.mg X.base xa cl k f (.inr (cs, "__call__")) ps) (tk : Takes X Z) (hgd : X.A.guards = some []) (hr : Room k X.A) (hf : PE X fe (toTA X.K xa Z (evA cl a))) (ha : PA X (e :: es) (toTAs X.K xa Z (evAs cl as)))
    (ht : eval (.Call fe (e :: es) [] cpos) X.env = (do callWith cpos (← eval fe X.env) [] (backTo cpos (starEach (e :: es) X.env)) (backToKw cpos (keywordEach [] X.env))))
    (he : starEach (e :: es) X.env = (false, eval e X.env) :: starEach es X.env) (hpl : (backTo cpos (starEach es X.env)).any (·.1) = false) : PE X (.Call fe (e :: es) [] cpos) (toTE X.K xa Z (ev cl (.ocall cs "__call__" f a as))) := by
  obtain ⟨fa, fd, G, hm, hk, hb, oc, od, osl, hfa⟩ := c.ex
  have hfi : PySem.W.fnIn X.K fa = true := by unfold PySem.W.fnIn; rw [hfa]
  refine pe_imp (pe_callOG (E := WE Z) hf hm hfi G hgd hr hb (fun σ => passAt tk σ) ha ht he hpl) fun σ H Q ⟨F, E, S, q⟩ => ?_
  refine ocall_start (k := fun _ _ _ _ => True) (kk := fun _ _ _ => True) S q fun x E1 F1 H1 a n dx fs S1 x1 rv hn h2 hl p2 => ⟨a, rfl, ?_⟩
  obtain ⟨F3, E3, S3, q3⟩ := ocall_ask (Z := Z) (xa := xa) c.num S1 x1 rv p2
  refine ⟨F3, E3, S3, q3.mono fun xs E2 F2 H2 _ S2 x2 q4 vs rs => ?_⟩
  obtain ⟨⟨b, n2, dx2, fs2, eb, hn2, h3⟩, q5⟩ := q4 vs rs
  cases eb
  exact ⟨⟨n2, dx2, fs2, hn2, h3⟩, q5⟩
/-- a new instance ahead of the arguments -/
theorem RAs.fresh {K : PySem.W.Frag} {F1 H1 H : Hp} {E1 : Sto} {σ : L2.St} {xs : List (Sum Nat W)} {vs : List V} {c : Nat} {y dy : Addr} (S1 : SR K F1 H1 E1 σ) (thr : ∀ b, H b ≠ none → H1 b ≠ none) (rs : RAs K F1 H1 H E1 σ xs vs) (g : Grow F1 H1 F1 (upd (upd H1 dy (.own y)) y (.ins (WorldI.cA c) dy [])))
    (hy : H1 y = none) : RAs K F1 (upd (upd H1 dy (.own y)) y (.ins (WorldI.cA c) dy [])) H E1 σ (.inr (.ob c []) :: xs) (.ref y :: vs) := by
  have hH : H y = none := by
    cases q : H y with
    | none => rfl
    | some u => exact absurd hy (thr y (by rw [q]; exact fun z => nomatch z))
  have noHead : ∀ (j : Nat) (a : Addr), tmpAt (.inr (.ob c []) :: xs) (.ref y :: vs) 0 a → tmpAt (.inr (.ob c []) :: xs) (.ref y :: vs) (j + 1) a → False := fun j a ⟨w, h1, h2, h3⟩ ⟨w', h4, h5, h6⟩ => by
    simp only [List.getElem?_cons_zero, Option.some.injEq, List.getElem?_cons_succ] at h1 h3 h4 h6
    cases h3
    have q1 : RW K F1 H1 w' (.ref y) := (rs.at_ j _ _ h4 h6).1
    obtain ⟨b, e, n⟩ := q1.ref_of_own h5
    cases e
    exact n hy
  refine ⟨by simp [rs.len], fun j z u h1 h2 => ?_, fun i j a h1 h2 => ?_⟩
  · cases j with
    | zero =>
      simp only [List.getElem?_cons_zero, Option.some.injEq] at h1 h2
      subst h1 h2
      exact ⟨⟨y, dy, [], rfl, upd_same, Nat.zero_le _, .nil⟩, fun _ a e => by
        cases e
        exact ⟨hH, none_le S1.le hy, fun i q => q.some_at S1 hy⟩⟩
    | succ j =>
      simp only [List.getElem?_cons_succ] at h1 h2
      exact (rs.at_ j z u h1 h2).carry (Ext.grow S1 g)
  · cases i with
    | zero =>
      cases j with
      | zero => rfl
      | succ j => exact (noHead j a h1 h2).elim
    | succ i =>
      cases j with
      | zero => exact (noHead i a h2 h1).elim
      | succ j =>
        refine congrArg Nat.succ (rs.sep i j a ?_ ?_)
        · obtain ⟨w, q1, q2, q3⟩ := h1
          exact ⟨w, by simpa using q1, q2, by simpa using q3⟩
        · obtain ⟨w, q1, q2, q3⟩ := h2
          exact ⟨w, by simpa using q1, q2, by simpa using q3⟩
theorem mk_ask {K : PySem.W.Frag} {F H F1 H1 : Hp} {E E1 : Sto} {σ : L2.St} {Q : VK} {c f np : Nat} {xs : List (Sum Nat W)} {vs : List V} (hn : ∀ ws, ws.length ≠ np → cl f ws = .stuck) (S1 : SR K F1 H1 E1 σ) (x1 : Ext F H E σ F1 H1 E1) (rs : RAs K F1 H1 H E1 σ xs vs)
    (p : Post K xa Z (mkR (cl f) c xs E1) F H E σ fun w E' F' H' => ∀ v, Rs K F' H' H E' σ w v → Q v H') (y dy : Addr) (hy : H1 y = none) (hdy : H1 dy = none) (ne : dy ≠ y) :
    spF K xa (cl f) np (.ref y :: vs) (upd (upd H1 dy (.own y)) y (.ins (WorldI.cA c) dy [])) (fun v H2 => v = .non ∧ Q (.ref y) H2) (WE Z σ) := by
  have g : Grow F1 H1 F1 (upd (upd H1 dy (.own y)) y (.ins (WorldI.cA c) dy [])) := by
    refine ⟨Le.refl F1, fun b u q => ?_, fun b u q => ?_, fun b q => .inl q⟩
    · rw [upd_ne (ne_of_none q hy), upd_ne (ne_of_none q hdy)]
      exact q
    · have q1 := S1.le b u q
      rw [upd_ne (ne_of_none q1 hy), upd_ne (ne_of_none q1 hdy)]
      exact q1
  have S2 := S1.grow g
  have x2 := x1.trans (Ext.grow S1 g)
  have rs2 := RAs.fresh (c := c) S1 x1.thr rs g hy
  unfold mkR at p
  split at p
  · rename_i ap
    cases er : resolve xs E1 with
    | none =>
      rw [er] at p
      exact p.elim
    | some ws =>
      rw [er] at p
      dsimp only at p
      have er2 : resolve (.inr (.ob c []) :: xs) E1 = some (.ob c [] :: ws) := by
        show (resolve xs E1).map _ = _
        rw [er]
        rfl
      have ap2 : apart (.inr (.ob c []) :: xs) E1 = true := ap
      have A := args_SR S2 rs2 er2 ap2
      have lw : (W.ob c [] :: ws).length = (V.ref y :: vs).length := by
        have := A.len
        simpa using this
      have ln : (V.ref y :: vs).length = np := by
        by_cases q : (W.ob c [] :: ws).length = np
        · rw [← lw]
          exact q
        · have p2 := p
          rw [hn _ q] at p2
          exact p2.elim
      refine ⟨ln, F1, .ob c [] :: ws, A, ?_⟩
      cases ec : cl f (.ob c [] :: ws) with
      | stuck =>
        rw [ec] at p
        exact p.elim
      | ret w fin =>
        rw [ec] at p
        intro F3 H3 v S3 x3 r
        have lf : fin.length = (Sum.inr (W.ob c []) :: xs : List (Sum Nat W)).length := by
          have := S3.len
          rw [List.length_map, List.length_map] at this
          rw [this, rs2.len]
        cases fin with
        | nil => simp at lf
        | cons o fin =>
          cases w with
          | fz d =>
            cases d with
            | none =>
              cases o with
              | ob c' fs =>
                have p2 : Post K xa Z (.ok (.ob c' fs) (back xs fin E1)) F H E σ fun w E' F' H' => ∀ v, Rs K F' H' H E' σ w v → Q v H' := p
                obtain ⟨S4, x4, o4⟩ := back_SR S2 x2 rs2 er2 ap2 lf S3 x3
                have rn : RF F3 v .none := r.1
                cases rn
                obtain ⟨v0, e0, r0⟩ := S3.at_ 0 (.ob c' fs) rfl
                have e0 : some (some (V.ref y)) = some (some v0) := e0
                cases e0
                refine ⟨rfl, p2 F3 H3 S4 x4 (.ref y) ⟨r0, fun _ a e => ?_⟩⟩
                cases e
                refine ⟨?_, S3.free 0 y ⟨.ob c' fs, rfl, rfl, rfl⟩, fun i q => (o4 i y q).some_at S1 hy⟩
                cases q : H y with
                | none => rfl
                | some u => exact absurd hy (x1.thr y (by rw [q]; exact fun z => nomatch z))
              | _ => exact p.elim
            | _ => exact p.elim
          | _ => exact p.elim
      | exc c' fin =>
        rw [ec] at p
        intro F3 H3 S3 x3
        have lf : fin.length = (Sum.inr (W.ob c []) :: xs : List (Sum Nat W)).length := by
          have := S3.len
          rw [List.length_map, List.length_map] at this
          rw [this, rs2.len]
        cases fin with
        | nil => simp at lf
        | cons o fin =>
          have p2 : Post K xa Z (.exc c' (back xs fin E1)) F H E σ fun w E' F' H' => ∀ v, Rs K F' H' H E' σ w v → Q v H' := p
          obtain ⟨S4, x4, _⟩ := back_SR S2 x2 rs2 er2 ap2 lf S3 x3
          exact p2 F3 H3 S4 x4
  · exact p.elim
/-- what a class must have to be made -/
structure MkC (K : PySem.W.Frag) (mg : Str → Option Value) (x : Str) (c : Nat) : Prop where
  makes : PySem.W.makesIn K (WorldI.cA c) = true
  kp : PySem.W.keepIn K (.ref (WorldI.cA c)) = true
  m : mg x = some (.ref (WorldI.cA c))
theorem de_mk {k f c : Nat} {cs : List Nat} {x : Str} {ps : List Str} {e : Expr} {es : List Expr} {as : IAs} (M : MkC X.K X.mg x c) (cc : Callee X.prog X.w X.K X.mg X.base xa cl k f (.inr (cs, "__init__")) ps) (hcs : cs.contains c = true) (tk : Takes X Z) (hgd : X.A.guards = some []) (hr : Room (k + 1) X.A)
    (ha : PA X (e :: es) (toTAs X.K xa Z (evAs cl as))) (hg : Gl X x) (hdb : (x == ("__debug__" : Str)) = false) (he : starEach (e :: es) X.env = (false, eval e X.env) :: starEach es X.env) (hpl : (backTo pos (starEach es X.env)).any (·.1) = false) :
    PE X (.Call (.Name x p) (e :: es) [] pos) (toTE X.K xa Z (ev cl (.mk c f as))) := by
  obtain ⟨fa, fd, G, hm, hk, hb, _⟩ := cc.ex
  have hm : MthC X.K cs "__init__" fa := hm
  have M2 : Mk X.K (WorldI.cA c) fa := ⟨M.makes, (hm.m c hcs).at_, (hm.m c hcs).fn, M.kp⟩
  refine pe_imp (pe_makeG (E := WE Z) M2 G hgd hr hg M.m hb (fun σ => passAt tk σ) ha hdb he hpl) fun σ H Q ⟨F, E, S, q⟩ => ?_
  unfold ev at q
  exact ⟨F, E, S, (Post.bindB q).mono fun xs E1 F1 H1 _ S1 x1 q2 vs rs y dy hy hdy ne => mk_ask cc.num S1 x1 rs q2 y dy hy hdy ne⟩
end
end
end Sf

end

section
set_option maxRecDepth 100000
set_option maxHeartbeats 1000000
/-! Sf: list comprehensions of two for. -/
namespace Sf
open PySem PySem.Spec PyProof.Rows L2
variable [WorldI]

/-- what is walked, without a lock -/
def toTI0 (K : PySem.W.Frag) (xa : Nat → Addr) (Z : WX) (f : Sto → Res (List D)) : TI := fun σ H R => ∃ F E, SR K F H E σ ∧ Post K xa Z (f E) F H E σ fun ds E' F' H' =>
  ∀ J, Wk F' none J ds → R J H'
section
variable {X : Cx} {xa : Nat → Addr} {Z : WX} {cl : Nat → List W → CRes} {tg : Expr}
theorem di_its0 {e : Expr} {x : IE} (h : PE X e (toTE X.K xa Z (ev cl x))) : PI X tg e (toTI0 X.K xa Z (evR cl (.its x))) := by
  refine ⟨fun pins s σ H R I ⟨F, E, S, p⟩ => ?_⟩
  unfold evR at p
  cases q : ev cl x E with
  | stuck =>
    rw [q] at p
    exact p.elim
  | exc c E1 =>
    rw [q] at p
    refine (pi_list (tg := tg) h).run pins s σ H R I ⟨F, E, S, ?_⟩
    rw [q]
    exact p
  | ok w E1 =>
    rw [q] at p
    obtain ⟨ds, e1, p2⟩ := Post.liftB p
    cases w with
    | fz d =>
      cases d with
      | list xs =>
        cases e1
        refine (pi_list (tg := tg) h).run pins s σ H R I ⟨F, E, S, ?_⟩
        rw [q]
        intro F1 H1 S1 x1 v r
        have r1 : RF F1 v (.list ds) := r.1
        cases r1 with
        | lst a z b => exact ⟨_, rfl, ⟨_, SqL.of (S1.le _ _ a)⟩, p2 F1 H1 S1 x1 _ (wk_lst (fun F H l1 l2 _ => SqL.of (l2 _ _ (l1 _ _ a))) z b)⟩
      | tuple xs =>
        cases e1
        refine (pi_tup (tg := tg) h).run pins s σ H R I ⟨F, E, S, ?_⟩
        rw [q]
        intro F1 H1 S1 x1 v r
        have r1 : RF F1 v (.tuple ds) := r.1
        cases r1 with
        | tup a z b => exact ⟨_, rfl, ⟨_, SqT.of (S1.le _ _ a)⟩, p2 F1 H1 S1 x1 _ (wk_tup (fun F H l1 l2 _ => SqT.of (l2 _ _ (l1 _ _ a))) z b)⟩
      | _ => cases e1
    | ol xs =>
      cases e1
      refine (pi_list (tg := tg) h).run pins s σ H R I ⟨F, E, S, ?_⟩
      rw [q]
      intro F1 H1 S1 x1 v r
      obtain ⟨F2, S2, l2, n2, r2⟩ := S1.freezeT r
      have x2 := x1.widen l2 n2
      cases r2 with
      | lst a z b => exact ⟨_, rfl, ⟨_, SqL.of (S2.le _ _ a)⟩, p2 F2 H1 S2 x2 _ (wk_lst (fun F H l1 l2 _ => SqL.of (l2 _ _ (l1 _ _ a))) z b)⟩
    | od t kvs => cases t <;> cases e1
    | _ => cases e1

theorem di_r10 {e : Expr} {n : IE} {p pos : Pos} (hg : Gl X "range") (hm : X.mg "range" = none) (h : PE X e (toTE X.K xa Z (ev cl n))) (hs : starEach [e] X.env = [(false, eval e X.env)]) : PI X tg (.Call (.Name "range" p) [e] [] pos) (toTI0 X.K xa Z (evR cl (.r1 n))) := by
  refine ⟨fun pins s σ H R I ⟨F, E, S, q⟩ => (pi_range1 hg hm (pa_cons h pa_nil hs) hs).run pins s σ H R I ?_⟩
  unfold evR at q
  refine ⟨F, E, S, (Post.bindB q).mono fun w E1 F1 H1 _ S1 x1 q2 v r => ?_⟩
  cases w with
  | fz d =>
    cases d with
    | int j =>
      obtain ⟨ds, e1, q3⟩ := Post.liftB q2
      obtain ⟨b, bz, rfl⟩ := rangeD_some e1
      have r1 : RF F1 v (.int j) := r.1
      cases r1
      refine ⟨j, rfl, b.2.2.1, b.2.2.2, q3 F1 H1 S1 x1 _ ?_⟩
      have : (j - 0).toNat = j.toNat := by rw [Int.sub_zero]
      rw [this] at bz ⊢
      exact wk_rng bz
    | _ => exact q2.elim
  | _ => exact q2.elim

theorem di_r20 {e e2 : Expr} {n m : IE} {p pos : Pos} (hg : Gl X "range") (hm : X.mg "range" = none) (h : PE X e (toTE X.K xa Z (ev cl n))) (h2 : PE X e2 (toTE X.K xa Z (ev cl m))) (hs2 : starEach [e2] X.env = [(false, eval e2 X.env)]) (hs : starEach [e, e2] X.env = [(false, eval e X.env), (false, eval e2 X.env)]) :
    PI X tg (.Call (.Name "range" p) [e, e2] [] pos) (toTI0 X.K xa Z (evR cl (.r2 n m))) := by
  refine ⟨fun pins s σ H R I ⟨F, E, S, q⟩ => (pi_range2 hg hm (pa_cons h (pa_cons h2 pa_nil hs2) (by rw [hs, hs2])) hs hs2).run pins s σ H R I ?_⟩
  unfold evR at q
  refine ⟨F, E, S, (Post.bind_ q).mono fun w E1 F1 H1 _ S1 x1 q2 v r => ⟨F1, E1, S1, (Post.bindB q2).mono fun u E2 F2 H2 _ S2 x2 q3 v2 r2 => ?_⟩⟩
  cases w with
  | fz d =>
    cases d with
    | int i =>
      cases u with
      | fz d2 =>
        cases d2 with
        | int j =>
          obtain ⟨ds, e1, q4⟩ := Post.liftB q3
          obtain ⟨b, bz, rfl⟩ := rangeD_some e1
          have r1 : RF F1 v (.int i) := r.1
          have r3 : RF F2 v2 (.int j) := r2.1
          cases r1
          cases r3
          exact ⟨i, j, rfl, b, q4 F2 H2 S2 x2 _ (wk_rng bz)⟩
        | _ => exact q3.elim
      | _ => exact q3.elim
    | _ => exact q3.elim
  | _ => exact q3.elim

end

section
variable {K : PySem.W.Frag}
/-- as Ext, but for the list D that grows -/
structure ExtD (D : Addr) (F H : Hp) (E : Sto) (σ : L2.St) (F' H' : Hp) (E' : Sto) : Prop where
  fle : Le F F'
  keep : ∀ b o, b ≠ D → H b = some o → (∀ i, ¬ mutAt E σ i b) → H' b = some o
  fnew : ∀ b, F' b ≠ none → F b ≠ none ∨ (∃ i, mutAt E σ i b) ∨ H b = none
  own : ∀ i b, ownAt E' σ i b → ownAt E σ i b
  mta : ∀ i b, mutAt E' σ i b → mutAt E σ i b
  thr : ∀ b, H b ≠ none → H' b ≠ none
variable {D : Addr} {F H F1 H1 F2 H2 : Hp} {E E1 E2 : Sto} {σ : L2.St}
theorem ExtD.of (x : Ext F H E σ F1 H1 E1) : ExtD D F H E σ F1 H1 E1 := ⟨x.fle, fun b o _ h n => x.keep b o h n, x.fnew, x.own, x.mta, x.thr⟩
theorem ExtD.trans (a : ExtD D F H E σ F1 H1 E1) (b : ExtD D F1 H1 E1 σ F2 H2 E2) : ExtD D F H E σ F2 H2 E2 := by
  refine ⟨a.fle.trans b.fle, fun x o ne h n => b.keep x o ne (a.keep x o ne h n) fun i q => n i (a.mta i x q), fun x h => ?_, fun i x q => a.own i x (b.own i x q), fun i x q => a.mta i x (b.mta i x q), fun x h => b.thr x (a.thr x h)⟩
  rcases b.fnew x h with q | ⟨i, q⟩ | q
  · exact a.fnew x q
  · exact .inr (.inl ⟨i, a.mta i x q⟩)
  · refine .inr (.inr ?_)
    cases e : H x with
    | none => rfl
    | some o => exact absurd q (a.thr x (by rw [e]; exact fun z => nomatch z))
/-- a list that was not there at the start -/
theorem ExtD.ext (x : ExtD D F H E σ F1 H1 E1) (h : H D = none) : Ext F H E σ F1 H1 E1 := ⟨x.fle, fun b o q n => x.keep b o (fun z => by rw [z, h] at q; cases q) q n, x.fnew, x.own, x.mta, x.thr⟩
theorem ExtD.updD {o : HO} (x : ExtD D F H E σ F1 H1 E1) : ExtD D F H E σ F1 (upd H1 D o) E1 := by
  refine ⟨x.fle, fun b u ne q n => ?_, x.fnew, x.own, x.mta, fun b q => ?_⟩
  · rw [upd_ne ne]
    exact x.keep b u ne q n
  · by_cases z : b = D
    · rw [z, upd_same]
      exact fun y => nomatch y
    · rw [upd_ne z]
      exact x.thr b q
/-- the list so far -/
structure LcD (K : PySem.W.Frag) (D : Addr) (F1 H1 : Hp) (E1 : Sto) (σ1 : L2.St) (F H : Hp) (E : Sto) (acc : List V) (ys : List PyData) : Prop where
  S : SR K F H E σ1
  x : ExtD D F1 H1 E1 σ1 F H E
  hD : H D = some (.lst acc)
  fD : F D = none
  r : RFs F acc ys
variable {acc : List V} {ys : List PyData}
theorem LcD.nD (w : LcD K D F1 H1 E1 σ F H E acc ys) (n : ∀ j, ¬ ownAt E1 σ j D) : ∀ j, ¬ ownAt E σ j D := fun j q => n j (w.x.own j D q)
theorem LcD.fn {F4 H4 : Hp} {E4 : Sto} (w : LcD K D F1 H1 E1 σ F H E acc ys) (n : ∀ j, ¬ ownAt E1 σ j D) (x4 : ExtD D F H E σ F4 H4 E4) : F4 D = none := by
  cases z : F4 D with
  | none => rfl
  | some u =>
    exfalso
    rcases x4.fnew D (by rw [z]; exact fun q => nomatch q) with q | ⟨j, q⟩ | q
    · exact q w.fD
    · exact w.nD n j q.own
    · rw [w.hD] at q
      cases q
theorem LcD.turn {F4 H4 : Hp} {E4 : Sto} (w : LcD K D F1 H1 E1 σ F H E acc ys) (n : ∀ j, ¬ ownAt E1 σ j D) (S4 : SR K F4 H4 E4 σ) (x4 : Ext F H E σ F4 H4 E4) : LcD K D F1 H1 E1 σ F4 H4 E4 acc ys :=
  ⟨S4, w.x.trans (.of x4), x4.keep D _ w.hD fun j q => w.nD n j q.own, w.fn n (.of x4), w.r.up x4.fle⟩
theorem LcD.add {y : PyData} {v : V} (w : LcD K D F1 H1 E1 σ F H E acc ys) (n : ∀ j, ¬ ownAt E1 σ j D) (r : RF F v y) : LcD K D F1 H1 E1 σ F (upd H D (.lst (acc ++ [v]))) E (acc ++ [v]) (ys ++ [y]) :=
  ⟨w.S.updD w.fD (w.nD n), w.x.updD, upd_same, w.fD, w.r.app (.cons r .nil)⟩

/-- a turn's frame -/
theorem turnE {vs : List Nat} {σ4 : L2.St} {F3 H3 F5 H5 : Hp} {E3 E5 : Sto} (S : SR K F H E (wipe σ vs)) (gr : Grow F H F3 H3) (ow4 : OwB E (wipe σ vs) E3 σ4) (hw : wipe σ4 vs = wipe σ vs) (S5 : SR K F5 H5 E5 σ4) (x5 : ExtD D F3 H3 E3 σ4 F5 H5 E5) :
    SR K F5 H5 (wipeS E5 vs) (wipe σ vs) ∧ ExtD D F H E (wipe σ vs) F5 H5 (wipeS E5 vs) := by
  have Sw5 : SR K F5 H5 (wipeS E5 vs) (wipe σ vs) := by
    rw [← hw]
    exact S5.wipe
  have xg := Ext.grow S gr
  refine ⟨Sw5, ⟨xg.fle.trans x5.fle, fun b u ne hb n => x5.keep b u ne (xg.keep b u hb n) fun j z => n j (ow4.2 j b z), fun b hb => ?_, fun j b hb => ?_, fun j b hb => ?_, fun b hb => x5.thr b (xg.thr b hb)⟩⟩
  · rcases x5.fnew b hb with z | ⟨j, z⟩ | z
    · exact xg.fnew b z
    · exact .inr (.inl ⟨j, ow4.2 j b z⟩)
    · refine .inr (.inr ?_)
      cases e : H b with
      | none => rfl
      | some u => exact absurd z (xg.thr b (by rw [e]; exact fun y => nomatch y))
  · refine ow4.1 j b (x5.own j b (ownW (vs := vs) ?_))
    rw [hw]
    exact hb
  · refine ow4.2 j b (x5.mta j b (mutW (vs := vs) ?_))
    rw [hw]
    exact hb
theorem turnX {vs : List Nat} {σ4 : L2.St} {F3 H3 F5 H5 : Hp} {E3 E5 : Sto} (S : SR K F H E (wipe σ vs)) (gr : Grow F H F3 H3) (ow4 : OwB E (wipe σ vs) E3 σ4) (hw : wipe σ4 vs = wipe σ vs) (S5 : SR K F5 H5 E5 σ4) (x5 : Ext F3 H3 E3 σ4 F5 H5 E5) :
    SR K F5 H5 (wipeS E5 vs) (wipe σ vs) ∧ Ext F H E (wipe σ vs) F5 H5 (wipeS E5 vs) := by
  have Sw5 : SR K F5 H5 (wipeS E5 vs) (wipe σ vs) := by
    rw [← hw]
    exact S5.wipe
  have xg := Ext.grow S gr
  refine ⟨Sw5, ⟨xg.fle.trans x5.fle, fun b u hb n => x5.keep b u (xg.keep b u hb n) fun j z => n j (ow4.2 j b z), fun b hb => ?_, fun j b hb => ?_, fun j b hb => ?_, fun b hb => x5.thr b (xg.thr b hb)⟩⟩
  · rcases x5.fnew b hb with z | ⟨j, z⟩ | z
    · exact xg.fnew b z
    · exact .inr (.inl ⟨j, ow4.2 j b z⟩)
    · refine .inr (.inr ?_)
      cases e : H b with
      | none => rfl
      | some u => exact absurd z (xg.thr b (by rw [e]; exact fun y => nomatch y))
  · refine ow4.1 j b (x5.own j b (ownW (vs := vs) ?_))
    rw [hw]
    exact hb
  · refine ow4.2 j b (x5.mta j b (mutW (vs := vs) ?_))
    rw [hw]
    exact hb
/-- a block's frame -/
theorem ExtD.block {vs : List Nat} {F' H' : Hp} {E' : Sto} (S' : SR K F' H' E' (L2.wipe σ vs)) (x : ExtD D F H (wipeS E vs) (L2.wipe σ vs) F' H' E') : ExtD D F H E σ F' H' E' :=
  ⟨x.fle, fun b o ne h n => x.keep b o ne h fun i q => n i (mutW q), fun b h => (x.fnew b h).imp_right fun q => q.imp_left fun ⟨i, q⟩ => ⟨i, mutW q⟩, fun i b h => ownW (x.own i b (S'.unwipe.2.1 i b h)), fun i b h => mutW (x.mta i b (S'.unwipe.2.2 i b h)), x.thr⟩
end
theorem wipe_sub {σ σ3 : L2.St} {vs ws : List Nat} (h : ∀ j, j ∉ vs → σ3[j]? = σ[j]?) (hs : ∀ j ∈ vs, j ∈ ws) (l : σ3.length = σ.length) : wipe σ3 ws = wipe σ ws := wipe_eq (fun j hj => h j fun q => hj (hs j q)) l

def lc2F (cl : Nat → List W → CRes) (elt : IE) (tg tg1 : Tg) (src1 : IR) (cnd : IT) : PyData → Sto → Res (List PyData) := fun d E2 => (Res.lift (tg.put d E2) E2).bind fun E3 _ => (evR cl src1 E3).bind fun es E4 => (mapR (lcF cl elt tg1 cnd) es (wipeS E4 tg1.slots)).bind fun ys E9 => .ok ys (wipeS E9 (tg.slots ++ tg1.slots))
theorem mapR_cons {f : PyData → Sto → Res (Option PyData)} {ds : List PyData} {i : Nat} {E E9 : Sto} {rest : List PyData} (q : i < ds.length) (e0 : mapR f (ds.drop i) E = .ok rest E9) : ∃ o E6 rest2, f ds[i] E = .ok o E6 ∧ mapR f (ds.drop (i + 1)) E6 = .ok rest2 E9 ∧ rest = match (generalizing := false) o with | none => rest2 | some y => y :: rest2 := by
  rw [List.drop_eq_getElem_cons q] at e0
  unfold mapR at e0
  obtain ⟨o, E6, e1, e2⟩ := res_ok e0
  obtain ⟨rest2, E10, e3, e4⟩ := res_ok e2
  cases e4
  exact ⟨o, E6, rest2, e1, e3, rfl⟩
theorem mapL_cons {f : PyData → Sto → Res (List PyData)} {ds : List PyData} {i : Nat} {E E9 : Sto} {rest : List PyData} (q : i < ds.length) (e0 : mapL f (ds.drop i) E = .ok rest E9) : ∃ o E6 rest2, f ds[i] E = .ok o E6 ∧ mapL f (ds.drop (i + 1)) E6 = .ok rest2 E9 ∧ rest = o ++ rest2 := by
  rw [List.drop_eq_getElem_cons q] at e0
  unfold mapL at e0
  obtain ⟨o, E6, e1, e2⟩ := res_ok e0
  obtain ⟨rest2, E10, e3, e4⟩ := res_ok e2
  cases e4
  exact ⟨o, E6, rest2, e1, e3, rfl⟩
section
variable {K : PySem.W.Frag} {xa : Nat → Addr} {Z : WX} {cl : Nat → List W → CRes}
theorem lc2_ask {elt : IE} {tg tg1 : Tg} {src src1 : IR} {cnd : IT} {g g1 : TG} {σ : L2.St} {H : Hp} {Q : VK} (ht : TgOk K [] g tg) (ht1 : TgOk K [] g1 tg1) (hl : ∀ i ∈ tg.slots, i < σ.length) (hl1 : ∀ i ∈ tg1.slots, i < σ.length) (h : toTE K xa Z (ev cl (.lc2 elt tg src tg1 src1 cnd)) σ H Q) :
    tLc2 (toTI K xa Z (evR cl src)) g (toTT K xa Z0 (evT cl .tt)) (toTI0 K xa Z0 (evR cl src1)) g1 (toTT K xa Z0 (evT cl cnd)) (toTE K xa Z0 (ev cl elt)) (tg.slots ++ tg1.slots) tg1.slots σ H Q := by
  obtain ⟨F, E, S, p⟩ := h
  unfold ev at p
  refine ⟨F, E, S, (Post.bindB p).mono fun ds E1 F1 H1 _ S1 x1 p2 J lk wk lh nm D hD => ?_⟩
  generalize hvs : tg.slots ++ tg1.slots = vs at p2 ⊢
  have sub0 : ∀ j ∈ tg.slots, j ∈ vs := fun j hj => by rw [← hvs]; exact List.mem_append_left _ hj
  have sub1 : ∀ j ∈ tg1.slots, j ∈ vs := fun j hj => by rw [← hvs]; exact List.mem_append_right _ hj
  have p3 : Post K xa Z ((Res.noX (mapL (lc2F cl elt tg tg1 src1 cnd) ds (wipeS E1 vs))).bind fun ys E9 => if ys.length ≤ lineN then .ok (.ol ys) (src.unlock E E9) else .stuck) F H E σ fun w E' F' H' => ∀ v, Rs K F' H' H E' σ w v → Q v H' := by
    unfold lc2F lcF
    rw [hvs]
    exact p2
  cases em : mapL (lc2F cl elt tg tg1 src1 cnd) ds (wipeS E1 vs) with
  | stuck =>
    rw [em] at p3
    exact p3.elim
  | exc c E9 =>
    rw [em] at p3
    exact p3.elim
  | ok all E9 =>
    rw [em] at p3
    have p3b : Post K xa Z (if all.length ≤ lineN then .ok (.ol all) (src.unlock E E9) else .stuck) F H E σ fun w E' F' H' => ∀ v, Rs K F' H' H E' σ w v → Q v H' := p3
    split at p3b
    case isFalse => exact p3b.elim
    rename_i hall
    have p4 : Post K xa Z (.ok (.ol all) (src.unlock E E9)) F H E σ fun w E' F' H' => ∀ v, Rs K F' H' H E' σ w v → Q v H' := p3b
    have fD : F1 D = none := none_le S1.le hD
    have Sw : SR K F1 H1 (wipeS E1 vs) (wipe σ vs) := S1.wipe
    have n1 : ∀ j, ¬ ownAt (wipeS E1 vs) (wipe σ vs) j D := fun j q => q.some_at Sw hD
    have gr : Grow F1 H1 F1 (upd H1 D (.lst [])) := Grow.newL S1.le hD
    have nmw : ∀ a o, lk = some (a, o) → ∀ j, ¬ mutAt (wipeS E1 vs) (wipe σ vs) j a := fun a o e j q => nm a o e j (mutW q)
    refine ⟨fun i m H => m + i = ds.length ∧ ∃ F2 E2 acc ys rest, LcD K D F1 H1 (wipeS E1 vs) (wipe σ vs) F2 H E2 acc ys ∧ mapL (lc2F cl elt tg tg1 src1 cnd) (ds.drop i) E2 = .ok rest E9 ∧ ys ++ rest = all,
      ⟨ds.length, rfl, F1, wipeS E1 vs, [], [], all, ⟨Sw.grow gr, .of (Ext.grow Sw gr), upd_same, fD, .nil⟩, em, rfl⟩, ?_⟩
    rintro i m H2 ⟨hm, F2, E2, acc, ys, rest, w, eq, al⟩
    have lh2 : Lh lk H2 := fun a o e => w.x.keep a o (fun z => by have := lh a o e; rw [z, hD] at this; cases this) (lh a o e) (nmw a o e)
    by_cases q : i < ds.length
    · right
      have hd : ds[i]? = some ds[i] := List.getElem?_eq_getElem q
      obtain ⟨go, yl⟩ := wk.go i _ F2 H2 hd w.x.fle w.S.le lh2
      refine ⟨go, fun H' => m - 1 + (i + 1) = ds.length ∧ ∃ F2 E2 acc ys rest, LcD K D F1 H1 (wipeS E1 vs) (wipe σ vs) F2 H' E2 acc ys ∧ mapL (lc2F cl elt tg tg1 src1 cnd) (ds.drop (i + 1)) E2 = .ok rest E9 ∧ ys ++ rest = all, fun H' n => ⟨m - 1, by omega, n⟩, fun x H' y => ?_⟩
      obtain ⟨F3, gr3, rx⟩ := yl x H' y
      have S3 := w.S.grow gr3
      obtain ⟨o, E6, rest2, e1, e3, eo⟩ := mapL_cons q eq
      unfold lc2F at e1
      obtain ⟨E3, _, e5, e6⟩ := res_ok e1
      obtain ⟨e7, _⟩ := lift_ok e5
      obtain ⟨es, E4, e8, e9⟩ := res_ok e6
      obtain ⟨ysi, E9i, e10, e11⟩ := res_ok e9
      cases e11
      refine ht _ _ E3 F3 H' (wipe σ vs) x _ e7 S3 rx (fun j hj => ⟨by rw [wipe_length]; exact hl j hj, rfl⟩) fun σ4 S4 x4 o4 ow4 => ?_
      have hw4 : wipe σ4 vs = wipe σ vs := by rw [wipe_sub (σ := wipe σ vs) o4 sub0 x4.ln, wipe_twice]
      refine ⟨hw4, F3, E3, S4, ?_⟩
      unfold evT
      intro F5 H5 S5 x5
      show if true = true then _ else _
      rw [if_pos rfl]
      refine ⟨F5, E3, S5, post_ok e8 fun F6 H6 S6 x6 J1 wk1 => ?_⟩
      have ow4' : OwB E2 (wipe σ vs) E3 σ4 := ow4
      have x56 := x5.trans x6
      -- the list at the inner start
      have hD6 : H6 D = some (.lst acc) := by
        have g1 : H' D = some (.lst acc) := gr3.2.1 D _ w.hD
        exact x56.keep D _ g1 fun j z => w.nD n1 j (ow4'.2 j D z).own
      have n4 : ∀ j, ¬ ownAt E4 σ4 j D := fun j z => w.nD n1 j (ow4'.1 j D (x56.own j D z))
      have fD6 : F6 D = none := by
        cases z : F6 D with
        | none => rfl
        | some u =>
          exfalso
          rcases x56.fnew D (by rw [z]; exact fun q => nomatch q) with q | ⟨j, q⟩ | q
          · have z3 : F3 D = none := by
              cases z3 : F3 D with
              | none => rfl
              | some u3 =>
                exfalso
                rcases gr3.2.2.2 D (by rw [z3]; exact fun q => nomatch q) with q3 | q3
                · exact q3 w.fD
                · rw [w.hD] at q3
                  cases q3
            exact q z3
          · exact w.nD n1 j (ow4'.2 j D q).own
          · have g1 : H' D = some (.lst acc) := gr3.2.1 D _ w.hD
            rw [g1] at q
            cases q
      have Swi : SR K F6 H6 (wipeS E4 tg1.slots) (wipe σ4 tg1.slots) := S6.wipe
      have ni : ∀ j, ¬ ownAt (wipeS E4 tg1.slots) (wipe σ4 tg1.slots) j D := fun j z => n4 j (ownW z)
      have r6 : RFs F6 acc ys := w.r.up (gr3.1.trans x56.fle)
      refine ⟨fun j k H => k + j = es.length ∧ ∃ F E acc' ys' rest', LcD K D F6 H6 (wipeS E4 tg1.slots) (wipe σ4 tg1.slots) F H E acc' (ys ++ ys') ∧ mapR (lcF cl elt tg1 cnd) (es.drop j) E = .ok rest' E9i ∧ ys' ++ rest' = o,
        ⟨es.length, rfl, F6, wipeS E4 tg1.slots, acc, [], o, ⟨Swi, .of (Ext.refl ..), hD6, fD6, by rw [List.append_nil]; exact r6⟩, e10, rfl⟩, ?_⟩
      rintro j k H7 ⟨hk, F7, E7, acc7, ys7, rest7, w7, eq7, al7⟩
      by_cases q7 : j < es.length
      · right
        have hd1 : es[j]? = some es[j] := List.getElem?_eq_getElem q7
        obtain ⟨go1, yl1⟩ := wk1.go j _ F7 H7 hd1 w7.x.fle w7.S.le Lh.no
        refine ⟨go1, fun H' => k - 1 + (j + 1) = es.length ∧ ∃ F E acc' ys' rest', LcD K D F6 H6 (wipeS E4 tg1.slots) (wipe σ4 tg1.slots) F H' E acc' (ys ++ ys') ∧ mapR (lcF cl elt tg1 cnd) (es.drop (j + 1)) E = .ok rest' E9i ∧ ys' ++ rest' = o, fun H' n => ⟨k - 1, by omega, n⟩, fun x1' H8 y1 => ?_⟩
        obtain ⟨F8, gr8, rx8⟩ := yl1 x1' H8 y1
        have S8 := w7.S.grow gr8
        obtain ⟨o1, E10, rest8, f1, f3, fo⟩ := mapR_cons q7 eq7
        unfold lcF at f1
        obtain ⟨E11, _, f5, f6⟩ := res_ok f1
        obtain ⟨f7, _⟩ := lift_ok f5
        obtain ⟨t, E12, f8, f9⟩ := res_ok f6
        have ln4 : σ4.length = σ.length := by rw [x4.ln, wipe_length]
        refine ht1 _ _ E11 F8 H8 (wipe σ4 tg1.slots) x1' _ f7 S8 rx8 (fun j hj => ⟨by rw [wipe_length, ln4]; exact hl1 j hj, rfl⟩) fun σ5 S9 x9 o9 ow9 => ⟨?_, ?_⟩
        · rw [wipe_eq (σ := wipe σ4 tg1.slots) o9 x9.ln, wipe_twice]
        have hw5 : wipe σ5 tg1.slots = wipe σ4 tg1.slots := by rw [wipe_eq (σ := wipe σ4 tg1.slots) o9 x9.ln, wipe_twice]
        refine ⟨F8, E11, S9, post_ok f8 fun F12 H12 S12 x12 => ?_⟩
        cases t with
        | true =>
          rw [if_pos rfl] at f9 ⊢
          obtain ⟨u, E13, f10, f11⟩ := res_ok f9
          obtain ⟨y2, E14, f12, f13⟩ := res_ok f11
          obtain ⟨f14, _⟩ := lift_ok f12
          cases f13
          refine ⟨F12, E12, S12, post_ok f10 fun F13 H13 S13 x13 v rv => ?_⟩
          have fr : ∃ F14, SR K F14 H13 E13 σ5 ∧ Ext F12 H12 E12 σ5 F14 H13 E13 ∧ RF F14 v y2 := by
            cases u with
            | fz d =>
              cases f14
              exact ⟨F13, S13, x13, rv.1⟩
            | ol xs =>
              cases f14
              obtain ⟨F14, S14, l14, n14, r14⟩ := S13.freezeT rv
              exact ⟨F14, S14, x13.widen l14 n14, r14⟩
            | _ => cases f14
          obtain ⟨F14, S14, x14, r14⟩ := fr
          obtain ⟨Sw14, xw14⟩ := turnX w7.S gr8 ow9 hw5 S14 (x12.trans x14)
          have w8 := w7.turn ni Sw14 xw14
          have w9 := w8.add (y := y2) (v := v) ni r14
          have eo2 : rest7 = y2 :: rest8 := fo
          have lenA : acc7.length < all.length := by
            have h1 := w7.r.len
            rw [← al, List.length_append, eo, List.length_append, ← al7, List.length_append, eo2]
            rw [List.length_append] at h1
            simp only [List.length_cons]
            omega
          refine ⟨acc7, w8.hD, by rw [line_eq]; exact Nat.lt_of_lt_of_le lenA hall, by omega, F14, _, acc7 ++ [v], ys7 ++ [y2], rest8, by rw [← List.append_assoc]; exact w9, f3, ?_⟩
          rw [← al7, eo2, List.append_assoc]
          rfl
        | false =>
          rw [if_neg Bool.false_ne_true] at f9 ⊢
          cases f9
          obtain ⟨Sw12, xw12⟩ := turnX w7.S gr8 ow9 hw5 S12 x12
          exact ⟨by omega, F12, _, acc7, ys7, rest8, w7.turn ni Sw12 xw12, f3, by rw [← al7, fo]⟩
      · left
        refine ⟨wk1.st j F7 H7 (by omega) w7.x.fle w7.S.le Lh.no, by omega, ?_⟩
        rw [List.drop_eq_nil_of_le (by omega)] at eq7
        cases eq7
        rw [List.append_nil] at al7
        subst al7
        -- back to the outer turn
        have S7u := w7.S.unwipe.1
        have x7u : ExtD D F6 H6 E4 σ4 F7 H7 E9i := ExtD.block w7.S w7.x
        obtain ⟨Sf, xf⟩ := turnE w.S gr3 ow4' hw4 S7u ((ExtD.of x56).trans x7u)
        refine ⟨F7, wipeS E9i vs, acc7, ys ++ ys7, rest2, ⟨Sf, w.x.trans xf, w7.hD, w7.fD, w7.r⟩, by rw [hvs] at e3; exact e3, ?_⟩
        rw [← al, eo, List.append_assoc]
    · left
      refine ⟨wk.st i F2 H2 (by omega) w.x.fle w.S.le lh2, ?_⟩
      rw [List.drop_eq_nil_of_le (by omega)] at eq
      cases eq
      rw [List.append_nil] at al
      subst al
      have S2 := w.S.unwipe
      have x2 := x1.trans ((ExtD.block w.S w.x).ext hD)
      obtain ⟨S3, x3, o3⟩ := unlock_all (src := src) S2.1 x2
      refine p4 F2 H2 S3 x3 (.ref D) ⟨⟨D, acc, rfl, w.hD, hall, w.r⟩, fun _ a e => ?_⟩
      cases e
      refine ⟨?_, w.fD, fun j z => ?_⟩
      · cases z : H D with
        | none => rfl
        | some u => exact absurd hD (x1.thr D (by rw [z]; exact fun y => nomatch y))
      · exact (x2.own j D (o3 j D z)).some_at S (by
          cases z : H D with
          | none => rfl
          | some u => exact absurd hD (x1.thr D (by rw [z]; exact fun y => nomatch y)))
end
end Sf

end

section
set_option maxRecDepth 100000
set_option maxHeartbeats 1000000
/-! Sf: more rules as the printer uses them: instances, comprehensions of two for, xs[-2::-1]. -/
namespace Sf
open PySem PySem.Spec PyProof.Rows L2
theorem take_range {α : Type} (xs : Array α) : ∀ m : Nat, (List.range m).filterMap (xs[·]?) = xs.toList.take m
  | 0 => rfl
  | m + 1 => by
    rw [List.range_succ, List.filterMap_append, take_range xs m, List.take_succ]
    congr 1
    have e : xs.toList[m]? = xs[m]? := Array.getElem?_toList
    rw [e]
    cases h : xs[m]? <;> simp [h]
theorem bounds_rvt (n : Nat) : sliceBounds (some (-2)) none (some (-1)) n = (((n - 1 : Nat) : Int) - 1, -1, -1) := by
  show (max (-1) (min ((-2 : Int) + n) ((n : Int) - 1)), -1, -1) = _
  congr 1
  omega
theorem pick_rvt (items : Array Value) : slicePick items (some (-2)) none (some (-1)) = items.toList.dropLast.reverse.toArray := by
  unfold slicePick
  rw [bounds_rvt]
  show ((sliceRange (((items.size - 1 : Nat) : Int) - 1) (-1) (-1)).filterMap (items[·]?)).toArray = _
  rw [PySem.W.krv_sliceRange, PySem.W.krv_range, List.filterMap_reverse, take_range items _, List.dropLast_eq_take, Array.length_toList]
variable [WorldI]
section
variable {X : Cx}
def tRvt (K : PySem.W.Frag) (te : TE) : TE := fun σ H Q => te σ H fun x H1 => ∃ a xs, x = .ref a ∧ SqL K H1 a xs ∧ ∀ p, H1 p = none → Q (.ref p) (upd H1 p (.lst xs.dropLast.reverse))
theorem Vals.dropLast {xs : List V} {us : List Value} (r : Vals xs us) : Vals xs.dropLast us.dropLast := by
  rw [List.dropLast_eq_take, List.dropLast_eq_take, r.length]
  exact r.take _
theorem pe_rvt {e : Expr} {te : TE} {k1 k2 : Nat} {u1 u2 p1 p2 p3 pos : Pos} (he : PE X e te) : PE X (.Subscript e (.Slice (some (.UnaryOp .USub (.Constant (.int 2) k2 u1) u2)) none (some (.UnaryOp .USub (.Constant (.int 1) k1 p1) p2)) p3) pos) (tRvt X.K te) := by
  refine ⟨fun pins s σ H Q I h => ?_⟩
  refine Subscript_ (thn (he.run pins s σ H _ I h) fun v s1 ⟨x, H1, I1, r1, q1⟩ => ?_)
  have hlo : PO X (some (.UnaryOp .USub (.Constant (.int 2) k2 u1) u2)) (tPart (tUn (rU fun i => .int (-i)) (tC (.int 2)))) := po_some (pe_un un_neg pe_int)
  have hst : PO X (some (.UnaryOp .USub (.Constant (.int 1) k1 p1) p2)) (tPart (tUn (rU fun i => .int (-i)) (tC (.int 1)))) := po_some (pe_un un_neg pe_int)
  refine wpAny_Slice (thn (hlo.run pins s1 σ H1 (fun o H2 => o = some (-2) ∧ H2 = H1) I1 ⟨2, rfl, -2, rfl, rfl, rfl⟩) fun vl s2 ⟨l, H2, I2, pl, el, e2⟩ => ?_)
  subst el e2
  refine thn (po_none.run pins s2 σ H2 (fun o H3 => o = none ∧ H3 = H2) I2 ⟨rfl, rfl⟩) fun vu s3 ⟨u, H3, I3, pu, eu, e3⟩ => ?_
  subst eu e3
  refine thn (hst.run pins s3 σ H3 (fun o H4 => o = some (-1) ∧ H4 = H3) I3 ⟨1, rfl, -1, rfl, rfl, rfl⟩) fun vs s4 ⟨o, H4, I4, ps, eo, e4⟩ => ?_
  subst eo e4
  have I5 : Inv X pins σ H4 { s4 with heap := s4.heap.push { cls := .type "slice", data := .fields #[vl, vu, vs] } } := I4.kept (t' := s4.toks) fun b ob q => Heap.get?_push_of_some _ q
  obtain ⟨a, xs, ex, hx, q⟩ := q1
  subst ex
  cases r1
  obtain ⟨its, r, ht, hz⟩ := I5.list hx
  have hlen := r.length
  show wpAny (model X.prog X.w) X.A (subscriptTail e _ (.ref a) (.ref s4.heap.objs.size)) (EP X pins σ Q) X.xe { s4 with heap := s4.heap.push { cls := .type "slice", data := .fields #[vl, vu, vs] } }
  refine tail_any (ops := [.ref a, .ref s4.heap.objs.size]) ht.isList.typeIs (PySem.slot_list_getitem.lookup) ?_ (by with_unfolding_all rfl)
  refine wpAny_getItem_list_slice ht.isList (Heap.IsSliceOf.new _ vl vu vs) pl pu ps (by decide) ?_ (by rw [List.size_toArray]; omega)
  rw [pick_rvt]
  refine ⟨.ref _, _, I5.laid (t' := s4.toks) (o := .lst xs.dropLast.reverse) (fun b ob q => Heap.get?_push_of_some _ q) (Nat.le_refl _) ?_, rfl, q _ (I5.hok.fresh (Nat.le_refl _))⟩
  exact ⟨by rw [List.length_reverse, List.length_dropLast]; exact Nat.le_trans (Nat.sub_le _ _) hz, _, 0, (Vals.dropLast r).reverse, Heap.get?_push_size _ rfl⟩
end
section
variable {X : Cx} {xa : Nat → Addr} {Z : WX} {cl : Nat → List W → CRes} {bo : List Bool} {pos p : Pos}
theorem RFs.dropLast {F : Hp} {vs : List V} {ds : List PyData} (h : RFs F vs ds) : RFs F vs.dropLast ds.dropLast := by
  rw [List.dropLast_eq_take, List.dropLast_eq_take, h.len]
  exact h.take _
theorem v_rvt {e : Expr} {a : IA} {k1 k2 : Nat} {u1 u2 p1 p2 p3 pos : Pos} (ha : PE X e (toTA X.K xa Z (evA cl a))) : PE X (.Subscript e (.Slice (some (.UnaryOp .USub (.Constant (.int 2) k2 u1) u2)) none (some (.UnaryOp .USub (.Constant (.int 1) k1 p1) p2)) p3) pos) (toTE X.K xa Z (ev cl (.o1 .rvt a))) := by
  refine pe_imp (pe_rvt ha) fun σ H Q ⟨F, E, S, p⟩ => ?_
  unfold ev at p
  refine ⟨F, E, S, (Post.bind_ p).mono fun x E1 F1 H1 _ S1 x1 p2 v rv => ?_⟩
  obtain ⟨w, e1, p3⟩ := Post.lift_ p2
  obtain ⟨ws, e2, e3⟩ := bind_some' e1
  obtain ⟨w0, rfl⟩ := resolve_one e2
  have u := rv.use S1 e2
  have k1 : K1 X.K H1 Q F1 w := K1.of_post S1 x1.thr p3
  obtain ⟨ds, e4, rfl⟩ := map_some' (show (w0.lst?.map fun ds => W.ol ds.dropLast.reverse) = some w from e3)
  obtain ⟨a, xs, rfl, h3, hz, h4⟩ := lst_of S1.le u e4
  exact ⟨a, xs, rfl, SqL.of h3, fun p hp => k1.lst S1.le (by rw [List.length_reverse, List.length_dropLast]; exact Nat.le_trans (Nat.sub_le _ _) hz) h4.dropLast.rev hp⟩

/-! ### two for -/
theorem v_its0 {tg e : Expr} {x : IE} (h : PE X e (toTE X.K xa Z (ev cl x))) : PI X tg e (toTI0 X.K xa Z (evR cl (.its x))) := di_its0 h
theorem v_r10 {tg e : Expr} {m : IE} (hm : X.mg "range" = none) (h : PE X e (toTE X.K xa Z (ev cl m))) (hg : Gl X "range" := by rfl) (hs : starEach [e] X.env = [(false, eval e X.env)] := by rfl) : PI X tg (.Call (.Name "range" p) [e] [] pos) (toTI0 X.K xa Z (evR cl (.r1 m))) := di_r10 hg hm h hs
theorem v_r20 {tg e e2 : Expr} {m m2 : IE} (hm : X.mg "range" = none) (h : PE X e (toTE X.K xa Z (ev cl m))) (h2 : PE X e2 (toTE X.K xa Z (ev cl m2))) (hg : Gl X "range" := by rfl) (hs2 : starEach [e2] X.env = [(false, eval e2 X.env)] := by rfl) (hs : starEach [e, e2] X.env = [(false, eval e X.env), (false, eval e2 X.env)] := by rfl) :
    PI X tg (.Call (.Name "range" p) [e, e2] [] pos) (toTI0 X.K xa Z (evR cl (.r2 m m2))) := di_r20 hg hm h h2 hs2 hs
variable {elt tg iter tg1 iter1 : Expr} {ifs1 : List Expr} {scope : Scope} {g g1 : TG} {t t1 : Tg} {src src1 : IR} {x : IE} {cnd : IT}
theorem v_lc2 (own : List (Str × Nat)) (hc : X.calm = true) (hN : X.N.Nodup) (ht : TgOk X.K [] g t) (ht1 : TgOk X.K [] g1 t1)
    (hi : PI X tg iter (toTI X.K xa Z (evR cl src))) (ok : BlkOk X.N X.env.scope scope own)
    (hg : ∀ (s : Shared) (H : Hp) (C : Addr) (cs : List (Str × Addr)) (fp : List Addr), PG (X.blk s H scope (compEnvC scope cs C X.env) fp) tg g)
    (hi1 : ∀ (s : Shared) (H : Hp) (C : Addr) (cs : List (Str × Addr)) (fp : List Addr), PI (X.blk s H scope (compEnvC scope cs C X.env) fp) tg1 iter1 (toTI0 X.K xa Z0 (evR cl src1)))
    (hg1 : ∀ (s : Shared) (H : Hp) (C : Addr) (cs : List (Str × Addr)) (fp : List Addr), PG (X.blk s H scope (compEnvC scope cs C X.env) fp) tg1 g1)
    (hq : ∀ (s : Shared) (H : Hp) (C : Addr) (cs : List (Str × Addr)) (fp : List Addr), PTs (X.blk s H scope (compEnvC scope cs C X.env) fp) ifs1 (toTT X.K xa Z0 (evT cl cnd)))
    (he : ∀ (s : Shared) (H : Hp) (C : Addr) (cs : List (Str × Addr)) (fp : List Addr), PE (X.blk s H scope (compEnvC scope cs C X.env) fp) elt (toTE X.K xa Z0 (ev cl x)))
    (hsl : t.slots ++ t1.slots = own.map (·.2) := by rfl) (hl : t.slots.all (fun i => decide (i < X.N.length)) = true := by rfl) (hl1 : t1.slots.all (fun i => decide (i < X.N.length)) = true := by rfl)
    (hs : ∀ x, foldedSetIterable iter X.env x = pure x := by intro _; rfl) (hs1 : ∀ env x, foldedSetIterable iter1 env x = pure x := by intro _ _; rfl) :
    PE X (.ListComp elt [⟨tg, iter, [], 0⟩, ⟨tg1, iter1, ifs1, 0⟩] scope pos) (toTE X.K xa Z (ev cl (.lc2 x t src t1 src1 cnd))) := by
  refine ⟨fun pins s σ H Q I h => (pe_lc2 (vs1 := t1.slots) hc hN hi ok (fun i hi => by rw [← hsl]; exact List.mem_append_right _ hi) (tt := toTT X.K xa Z0 (evT cl .tt)) hg (fun _ _ _ _ _ => dts_nil (xa := xa) (Z := Z0) (cl := cl)) hi1 hg1 hq he hs hs1).run pins s σ H Q I ?_⟩
  have lenσ : σ.length = X.N.length := I.len
  rw [← hsl]
  exact lc2_ask ht ht1 (fun i q => by rw [lenσ]; exact slots_lt hl i q) (fun i q => by rw [lenσ]; exact slots_lt hl1 i q) h
theorem s_setLc2 {i : Nat} {y : Str} {py spos : Pos} (own : List (Str × Nat)) (hc : X.calm = true) (hN : X.N.Nodup) (ht : TgOk X.K [] g t) (ht1 : TgOk X.K [] g1 t1)
    (hi : PI X tg iter (toTI X.K xa Z (evR cl src))) (ok : BlkOk X.N X.env.scope scope own)
    (hg : ∀ (s : Shared) (H : Hp) (C : Addr) (cs : List (Str × Addr)) (fp : List Addr), PG (X.blk s H scope (compEnvC scope cs C X.env) fp) tg g)
    (hi1 : ∀ (s : Shared) (H : Hp) (C : Addr) (cs : List (Str × Addr)) (fp : List Addr), PI (X.blk s H scope (compEnvC scope cs C X.env) fp) tg1 iter1 (toTI0 X.K xa Z0 (evR cl src1)))
    (hg1 : ∀ (s : Shared) (H : Hp) (C : Addr) (cs : List (Str × Addr)) (fp : List Addr), PG (X.blk s H scope (compEnvC scope cs C X.env) fp) tg1 g1)
    (hq : ∀ (s : Shared) (H : Hp) (C : Addr) (cs : List (Str × Addr)) (fp : List Addr), PTs (X.blk s H scope (compEnvC scope cs C X.env) fp) ifs1 (toTT X.K xa Z0 (evT cl cnd)))
    (he : ∀ (s : Shared) (H : Hp) (C : Addr) (cs : List (Str × Addr)) (fp : List Addr), PE (X.blk s H scope (compEnvC scope cs C X.env) fp) elt (toTE X.K xa Z0 (ev cl x)))
    (hsl : t.slots ++ t1.slots = own.map (·.2) := by rfl) (hl : t.slots.all (fun i => decide (i < X.N.length)) = true := by rfl) (hl1 : t1.slots.all (fun i => decide (i < X.N.length)) = true := by rfl) (hy : X.N[i]? = some y := by rfl) (hyl : X.env.scope.names.lookup y = some .local := by rfl)
    (hsw : swapsWith (.ListComp elt [⟨tg, iter, [], 0⟩, ⟨tg1, iter1, ifs1, 0⟩] scope pos) (some (.Name y py)) spos.line X.env = pure true := by first | exact sw_true rfl rfl rfl (by decide +kernel) | exact sw_true rfl rfl rfl rfl)
    (hs : ∀ x, foldedSetIterable iter X.env x = pure x := by intro _; rfl) (hs1 : ∀ env x, foldedSetIterable iter1 env x = pure x := by intro _ _; rfl) :
    PS X (.Assign [.Name y py] (.ListComp elt [⟨tg, iter, [], 0⟩, ⟨tg1, iter1, ifs1, 0⟩] scope pos) spos) (toTS X.K xa Z bo (evS cl bo (.set i (.lc2 x t src t1 src1 cnd)))) := by
  refine ⟨fun pins s σ H D I h => ?_⟩
  have lenσ : σ.length = X.N.length := I.len
  have st := ps_setLc2 (vs1 := t1.slots) hc hN hy hyl hsw hi ok (fun i hi => by rw [← hsl]; exact List.mem_append_right _ hi) (tt := toTT X.K xa Z0 (evT cl .tt)) hg (fun _ _ _ _ _ => dts_nil (xa := xa) (Z := Z0) (cl := cl)) hi1 hg1 hq he hs hs1
  refine st.run pins s σ H D I ?_
  obtain ⟨F, E, S, p⟩ := h
  unfold evS at p
  show tLc2 _ _ _ _ _ _ _ _ _ σ H _
  rw [← hsl]
  refine lc2_ask ht ht1 (fun i q => by rw [lenσ]; exact slots_lt hl i q) (fun i q => by rw [lenσ]; exact slots_lt hl1 i q) ⟨F, E, S, p.of_ev fun w E1 F1 H1 _ S1 x1 p2 v r => ?_⟩
  obtain ⟨hb, p3⟩ := stoS_ok p2
  obtain ⟨S2, x2⟩ := S1.store x1 r (bo := bo) (i := i) (by rw [lenσ]; exact (List.getElem?_eq_some_iff.mp hy).1) hb
  exact p3 F1 H1 _ S2 x2
end

/-! ### instances -/
section
variable {X : Cx} {xa : Nat → Addr} {Z : WX} {cl : Nat → List W → CRes} {bo : List Bool} {pos pos' p : Pos} {k f c : Nat} {cs : List Nat} {m x : Str} {ps : List Str} {apos cpos : Pos} {e o fe : Expr} {es : List Expr} {a : IA} {as : IAs} {i : Nat} {y : IE}
theorem v_fld {f : Str} (ho : PE X o (tVar i)) (c : FldC X.K cs f) (hb : attributeBase o f X.env (eval o X.env) = eval o X.env := by rfl) : PE X (.Attribute o f pos) (toTE X.K xa Z (ev cl (.fld i cs f))) := de_fld ho c hb
theorem s_sfl {f : Str} (ho : PE X o (tVar i)) (c : FldC X.K cs f) (he : PE X e (toTE X.K xa Z (ev cl y))) (hs : swapsWith e (some (.Attribute o f pos')) pos.line X.env = pure false := by rfl) :
    PS X (.Assign [.Attribute o f pos'] e pos) (toTS X.K xa Z bo (evS cl bo (.sfl i cs f y))) := ds_sfl ho c he hs
theorem v_meth {pl : Sem Bool} (c : Callee X.prog X.w X.K X.mg X.base xa cl k f (.inr (cs, m)) ps) (tk : Takes X Z) (hgd : X.A.guards = some []) (hr : Room k X.A) (ho : PE X o (toTA X.K xa Z (evA cl a))) (ha : PA X (e :: es) (toTAs X.K xa Z (evAs cl as)))
    (hst : starEach (e :: es) X.env = (false, eval e X.env) :: starEach es X.env := by rfl) (hpl : (backTo cpos (starEach es X.env)).any (·.1) = false := by rfl)
    (ht : eval (.Call (.Attribute o m apos) (e :: es) [] cpos) X.env = (do
      let ov ← eval o X.env
      standAt apos.atName
      let (f, first) ← holding [ov] (getMethod ov m pl)
      callWith cpos f first (backTo cpos (starEach (e :: es) X.env)) (backToKw cpos (keywordEach [] X.env))) := by rfl) :
    PE X (.Call (.Attribute o m apos) (e :: es) [] cpos) (toTE X.K xa Z (ev cl (.ocall cs m f a as))) := de_meth (pl := pl) c tk hgd hr ho ha hst hpl ht
theorem v_meth0 {pl : Sem Bool} (c : Callee X.prog X.w X.K X.mg X.base xa cl k f (.inr (cs, m)) ps) (tk : Takes X Z) (hgd : X.A.guards = some []) (hr : Room k X.A) (ho : PE X o (toTA X.K xa Z (evA cl a)))
    (ht : eval (.Call (.Attribute o m apos) [] [] cpos) X.env = (do
      let ov ← eval o X.env
      standAt apos.atName
      let (f, first) ← holding [ov] (getMethod ov m pl)
      callWith cpos f first (backTo cpos (starEach [] X.env)) (backToKw cpos (keywordEach [] X.env))) := by rfl) :
    PE X (.Call (.Attribute o m apos) [] [] cpos) (toTE X.K xa Z (ev cl (.ocall cs m f a .nil))) := de_meth0 (pl := pl) c tk hgd hr ho ht
theorem v_ocl (c : Callee X.prog X.w X.K X.mg X.base xa cl k f (.inr (cs, "__call__")) ps) (tk : Takes X Z) (hgd : X.A.guards = some []) (hr : Room k X.A) (hf : PE X fe (toTA X.K xa Z (evA cl a))) (ha : PA X (e :: es) (toTAs X.K xa Z (evAs cl as)))
    (ht : eval (.Call fe (e :: es) [] cpos) X.env = (do callWith cpos (← eval fe X.env) [] (backTo cpos (starEach (e :: es) X.env)) (backToKw cpos (keywordEach [] X.env))) := by rfl)
    (he : starEach (e :: es) X.env = (false, eval e X.env) :: starEach es X.env := by rfl) (hpl : (backTo cpos (starEach es X.env)).any (·.1) = false := by rfl) : PE X (.Call fe (e :: es) [] cpos) (toTE X.K xa Z (ev cl (.ocall cs "__call__" f a as))) := de_ocl c tk hgd hr hf ha ht he hpl
theorem v_mk (M : MkC X.K X.mg x c) (cc : Callee X.prog X.w X.K X.mg X.base xa cl k f (.inr (cs, "__init__")) ps) (tk : Takes X Z) (hgd : X.A.guards = some []) (hr : Room (k + 1) X.A)
    (ha : PA X (e :: es) (toTAs X.K xa Z (evAs cl as))) (hcs : cs.contains c = true := by rfl) (hg : Gl X x := by rfl) (hdb : (x == ("__debug__" : Str)) = false := by decide) (he : starEach (e :: es) X.env = (false, eval e X.env) :: starEach es X.env := by rfl) (hpl : (backTo pos (starEach es X.env)).any (·.1) = false := by rfl) :
    PE X (.Call (.Name x p) (e :: es) [] pos) (toTE X.K xa Z (ev cl (.mk c f as))) := de_mk M cc hcs tk hgd hr ha hg hdb he hpl
end
theorem one_of {c n : Nat} (h : [c].contains n = true) : n = c := by simpa using h
theorem fldC1 {K : PySem.W.Frag} {c : Nat} {f : Str} (a : Cls K (WorldI.cA c)) (b : NoAttr K (WorldI.cA c) f) : FldC K [c] f := ⟨fun n h => by rw [one_of h]; exact a, fun n h => by rw [one_of h]; exact b⟩
theorem mthC1 {K : PySem.W.Frag} {c : Nat} {m : Str} {fa : Addr} (a : Cls K (WorldI.cA c)) (b : Meth K (WorldI.cA c) m fa) : MthC K [c] m fa := ⟨fun n h => by rw [one_of h]; exact a, fun n h => by rw [one_of h]; exact b⟩
end Sf

end

section
set_option maxRecDepth 100000
set_option maxHeartbeats 2000000
/-! Sf: tuple(d.values()), list(d.items()), list(d). -/
namespace Sf
open PySem PySem.Spec PyProof.Rows L2
section
variable {prog : Program} {w : World} {A : Around} {E : Value → Shared → Prop} {s : Shared} {r d : Addr} {es : Array DictEntry} {ep : Nat}
theorem kv_vals : PySem.W.KdlSrc prog w "dict_values" r d es.size (fun i v => ∃ hi : i < es.size, v = es[i].val) (fun h => h.IsValuesView r d ∧ h.DictRaw d es ep) where
  type := fun _ hm => hm.1.typeIs
  there := fun _ hm => ⟨let ⟨_, ho, _⟩ := hm.1; Heap.lt_size ho, hm.2.lt_size⟩
  keep := fun _ _ hm hk => ⟨let ⟨o, ho, x⟩ := hm.1; ⟨o, hk r (.inl rfl) o ho, x⟩, hm.2.at fun o e => hk d (.inr rfl) o e⟩
  notList := by decide
  notTuple := by decide
  hint := fun _ _ _ _ hm hq => PySem.W.kdl_hint_values hm.1.typeIs hq
  iter := fun _ _ hh hm => ⟨_, _, (fun _ _ hq => wpAny_pyIter_values_raw hm.1 hm.2 hq), Walks.rawValues hh _ d (Nat.ne_of_lt hm.2.lt_size) es ep, ⟨⟨_, Heap.get?_push_size _ rfl, rfl, rfl⟩, hm.2.push _⟩⟩
theorem kv_dict (lo : (d == sysModules) = false) : PySem.W.KdlSrc prog w "dict" d d es.size (fun i v => ∃ hi : i < es.size, v = es[i].key) (fun h => h.DictRaw d es ep) where
  type := fun _ hm => hm.typeIs
  there := fun _ hm => ⟨hm.lt_size, hm.lt_size⟩
  keep := fun _ _ hm hk => hm.at fun o e => hk d (.inl rfl) o e
  notList := by decide
  notTuple := by decide
  hint := fun _ _ _ _ hm hq => PySem.W.kdl_hint_dict hm.typeIs hq
  iter := fun _ _ hh hm => ⟨_, _, (fun _ _ hq => wpAny_pyIter_dict_raw lo hm hq), Walks.rawKeys hh _ d (Nat.ne_of_lt hm.lt_size) es ep, ⟨⟨_, Heap.get?_push_size _ rfl, rfl, rfl⟩, hm.push _⟩⟩
theorem code_tuple_new_src {T : String} {n : Nat} {P : Nat → Value → Prop} {OK : Heap → Prop} {Q₁ : Value → Shared → Prop} (K : PySem.W.KdlSrc prog w T r d n P OK) (hT : T = "dict_values") (hh : A.handled = none) (hok : OK s.heap) (hlen : n ≤ sizeLine)
    (h : ∀ (h' : Heap) (tk : Nat) (acc : Array Value), (∀ b o, s.heap.get? b = some o → h'.get? b = some o) → ItemsOf P acc n →
      Q₁ (.ref h'.objs.size) { s with heap := h'.push { cls := .type "tuple", data := .seq acc }, toks := tk }) :
    codeAny (model prog w) A (.call (.builtin "tuple.__new__") ⟨[.type "tuple", .ref r], []⟩) (wants Q₁ E) s := by
  subst hT
  refine codeAny_of_tree ?_
  show wpAny _ A.in1 (do checkBuiltinCall "tuple.__new__" ⟨[.type "tuple", .ref r], []⟩; again (.builtin "tuple.__new__" ⟨[.type "tuple", .ref r], []⟩)) _ _ s
  refine wpAny_bind (wpAny_of_eq (F.newCall_tuple_1 _) (wpAny_pure ⟨plainId_quiet F.plain_tuple_new _, codeAny_builtin F.entry_tuple_new ?_⟩))
  rw [Around.under_plainId F.plain_tuple_new _]
  have hsub := sub_tuple_self
  have hinit := init_tuple_lookup
  have hmh := madeHere_tuple
  have hTI : s.TypeIs (.ref r) "dict_values" := K.type s hok
  have hh1 : A.in1.handled = none := hh
  wp_walk using wpAny_typeOf hTI, PySem.W.kdu_collect (A := A.in1) K hh1 hok hlen
  intro h' tk acc hk hacc
  show wpAny _ _ (Builtin.Tuple.tupleExact acc.toList.toArray >>= fun v => ret v) _ _ _
  unfold Builtin.Tuple.tupleExact
  refine wpAny_bind (wpAny_newObj_type ?_ (by show acc.toList.toArray.size ≤ sizeLine; simp only [Array.toArray_toList]; rw [hacc.1]; exact hlen))
  refine wpAny_pure ?_
  have e : acc.toList.toArray = acc := by simp
  rw [e]
  exact h h' tk acc hk hacc
theorem call_tuple_src {T : String} {n : Nat} {P : Nat → Value → Prop} {OK : Heap → Prop} {Q : Value → Shared → Prop} (K : PySem.W.KdlSrc prog w T r d n P OK) (hT : T = "dict_values") (hh : A.handled = none) (hok : OK s.heap) (hlen : n ≤ sizeLine)
    (hQ : ∀ (h' : Heap) (tk : Nat) (acc : Array Value), (∀ b o, s.heap.get? b = some o → h'.get? b = some o) → ItemsOf P acc n →
      Q (.ref h'.objs.size) { s with heap := h'.push { cls := .type "tuple", data := .seq acc }, toks := tk }) :
    wpAny (model prog w) A (call (.type "tuple") [.ref r]) Q E s := by
  refine callType_codes (Q₁ := fun obj s₁ => s₁.TypeIs obj "tuple" ∧ Q obj s₁) F.called_tuple (F.typeCall_tuple_1 _) F.entry_object_init
    (code_tuple_new_src (A := A.in1) K hT hh hok hlen fun h' tk acc hk hacc => ⟨⟨_, Heap.get?_push_size _ rfl, rfl⟩, hQ h' tk acc hk hacc⟩) fun obj s₁ h₁ => ?_
  exact ⟨h₁.1, F.args_object_init_2 obj _, object_init_meets F.called_tuple.init.lookup F.called_tuple.made (by decide) prog w A.in1 _ s₁ ⟨h₁.1, rfl, h₁.2⟩⟩
/-- the items that were collected are those that were told -/
theorem vals_of_items {P : Nat → Value → Prop} {vs : List V} {acc : Array Value} (ha : ItemsOf P acc vs.length) (h : ∀ (i : Nat) v u, vs[i]? = some v → P i u → RelV v u) : Vals vs acc.toList := by
  have go : ∀ (vs : List V) (us : List Value) (k : Nat), vs.length = us.length → (∀ (i : Nat) v u, vs[i]? = some v → us[i]? = some u → RelV v u) → Vals vs us := by
    intro vs
    induction vs with
    | nil =>
      intro us k hl _
      cases us with
      | nil => exact .nil
      | cons _ _ => cases hl
    | cons v vs ih =>
      intro us k hl hr
      cases us with
      | nil => cases hl
      | cons u us => exact .cons (hr 0 v u rfl rfl) (ih us k (Nat.succ.inj hl) fun i v u e1 e2 => hr (i + 1) v u e1 e2)
  refine go vs acc.toList 0 (by rw [Array.length_toList]; exact ha.1.symm) fun i v u e1 e2 => h i v u e1 (ha.2 i u (by rw [← Array.getElem?_toList]; exact e2))
end
section
variable {X : Cx} {e : Expr} {td : TE} {p apos cpos pos : Pos}
def tVw (td : TE) (k : List (V × V) → Hp → VK → Prop) : TE := fun σ H Q => td σ H fun x H1 => ∃ d o ps, x = .ref d ∧ EnR H1 d o ps ∧ ps.length ≤ sizeLine ∧ k ps H1 Q
/-- tuple(e.values()) -/
theorem pe_tupVals (hc : X.calm = true) (he : PE X e td) (hg : Gl X "tuple") (hm : X.mg "tuple" = none) (hbase : attributeBase e "values" X.env (eval e X.env) = eval e X.env) (hline : (apos.endLine == cpos.line) = true)
    (hs : starEach [.Call (.Attribute e "values" apos) [] [] cpos] X.env = (false, eval (.Call (.Attribute e "values" apos) [] [] cpos) X.env) :: starEach [] X.env) :
    PE X (.Call (.Name "tuple" p) [.Call (.Attribute e "values" apos) [] [] cpos] [] pos) (tVw td fun ps H Q => ∀ q, H q = none → Q (.ref q) (upd H q (.tup (ps.map (·.2))))) := by
  refine ⟨fun pins s σ H Q I h => ?_⟩
  refine wpAny_Call_Name_kw (ld_blt I hg hm boot_tuple ?_)
  refine PyProof.Rows.callWith_type1 ?_ hs rfl
  rw [hs]
  show wpAny _ _ (spliced ((false, eval (.Call (.Attribute e "values" apos) [] [] cpos) X.env) :: backTo pos (starEach [] X.env))) _ _ s
  refine Calls.spliced_cons ?_
  refine wpAny_Call_method (T := "dict") (id := "dict.values") hbase rfl hline F.plainAttrs_dict F.slot_dict_values F.type_dict_values (thn (he.run pins s σ H _ I h) fun u s1 ⟨x, H1, I1, rx, d, o, ps, ex, hd, hz, q⟩ => ?_)
  subst ex
  obtain rfl : u = Value.ref d := rx
  obtain ⟨hs0, hgd, hx, es, ep, hdt, hsz, rel⟩ := frz_at I1 hd
  have raw : s1.heap.DictRaw d es ep := ⟨o, hgd, hx, hdt⟩
  refine ⟨raw.typeIs, fun b q => ?_, ?_⟩
  · cases q
    exact ⟨o, hgd, hx.2.1⟩
  have I2 : Inv X pins σ H1 { s1 with heap := s1.heap.push { cls := .type "dict_values", data := .fields #[.ref d] } } := I1.kept (t' := s1.toks) fun b ob q => Heap.get?_push_of_some _ q
  show wpAny _ _ (callWith cpos (.builtin "dict.values") [.ref d] [] []) _ X.xe s1
  refine method_meetsIn F.slot_dict_values F.entry_dict_values rfl (PySem.evalArgs_none ⟨rfl, raw.typeIs, F.args_dict_values_1 _, _, meets_dict_values_raw d hs0, ⟨es, ep, raw⟩, ?_⟩)
  refine Calls.spliced_nil ?_
  refine call_tuple_src (kv_vals (es := es) (ep := ep)) rfl (I1.ok.hd hc) ⟨⟨_, Heap.get?_push_size _ rfl, rfl, rfl⟩, raw.push _⟩ (by rw [hsz]; exact hz) fun h' tk acc hk hacc => ?_
  have I3 : Inv X pins σ H1 { s1 with heap := h', toks := tk } := I2.kept (t' := tk) hk
  have rv : Vals (ps.map (·.2)) acc.toList := by
    refine vals_of_items (P := fun i v => ∃ hi : i < es.size, v = es[i].val) (by rw [List.length_map, ← hsz]; exact hacc) fun i v u e1 q2 => ?_
    obtain ⟨hi, e2⟩ := q2
    rw [List.getElem?_map] at e1
    cases e3 : ps[i]? with
    | none =>
      rw [e3] at e1
      cases e1
    | some kv =>
      rw [e3] at e1
      cases e1
      rw [e2]
      exact (rel i hi kv.1 kv.2 e3).2
  refine ⟨.ref _, _, I3.laid (t' := tk) (o := .tup (ps.map (·.2))) (fun b ob q => Heap.get?_push_of_some _ q) (Nat.le_refl _) ⟨by rw [List.length_map]; exact hz, _, rv, ?_⟩, rfl, q _ (I3.hok.fresh (Nat.le_refl _))⟩
  rw [Array.toArray_toList]
  exact IsTup.new _ _
/-- list(e), e a dict -/
theorem pe_lisDict (hc : X.calm = true) (he : PE X e td) (hg : Gl X "list") (hm : X.mg "list" = none) (hv : bootBuiltins "list" = some (.type "list")) (hs : starEach [e] X.env = (false, eval e X.env) :: starEach [] X.env) :
    PE X (.Call (.Name "list" p) [e] [] pos) (tVw td fun ps H Q => ∀ q, H q = none → Q (.ref q) (upd H q (.lst (ps.map (·.1))))) := by
  refine ⟨fun pins s σ H Q I h => ?_⟩
  refine wpAny_Call_Name_kw (ld_blt I hg hm hv ?_)
  refine PyProof.Rows.callWith_type1 ?_ hs rfl
  refine one_arg he I h (fun u s1 x H1 I1 rx ⟨d, o, ps, ex, hd, hz, q⟩ => ?_) hs
  subst ex
  obtain rfl : u = Value.ref d := rx
  obtain ⟨hs0, hgd, hx, es, ep, hdt, hsz, rel⟩ := frz_at I1 hd
  have raw : s1.heap.DictRaw d es ep := ⟨o, hgd, hx, hdt⟩
  refine PySem.W.kdl_call (kv_dict (es := es) (ep := ep) hs0) (I1.ok.hd hc) raw (by rw [hsz]; exact hz) fun h' tk acc c hk hS hacc => ?_
  have rv : Vals (ps.map (·.1)) acc.toList := by
    refine vals_of_items (P := fun i v => ∃ hi : i < es.size, v = es[i].key) (by rw [List.length_map, ← hsz]; exact hacc) fun i v u e1 q2 => ?_
    obtain ⟨hi, e2⟩ := q2
    rw [List.getElem?_map] at e1
    cases e3 : ps[i]? with
    | none =>
      rw [e3] at e1
      cases e1
    | some kv =>
      rw [e3] at e1
      cases e1
      rw [e2]
      exact (rel i hi kv.1 kv.2 e3).1
  refine ⟨.ref _, _, I1.laid (t' := tk) (o := .lst (ps.map (·.1))) hk (Nat.le_refl _) ⟨by rw [List.length_map]; exact hz, _, c, rv, ?_⟩, rfl, q _ (I1.hok.fresh (Nat.le_refl _))⟩
  rw [Array.toArray_toList]
  exact hS
/-- the tuples tracked at their addresses -/
def putP : Hp → List Addr → List (V × V) → Hp
  | H, a :: as, p :: kvs => putP (upd H a (.tup [p.1, p.2])) as kvs
  | H, _, _ => H
theorem putP_off {b : Addr} : ∀ (as : List Addr) (kvs : List (V × V)) (H : Hp), b ∉ as → putP H as kvs b = H b
  | [], _, _, _ => rfl
  | _ :: _, [], _, _ => rfl
  | a :: as, p :: kvs, H, h => by
    show putP (upd H a (.tup [p.1, p.2])) as kvs b = H b
    rw [putP_off as kvs _ (fun z => h (List.mem_cons_of_mem _ z)), upd_ne (fun z => h (by rw [z]; exact List.mem_cons_self))]
theorem putP_at : ∀ (as : List Addr) (kvs : List (V × V)) (H : Hp), as.length = kvs.length → as.Nodup → Paired (fun (t : Addr) (p : V × V) => putP H as kvs t = some (.tup [p.1, p.2])) as kvs
  | [], [], _, _, _ => .nil
  | [], _ :: _, _, h, _ => by cases h
  | _ :: _, [], _, h, _ => by cases h
  | a :: as, p :: kvs, H, h, hn => by
    have hn' := List.nodup_cons.mp hn
    have ih := putP_at as kvs (upd H a (.tup [p.1, p.2])) (Nat.succ.inj h) hn'.2
    refine .cons ?_ ih
    show putP (upd H a (.tup [p.1, p.2])) as kvs a = some (.tup [p.1, p.2])
    rw [putP_off as kvs _ hn'.1, upd_same]
def kItems (ps : List (V × V)) (H : Hp) (Q : VK) : Prop :=
  ∀ (H' : Hp) (q : Addr) (ts : List Addr), (∀ b o, H b = some o → H' b = some o) → H q = none → (∀ t ∈ ts, H t = none) → q ∉ ts → H' q = some (.lst (ts.map V.ref)) → Paired (fun (t : Addr) (p : V × V) => H' t = some (.tup [p.1, p.2])) ts ps → Q (.ref q) H'
/-- list(e.items()) -/
theorem pe_lisItems (hc : X.calm = true) (he : PE X e td) (hg : Gl X "list") (hm : X.mg "list" = none) (hv : bootBuiltins "list" = some (.type "list")) (hbase : attributeBase e "items" X.env (eval e X.env) = eval e X.env) (hline : (apos.endLine == cpos.line) = true)
    (hs : starEach [.Call (.Attribute e "items" apos) [] [] cpos] X.env = (false, eval (.Call (.Attribute e "items" apos) [] [] cpos) X.env) :: starEach [] X.env) :
    PE X (.Call (.Name "list" p) [.Call (.Attribute e "items" apos) [] [] cpos] [] pos) (tVw td kItems) := by
  refine ⟨fun pins s σ H Q I h => ?_⟩
  refine wpAny_Call_Name_kw (ld_blt I hg hm hv ?_)
  refine PyProof.Rows.callWith_type1 ?_ hs rfl
  rw [hs]
  show wpAny _ _ (spliced ((false, eval (.Call (.Attribute e "items" apos) [] [] cpos) X.env) :: backTo pos (starEach [] X.env))) _ _ s
  refine Calls.spliced_cons ?_
  refine wpAny_Call_method (T := "dict") (id := "dict.items") hbase rfl hline F.plainAttrs_dict F.slot_dict_items F.type_dict_items (thn (he.run pins s σ H _ I h) fun u s1 ⟨x, H1, I1, rx, d, o, ps, ex, hd, hz, q⟩ => ?_)
  subst ex
  obtain rfl : u = Value.ref d := rx
  obtain ⟨hs0, hgd, hx, es, ep, hdt, hsz, rel⟩ := frz_at I1 hd
  have raw : s1.heap.DictRaw d es ep := ⟨o, hgd, hx, hdt⟩
  refine ⟨raw.typeIs, fun b q => ?_, ?_⟩
  · cases q
    exact ⟨o, hgd, hx.2.1⟩
  have I2 : Inv X pins σ H1 { s1 with heap := s1.heap.push { cls := .type "dict_items", data := .fields #[.ref d] } } := I1.kept (t' := s1.toks) fun b ob q => Heap.get?_push_of_some _ q
  show wpAny _ _ (callWith cpos (.builtin "dict.items") [.ref d] [] []) _ X.xe s1
  refine method_meetsIn F.slot_dict_items F.entry_dict_items rfl (PySem.evalArgs_none ⟨rfl, raw.typeIs, F.args_dict_items_1 _, _, meets_dict_items_raw d hs0, ⟨es, ep, raw⟩, ?_⟩)
  refine Calls.spliced_nil ?_
  generalize hs2 : ({ s1 with heap := s1.heap.push { cls := .type "dict_items", data := .fields #[.ref d] } } : Shared) = s2 at I2 ⊢
  have hv2 : s2.heap.IsItemsView s1.heap.objs.size d := by rw [← hs2]; exact ⟨_, Heap.get?_push_size _ rfl, rfl, rfl⟩
  have raw2 : s2.heap.DictRaw d es ep := by rw [← hs2]; exact raw.push _
  refine PySem.W.dil_call (es := es) (ep := ep) (I1.ok.hd hc) hv2 raw2 (by rw [hsz]; exact hz) fun h' tk acc c as hk hS hl hG hacc => ?_
  have hSn : s2.heap.objs.size ∉ as := fun z => Nat.lt_irrefl _ (hG.above _ z)
  have nd : as.Nodup := List.Pairwise.imp (fun {a b} (h : a < b) => Nat.ne_of_lt h) hG.rise
  have new : ∀ t ∈ as, H1 t = none := fun t ht => I2.hok.fresh (Nat.le_of_lt (hG.above t ht))
  have newS : H1 s2.heap.objs.size = none := I2.hok.fresh (Nat.le_refl _)
  have atP := putP_at as ps (upd H1 s2.heap.objs.size (.lst (as.map V.ref))) (by omega) nd
  have off : ∀ b, b ∉ as → b ≠ s2.heap.objs.size → putP (upd H1 s2.heap.objs.size (.lst (as.map V.ref))) as ps b = H1 b := fun b h1 h2 => by rw [putP_off as ps _ h1, upd_ne h2]
  have low : ∀ b o, s2.heap.get? b = some o → b ∉ as ∧ b ≠ s2.heap.objs.size := fun b o e => ⟨fun z => absurd (Heap.lt_size e) (Nat.not_lt.mpr (Nat.le_of_lt (hG.above b z))), Nat.ne_of_lt (Heap.lt_size e)⟩
  have kp : ∀ b u, H1 b = some u → (putP (upd H1 s2.heap.objs.size (.lst (as.map V.ref))) as ps) b = some u := fun b u e => by
    rw [off b (fun z => by rw [new b z] at e; cases e) (fun z => by rw [z, newS] at e; cases e)]
    exact e
  have eS : putP (upd H1 s2.heap.objs.size (.lst (as.map V.ref))) as ps s2.heap.objs.size = some (.lst (as.map V.ref)) := by rw [putP_off as ps _ hSn, upd_same]
  refine ⟨.ref _, putP (upd H1 s2.heap.objs.size (.lst (as.map V.ref))) as ps, ?_, rfl, q _ _ as kp newS new hSn eS atP⟩
  refine I2.call' (ch := []) rfl ⟨fun b o q _ _ _ => hk b o q, fun b o q _ _ _ => ⟨o.slots, hk b o q⟩, fun b o q n _ => ?_, fun b o q _ => ⟨o, hk b o q⟩, fun b xs q => kp b _ q, fun b o u q => kp b _ q, fun b ps q => ⟨#[], by rw [kp b _ q]; simp⟩⟩ (fun b u q => ?_) I2.bare fun b z => by simp at z
  · obtain ⟨z1, z2⟩ := low b o q
    rw [off b z1 z2]
    exact n
  · by_cases hb : b ∈ as
    · obtain ⟨j, pk, e1, e2, e3⟩ := LiI.paired_ix atP hb
      rw [e3] at q
      cases q
      obtain ⟨hj, f3⟩ := hG.pairs j b e1
      obtain ⟨r1, r2⟩ := rel j hj pk.1 pk.2 e2
      exact ⟨by show 2 ≤ sizeLine; decide, [es[j].key, es[j].val], .cons r1 (.cons r2 .nil), ⟨_, f3, rfl, _, rfl⟩⟩
    · by_cases hb2 : b = s2.heap.objs.size
      · rw [hb2] at q ⊢
        rw [eS] at q
        cases q
        refine ⟨by rw [List.length_map]; omega, acc.toList, c, by rw [hacc]; exact LiI.vals_refs as, ?_⟩
        rw [Array.toArray_toList]
        exact hS
      · rw [off b hb hb2] at q
        exact (I2.hok b u q).stay (fun d v _ y => hk d v y) (fun d y => kp d _ y) fun d xs y => kp d _ y
end
variable [WorldI]
section
variable {X : Cx} {xa : Nat → Addr} {Z : WX} {cl : Nat → List W → CRes} {e : Expr} {x : IE} {p apos cpos pos : Pos}
theorem vw_ask {K : PySem.W.Frag} {k : List (V × V) → Hp → VK → Prop} {f : List (D × D) → List D} {t : Bool} {F0 : Hp} {Es : Sto} {σ : L2.St} {H : Hp} {Q : VK}
    (h : Post K xa Z ((ev cl x Es).bind fun w E1 => (Res.lift (w.dctL?.map f) E1).bind fun ds E1 => .ok (if t then W.fz (.tuple ds) else .ol ds) E1) F0 H Es σ fun w E' F' H' => ∀ v, Rs K F' H' H E' σ w v → Q v H') (S : SR K F0 H Es σ)
    (hk : ∀ F2 H2 ps kvs, Le F2 H2 → RP F2 ps kvs → kvs.length ≤ lineN → K1 K H2 Q F2 (if t then .fz (.tuple (f kvs)) else .ol (f kvs)) → k ps H2 Q) :
    tVw (fun σ H Q => toTE K xa Z (ev cl x) σ H fun v H1 => Q v H1 ∨ ∃ d u, v = .ref d ∧ H1 d = some u ∧ Mut (some u) ∧ ∀ od, Q v (upd H1 d (.frz od u))) k σ H Q := by
  refine ⟨F0, Es, S, (Post.bindB h).mono fun w E1 F1 H1 _ S1 x1 p2 v r => ?_⟩
  cases e2 : w.dctL? with
  | none =>
    rw [e2] at p2
    exact p2.elim
  | some kvs =>
    rw [e2] at p2
    have p3 : Post K xa Z (.ok (if t then W.fz (.tuple (f kvs)) else .ol (f kvs)) E1) F0 H Es σ fun w E' F' H' => ∀ v, Rs K F' H' H E' σ w v → Q v H' := p2
    refine ask_dct (Q := fun x H1 => ∃ d o ps, x = V.ref d ∧ EnR H1 d o ps ∧ ps.length ≤ sizeLine ∧ k ps H1 Q) S1 x1 r e2 fun F2 H2 a o ps ev en rp z S2 x2 => ⟨a, o, ps, ev, en.mono S2.le, by rw [line_eq, rp.len]; exact z, hk F2 H2 ps kvs S2.le rp z fun F3 H3 v g n => ?_⟩
    exact p3 F3 H3 (S2.grow g) (x2.trans (Ext.grow S2 g)) v ((Rn.rs S2 n).since x2.thr)
theorem v_tupV (hc : X.calm = true) (hm : X.mg "tuple" = none) (he : PE X e (toTE X.K xa Z (ev cl x))) (hg : Gl X "tuple" := by rfl) (hbase : attributeBase e "values" X.env (eval e X.env) = eval e X.env := by rfl) (hline : (apos.endLine == cpos.line) = true := by rfl)
    (hs : starEach [.Call (.Attribute e "values" apos) [] [] cpos] X.env = (false, eval (.Call (.Attribute e "values" apos) [] [] cpos) X.env) :: starEach [] X.env := by rfl) :
    PE X (.Call (.Name "tuple" p) [.Call (.Attribute e "values" apos) [] [] cpos] [] pos) (toTE X.K xa Z (ev cl (.rng true (.vals x)))) := by
  refine pe_imp (pe_tupVals hc (pe_lk he) hg hm hbase hline hs) fun σ H Q ⟨F, E, S, q⟩ => ?_
  unfold ev at q
  dsimp only at q
  unfold evR at q
  rw [bind_bind] at q
  exact vw_ask (t := true) (f := fun kvs => kvs.map (·.2)) q S fun F2 H2 ps kvs l rp z k1 p hp => k1.tup l (by rw [List.length_map]; exact z) rp.snds hp
theorem v_lisD (hc : X.calm = true) (hm : X.mg "list" = none) (he : PE X e (toTE X.K xa Z (ev cl x))) (hg : Gl X "list" := by rfl) (hs : starEach [e] X.env = (false, eval e X.env) :: starEach [] X.env := by rfl) :
    PE X (.Call (.Name "list" p) [e] [] pos) (toTE X.K xa Z (ev cl (.rng false (.keys x)))) := by
  refine pe_imp (pe_lisDict hc (pe_lk he) hg hm (by decide +kernel) hs) fun σ H Q ⟨F, E, S, q⟩ => ?_
  unfold ev at q
  dsimp only at q
  unfold evR at q
  rw [bind_bind] at q
  exact vw_ask (t := false) (f := fun kvs => kvs.map (·.1)) q S fun F2 H2 ps kvs l rp z k1 p hp => k1.lst l (by rw [List.length_map]; exact z) rp.fsts hp
theorem rp_items {F F3 : Hp} : ∀ {ts : List Addr} {ps : List (V × V)} {kvs : List (D × D)}, Le F F3 → Paired (fun (t : Addr) (p : V × V) => F3 t = some (.tup [p.1, p.2])) ts ps → RP F ps kvs → RFs F3 (ts.map V.ref) (kvs.map itemD)
  | _, _, _, _, .nil, .nil => .nil
  | _, _, _, l, .cons a b, .cons c d e => .cons (.tup a two_le (.cons (c.up l) (.cons (d.up l) .nil))) (rp_items l b e)
theorem v_lisI (hc : X.calm = true) (hm : X.mg "list" = none) (he : PE X e (toTE X.K xa Z (ev cl x))) (hg : Gl X "list" := by rfl) (hbase : attributeBase e "items" X.env (eval e X.env) = eval e X.env := by rfl) (hline : (apos.endLine == cpos.line) = true := by rfl)
    (hs : starEach [.Call (.Attribute e "items" apos) [] [] cpos] X.env = (false, eval (.Call (.Attribute e "items" apos) [] [] cpos) X.env) :: starEach [] X.env := by rfl) :
    PE X (.Call (.Name "list" p) [.Call (.Attribute e "items" apos) [] [] cpos] [] pos) (toTE X.K xa Z (ev cl (.rng false (.items x)))) := by
  refine pe_imp (pe_lisItems hc (pe_lk he) hg hm (by decide +kernel) hbase hline hs) fun σ H Q ⟨F, E, S, q⟩ => ?_
  unfold ev at q
  dsimp only at q
  unfold evR at q
  rw [bind_bind] at q
  refine vw_ask (t := false) (f := fun kvs => kvs.map itemD) q S fun F2 H2 ps kvs l rp z k1 H' a ts kp ha hts nts hl hp => ?_
  let F3 : Hp := fun b => if b ∈ ts then H' b else F2 b
  have f3n : ∀ b, b ∈ ts → F2 b = none := fun b hb => none_le l (hts b hb)
  have le3 : Le F2 F3 := fun b o e => by
    show (if b ∈ ts then H' b else F2 b) = some o
    rw [if_neg fun z => by rw [f3n b z] at e; cases e]
    exact e
  have at3 : ∀ b, b ∈ ts → F3 b = H' b := fun b hb => if_pos hb
  have g : Grow F2 H2 F3 H' := by
    refine ⟨le3, kp, fun b o e => ?_, fun b e => ?_⟩
    · by_cases hb : b ∈ ts
      · rw [at3 b hb] at e
        exact e
      · have e2 : F2 b = some o := (if_neg hb).symm.trans e
        exact kp b o (l b o e2)
    · by_cases hb : b ∈ ts
      · exact .inr (hts b hb)
      · exact .inl (fun z => e ((if_neg hb).trans z))
  have hp3 : Paired (fun (t : Addr) (p : V × V) => F3 t = some (.tup [p.1, p.2])) ts ps := by
    have go : ∀ {us : List Addr} {qs : List (V × V)}, Paired (fun (t : Addr) (p : V × V) => H' t = some (.tup [p.1, p.2])) us qs → (∀ u ∈ us, u ∈ ts) → Paired (fun (t : Addr) (p : V × V) => F3 t = some (.tup [p.1, p.2])) us qs := by
      intro us qs h
      induction h with
      | nil => exact fun _ => .nil
      | cons a b ih => exact fun hu => .cons (by rw [at3 _ (hu _ List.mem_cons_self)]; exact a) (ih fun u h => hu u (List.mem_cons_of_mem _ h))
    exact go hp fun _ h => h
  refine k1 F3 H' (.ref a) g ⟨⟨a, ts.map V.ref, rfl, hl, by rw [List.length_map]; exact z, rp_items le3 hp3 rp⟩, fun _ b e => ?_⟩
  cases e
  exact ⟨ha, (if_neg nts).trans (none_le l ha)⟩
end
end Sf

end

section
set_option maxRecDepth 100000
set_option maxHeartbeats 1000000
/-! Sf: tuples of the module by their names; defs with a star parameter. -/
namespace Sf
open PySem PySem.Spec PyProof.Rows L2
variable [WorldI]
/-- flat data, without the heap -/
def flatV : D → V
  | .bool b => .bl b
  | .int i => .int i
  | .str x => .str x
  | _ => .non
theorem rfs_flat {F : Hp} : ∀ {ds : List D}, ds.all flatD = true → RFs F (ds.map flatV) ds
  | [], _ => .nil
  | d :: ds, h => by
    have h2 : (flatD d && ds.all flatD) = true := h
    obtain ⟨a, b⟩ := Bool.and_eq_true_iff.mp h2
    refine .cons ?_ (rfs_flat b)
    cases d <;> first | exact .non | exact .bl _ | exact .int _ | exact .str _ | cases a
/-- a name of the module stands for a written tuple -/
def GkC (K : PySem.W.Frag) (mg : Str → Option Value) (x : Str) (ds : List D) : Prop := ∃ a, mg x = some (.ref a) ∧ ∀ H, SqT K H a (ds.map flatV)
section
variable {X : Cx} {xa : Nat → Addr} {Z : WX} {cl : Nat → List W → CRes} {pos p : Pos}
theorem u_gtup {x : Str} {ds : List D} (c : GkC X.K X.mg x ds) (hf : ds.all flatD = true := by rfl) (hg : Gl X x := by rfl) (hd : (x == ("__debug__" : Str)) = false := by decide) : PE X (.Name x pos) (toTE X.K xa Z (ev cl (.gcon ds))) := by
  obtain ⟨a, h, hq⟩ := c
  refine pe_imp (pe_glob hg h (v := .ref a) rfl hd) fun σ H Q ⟨F, E, S, q⟩ => ?_
  unfold ev at q
  exact q F H S (Ext.refl ..) (.ref a) ⟨⟨a, _, rfl, hq F, rfs_flat hf⟩, fun o => nomatch o⟩
end

/-! ### a star parameter -/
def FnGR (P : Program) (w : World) (K : PySem.W.Frag) (mg : Str → Option Value) (base : Heap) (k : Nat) (f : Addr) (sp : Sp) : Prop := ∀ (A : Around) (outer : List Env) (s : Shared) (H : Hp) (us : List Value) (vs : List V) (Q : VK) (E : XK), A.guards = some [] → Room k A → Env0 P w K mg base A outer s H → Vals vs us → sp vs H Q E →
    codeAny (model P w) A (.call (.ref f) ⟨us, []⟩) (CR (L2.CX P w) outer P w H s Q E) s
def spV (sp : Sp) (n : Nat) : Sp := fun vs H Q E => ∃ ws rest, vs = ws ++ rest ∧ ws.length = n ∧ rest.length ≤ sizeLine ∧ ∀ p, H p = Option.none → sp (ws ++ [V.ref p]) (upd H p (.tup rest)) Q E
section
variable {P : Program} {w : World} {K : PySem.W.Frag} {mg : Str → Option Value} {base : Heap} {k : Nat} {f : Addr} {name qual : Str} {params : Arguments} {body : List Stmt} {scope : Scope} {dV kV doc pm cdv ct oc : Value} {an od : Option Addr}
  {osl : Array (Option Value)} {N ps : List Str} {sp : Sp}
theorem fn_starG {pv : Str} (lk : K.lookup f = some ⟨oc, od, .func (PySem.W.fnOf name qual params body scope dV kV doc pm an cdv ct), osl⟩) (hcd : PySem.W.codeIn K cdv qual = true) (S : FnScope N (ps ++ [pv]) scope)
    (hb : ∀ us rest : List Value, us.length = ps.length → bindArgs (PySem.W.fnOf name qual params body scope dV kV doc pm an cdv ct) ⟨us ++ rest, []⟩ = (newTuple rest >>= fun t => pure (ps.zip us ++ [(pv, t)])))
    (hbody : ∀ (A : Around) (outer : List Env) (s : Shared) (H : Hp) (vs : List V) (Q : VK) (E : XK), A.guards = some [] → Room k (A.deeper (envOfC qual scope s.heap.objs.size f cdv)) → sp vs H Q E →
      ∃ t, PSs (cxOf (L2.CX P w) P w K mg base N qual scope f cdv A outer s H E) body t ∧ t { nx := fun _ H' => Q .non H', rt := Q } (start N vs) H) :
    FnGR P w K mg base (k + 1) f (spV sp ps.length) := by
  intro A outer s H us vs Q E hgd hr e0 r hsp
  obtain ⟨ws, rest, ev, hl, hz, hq⟩ := hsp
  subst ev
  obtain ⟨u1, u2, eu, r1, r2⟩ := StX.vals_split r
  subst eu
  have hn : H s.heap.objs.size = Option.none := e0.hok.fresh (Nat.le_refl _)
  have hl1 : u1.length = ps.length := by rw [← r1.length]; exact hl
  have hl2 : u2.length ≤ sizeLine := by rw [← r2.length]; exact hz
  refine StX.run_bnd lk hcd S hr e0 (G := fun xs H2 => ∃ p, H p = Option.none ∧ xs = ws ++ [V.ref p] ∧ H2 = upd H p (.tup rest)) (fun A' Ex Q' h => ?_) fun s2 H2 xs ⟨p, hp, ex, eH⟩ hr' => ?_
  · rw [hb u1 u2 hl1]
    refine wpAny_bind (wpAny_newTuple (wpAny_pure ?_) hl2)
    have new : ObjOk P w (upd H s.heap.objs.size (.tup rest)) (s.heap.push ({ cls := .type "tuple", data := .seq u2.toArray } : Obj)) s.heap.objs.size (.tup rest) := ⟨hz, u2, r2, ⟨_, Heap.get?_push_size _ rfl, rfl, _, rfl⟩⟩
    have un := StX.un_laid (fs := frs outer) (s := s) (o := ({ cls := .type "tuple", data := .seq u2.toArray } : Obj)) (u := .tup rest) hn
    have z := h _ _ (ws ++ [V.ref s.heap.objs.size]) (u1 ++ [Value.ref s.heap.objs.size]) (StX.env0_laid e0 new) un rfl (fun e s' => StX.cxUp outer s H _ _ E e s' un (fun b o q => Heap.get?_push_of_some _ q) rfl) (r1.append (.cons rfl .nil))
      (by rw [List.length_append, List.length_append, hl] <;> rfl) ⟨_, hn, rfl, rfl⟩
    rw [List.zip_append hl1.symm] at z
    exact z
  · subst ex eH
    exact hbody A outer s2 _ _ Q E hgd hr' (hq p hp)
end
structure CalleeV (P : Program) (w : World) (K : PySem.W.Frag) (mg : Str → Option Value) (base : Heap) (xa : Nat → Addr) (cl : Nat → List W → CRes) (k : Nat) (f : Nat) (x : Str) (n : Nat) : Prop where
  num : ∀ ws, ws.length ≠ n + 1 → cl f ws = .stuck
  ex : ∃ fa, FnGR P w K mg base k fa (spV (spF K xa (cl f) (n + 1)) n) ∧ mg x = some (.ref fa) ∧ PySem.W.keepIn K (.ref fa) = true
theorem fzs_rf {K : PySem.W.Frag} {F H H0 : Hp} {E : Sto} {σ : L2.St} : ∀ {xs : List (Sum Nat W)} {vs : List V} {ws : List W} {ds : List D}, SR K F H E σ → xs.length = vs.length → (∀ (j : Nat) x v, xs[j]? = some x → vs[j]? = some v → RA K F H H0 E σ x v) → resolve xs E = some ws → fzs ws = some ds → RFs F vs ds
  | [], [], ws, ds, S, _, _, e, f => by
    cases e
    cases f
    exact .nil
  | [], _ :: _, _, _, _, l, _, _, _ => by simp at l
  | _ :: _, [], _, _, _, l, _, _, _ => by simp at l
  | x :: xs, v :: vs, ws, ds, S, l, r, e, f => by
    have r0 := r 0 x v rfl rfl
    have key : ∃ w us, ws = w :: us ∧ resolve [x] E = some [w] ∧ resolve xs E = some us := by
      cases x with
      | inr u =>
        obtain ⟨us, e2, rfl⟩ := map_some' (show (resolve xs E).map (u :: ·) = some ws from e)
        exact ⟨u, us, rfl, rfl, e2⟩
      | inl i =>
        obtain ⟨u, g, e0⟩ := bind_some' (show (getS E i).bind (fun w => (resolve xs E).map (w :: ·)) = some ws from e)
        obtain ⟨us, e2, rfl⟩ := map_some' e0
        refine ⟨u, us, rfl, ?_, e2⟩
        show (getS E i).bind (fun w => (resolve [] E).map (w :: ·)) = some [u]
        rw [g]
        rfl
    obtain ⟨w, us, rfl, e1, e2⟩ := key
    have rw0 := r0.use S e1
    cases w with
    | fz d =>
      obtain ⟨es, f2, rfl⟩ := map_some' (show (fzs us).map (d :: ·) = some ds from f)
      exact .cons rw0 (fzs_rf S (by simpa using l) (fun j y u h1 h2 => r (j + 1) y u (by simpa using h1) (by simpa using h2)) e2 f2)
    | _ => cases f
section
variable {X : Cx} {xa : Nat → Addr} {Z : WX} {cl : Nat → List W → CRes} {pos p : Pos}
theorem RAs.starR {K : PySem.W.Frag} {F1 H1 H : Hp} {E1 : Sto} {σ : L2.St} {xs : List (Sum Nat W)} {vs : List V} {ds : List D} {n : Nat} {q : Addr} (S1 : SR K F1 H1 E1 σ) (rs : RAs K F1 H1 H E1 σ xs vs) (hn : n ≤ xs.length) (rf : RFs F1 (vs.drop n) ds) (hz : ds.length ≤ lineN) (hq : H1 q = none) :
    RAs K (upd F1 q (.tup (vs.drop n))) (upd H1 q (.tup (vs.drop n))) H E1 σ (xs.take n ++ [.inr (.fz (.tuple ds))]) (vs.take n ++ [.ref q]) := by
  have g : Grow F1 H1 (upd F1 q (.tup (vs.drop n))) (upd H1 q (.tup (vs.drop n))) := Grow.newT S1.le hq
  have hl := rs.len
  have lx : (xs.take n).length = n := by rw [List.length_take]; omega
  have lv : (vs.take n).length = n := by rw [List.length_take]; omega
  have low : ∀ (j : Nat), j < n → (xs.take n ++ [.inr (.fz (.tuple ds))])[j]? = xs[j]? ∧ (vs.take n ++ [V.ref q])[j]? = vs[j]? := fun j hj => by
    rw [List.getElem?_append_left (by rw [lx]; exact hj), List.getElem?_append_left (by rw [lv]; exact hj), List.getElem?_take, List.getElem?_take]
    simp [hj]
  have tmpLow : ∀ (j : Nat) (a : Addr), tmpAt (xs.take n ++ [.inr (.fz (.tuple ds))]) (vs.take n ++ [V.ref q]) j a → tmpAt xs vs j a := fun j a ⟨w, h1, h2, h3⟩ => by
    by_cases hj : j < n
    · rw [(low j hj).1] at h1
      rw [(low j hj).2] at h3
      exact ⟨w, h1, h2, h3⟩
    · rw [List.getElem?_append_right (by rw [lx]; omega)] at h1
      rw [lx] at h1
      by_cases e : j - n = 0
      · rw [e] at h1
        cases h1
        cases h2
      · obtain ⟨m, hm⟩ : ∃ m, j - n = m + 1 := ⟨j - n - 1, by omega⟩
        rw [hm] at h1
        simp at h1
  refine ⟨by simp [hl], fun j z u h1 h2 => ?_, fun i j a h1 h2 => rs.sep i j a (tmpLow i a h1) (tmpLow j a h2)⟩
  by_cases hj : j < n
  · rw [(low j hj).1] at h1
    rw [(low j hj).2] at h2
    exact (rs.at_ j z u h1 h2).carry (Ext.grow S1 g)
  · rw [List.getElem?_append_right (by rw [lx]; omega), lx] at h1
    rw [List.getElem?_append_right (by rw [lv]; omega), lv] at h2
    by_cases e : j - n = 0
    · rw [e] at h1 h2
      cases h1
      cases h2
      exact ⟨.tup upd_same hz (rf.up g.1), fun o => nomatch o⟩
    · obtain ⟨m, hm⟩ : ∃ m, j - n = m + 1 := ⟨j - n - 1, by omega⟩
      rw [hm] at h1
      simp at h1
theorem runGR {f : Addr} {sp : Sp} {E : L2.St → XK} {k : Nat} {pins : List (Addr × Obj)} {σ : L2.St} {H : Hp} {s : Shared} {Q : VK} {us : List Value} {vs : List V} (G : FnGR X.prog X.w X.K X.mg X.base k f sp) (hg : X.A.guards = some []) (hr : Room k X.A) (hx : PassesAt (L2.CX X.prog X.w) X σ (E σ))
    (I : Inv X pins σ H s) (r : Vals vs us) (h : sp vs H Q (E σ)) : wpAny (model X.prog X.w) X.A (call (.ref f) us) (EP X pins σ Q) X.xe s := by
  refine wpAny_call (codeAny_mono (G X.A X.stack s H us vs Q (E σ) hg hr I.env0 r h) ?_)
  intro rr s1 q
  match rr, q with
  | .error e, q => exact hx pins H s e s1 I q
  | .ok (.ret u), q => exact I.after q
  | .ok .next, q => exact q.elim
  | .ok .brk, q => exact q.elim
  | .ok .cont, q => exact q.elim
theorem v_callV {k f n : Nat} {x : Str} {e : Expr} {es : List Expr} {as : IAs} (c : CalleeV X.prog X.w X.K X.mg X.base xa cl k f x n) (tk : Takes X Z) (hgd : X.A.guards = some []) (hr : Room k X.A) (ha : PA X (e :: es) (toTAs X.K xa Z (evAs cl as)))
    (hn : ∀ E xs E1, evAs cl as E = .ok xs E1 → n ≤ xs.length) (hg : Gl X x := by rfl) (hdb : (x == ("__debug__" : Str)) = false := by decide) (he : starEach (e :: es) X.env = (false, eval e X.env) :: starEach es X.env := by rfl) (hpl : (backTo pos (starEach es X.env)).any (·.1) = false := by rfl) :
    PE X (.Call (.Name x p) (e :: es) [] pos) (toTE X.K xa Z (ev cl (.callv f n as))) := by
  obtain ⟨fa, G, hm, hk⟩ := c.ex
  refine ⟨fun pins s σ H Q I h => ?_⟩
  obtain ⟨F, E, S, q⟩ := h
  unfold ev at q
  have ask : toTAs X.K xa Z (evAs cl as) σ H fun vs H1 => spV (spF X.K xa (cl f) (n + 1)) n vs H1 Q (WE Z σ) := by
    refine ⟨F, E, S, (Post.bindB q).mono fun xs E1 F1 H1 ee S1 x1 q2 vs rs => ?_⟩
    have lxn := hn _ _ _ ee
    have q2 : Post X.K xa Z ((Res.lift (restD (xs.drop n) E1) E1).bind fun ds E2 => callR (cl f) (xs.take n ++ [.inr (.fz (.tuple ds))]) E2) F H E σ fun w E' F' H' => ∀ v, Rs X.K F' H' H E' σ w v → Q v H' := q2
    cases er : restD (xs.drop n) E1 with
    | none =>
      rw [er] at q2
      exact q2.elim
    | some ds =>
      rw [er] at q2
      have q3 : Post X.K xa Z (callR (cl f) (xs.take n ++ [.inr (.fz (.tuple ds))]) E1) F H E σ fun w E' F' H' => ∀ v, Rs X.K F' H' H E' σ w v → Q v H' := q2
      unfold restD at er
      obtain ⟨ws, e1, e2⟩ := bind_some' er
      obtain ⟨ds', e3, e4⟩ := bind_some' e2
      obtain ⟨hz, ed⟩ := if_some e4
      cases ed
      have rf : RFs F1 (vs.drop n) ds := by
        refine fzs_rf (H0 := H) S1 (by rw [List.length_drop, List.length_drop, rs.len]) (fun j y u h1 h2 => rs.at_ (n + j) y u ?_ ?_) e1 e3
        · rw [List.getElem?_drop] at h1
          exact h1
        · rw [List.getElem?_drop] at h2
          exact h2
      have z1000 : (1000 : Nat) ≤ lineN := by decide
      refine ⟨vs.take n, vs.drop n, (List.take_append_drop n vs).symm, by rw [List.length_take, ← rs.len]; omega, by rw [rf.len, line_eq]; omega, fun a ha' => ?_⟩
      have g : Grow F1 H1 (upd F1 a (.tup (vs.drop n))) (upd H1 a (.tup (vs.drop n))) := Grow.newT S1.le ha'
      exact call_ask c.num (S1.grow g) (x1.trans (Ext.grow S1 g)) (RAs.starR S1 rs lxn rf (by omega) ha') q3
  refine wpAny_Call_Name_kw (ld_glob I hg hm ?_ hdb)
  exact PySem.W.callWith_K (h₀ := X.base) I.ok.mod.kin hk (thn (ha.run pos pins s σ H _ I ask) fun _ s1 ⟨_, _, I1, r, q⟩ => ⟨I1.kIn, runGR (E := WE Z) G hgd hr (passAt tk σ) I1 r q⟩) he hpl
theorem evAs_len2 {a b : IA} {as : IAs} : ∀ E xs E1, evAs cl (.cons a (.cons b as)) E = .ok xs E1 → 2 ≤ xs.length := fun E xs E1 h => by
  unfold evAs at h
  obtain ⟨x, E2, _, h2⟩ := res_ok h
  obtain ⟨ys, E3, h3, h4⟩ := res_ok h2
  cases h4
  unfold evAs at h3
  obtain ⟨y, E4, _, h5⟩ := res_ok h3
  obtain ⟨zs, E5, _, h6⟩ := res_ok h5
  cases h6
  simp
theorem evAs_len1 {a : IA} {as : IAs} : ∀ E xs E1, evAs cl (.cons a as) E = .ok xs E1 → 1 ≤ xs.length := fun E xs E1 h => by
  unfold evAs at h
  obtain ⟨x, E2, _, h2⟩ := res_ok h
  obtain ⟨ys, E3, h3, h4⟩ := res_ok h2
  cases h4
  simp
end
/-- one def with a star parameter -/
theorem def_okV {P : Program} {w : World} {K : PySem.W.Frag} {mg : Str → Option Value} {base : Heap} {xa : Nat → Addr} {fns : List Fn} {n f r : Nat} {fn : Fn} {x qual pv : Str} {params : Arguments} {body : List Stmt} {scope : Scope} {fa : Addr} {fd : FuncData} {N ps : List Str}
    (D : FunD K x qual params body scope [] [] fa fd) (hm : mg x = some (.ref fa)) (S : FnScope N (ps ++ [pv]) scope) (e : fns[f]? = some fn) (hN : N.length = fn.nl) (hp : fn.np = ps.length + 1)
    (hb : ∀ (kV doc pm cdv ct : Value) (an : Option Addr) (us rest : List Value), us.length = ps.length → bindArgs (PySem.W.fnOf x qual params body scope .none kV doc pm an cdv ct) ⟨us ++ rest, []⟩ = (newTuple rest >>= fun t => pure (ps.zip us ++ [(pv, t)])))
    (hbody : ∀ (cdv : Value) (A : Around) (outer : List Env) (s : Shared) (H : Hp) (E : XK) (bo : List Bool), Takes (cxOf (L2.CX P w) P w K mg base N qual scope fa cdv A outer s H E) (zxOf E) →
      (cxOf (L2.CX P w) P w K mg base N qual scope fa cdv A outer s H E).A.guards = some [] → Room r (cxOf (L2.CX P w) P w K mg base N qual scope fa cdv A outer s H E).A →
      PassesOwn (model (cxOf (L2.CX P w) P w K mg base N qual scope fa cdv A outer s H E).prog (cxOf (L2.CX P w) P w K mg base N qual scope fa cdv A outer s H E).w) (cxOf (L2.CX P w) P w K mg base N qual scope fa cdv A outer s H E).A (cxOf (L2.CX P w) P w K mg base N qual scope fa cdv A outer s H E).env (cxOf (L2.CX P w) P w K mg base N qual scope fa cdv A outer s H E).xe →
      PSs (cxOf (L2.CX P w) P w K mg base N qual scope fa cdv A outer s H E) body (toTS K xa (zxOf E) bo (evS (callD fns n) bo fn.body))) :
    CalleeV P w K mg base xa (callD fns (n + 1)) (r + 1) f x ps.length := by
  have hle : fn.np ≤ fn.nl := by
    have := congrArg List.length S.pre
    rw [List.length_take, List.length_append] at this
    simp only [List.length_cons, List.length_nil] at this
    omega
  refine ⟨fun ws h => ?_, fa, ?_, hm, D.kp⟩
  · show (match fns[f]? with
      | none => CRes.stuck
      | some fn => _) = _
    rw [e]
    exact if_neg (by rw [hp]; exact h)
  · obtain ⟨oc, od, dV, kV, doc, pm, an, cdv, ct, osl, rfl, lk, hcd, hD, _⟩ := D.ex
    obtain rfl : dV = .none := by
      rcases hD with ⟨_, h⟩ | ⟨h, _⟩
      · exact h
      · exact absurd rfl h
    refine fn_starG lk hcd S (hb kV doc pm cdv ct an) fun A outer s H vs Q E hgd hr hsp => ?_
    rw [← hp] at hsp
    obtain ⟨bo, q⟩ := fn_ask (N := N) e hN hle hsp
    exact ⟨_, hbody cdv A outer s H E bo (takes_of rfl rfl rfl rfl) hgd hr (passes_of rfl), q⟩
/-! ### a, b = [..] -/
section
variable {X : Cx} {xa : Nat → Addr} {Z : WX} {bo : List Bool} {cl : Nat → List W → CRes} {pos : Pos}
theorem unpl_go {K : PySem.W.Frag} {F H F1 H1 : Hp} {E E1 : Sto} {σ : L2.St} {D : Ends} {v : V} {is : List Nat} {ds : List PyData} {xs : List V} (S1 : SR K F1 H1 E1 σ) (x1 : Ext F H E σ F1 H1 E1) (b : RFs F1 xs ds) (hl : ∀ i ∈ is, i < σ.length) (p : PostS K xa Z bo (unpS bo E1 is (ds.map .fz)) F H E σ D) :
    xs.length = is.length ∧ gAll is xs σ H1 D.nx := by
  unfold unpS at p
  split at p
  · exact p.elim
  rename_i hb
  cases e : putAll is (ds.map .fz) E1 with
  | none =>
    rw [e] at p
    exact p.elim
  | some E3 =>
    rw [e] at p
    have l := putAll_len e
    rw [List.length_map] at l
    refine ⟨by rw [b.len, l], put_all is _ _ E1 E3 F1 H1 σ _ e S1 b (fun i hi => ⟨hl i hi, ?_⟩) fun σ3 S3 x3 _ _ => (show PostS K xa Z bo (.ok .next E3) F H E σ D from p) F1 H1 σ3 S3 (x1.xs.trans x3)⟩
    cases q : bOf bo i with
    | false => rfl
    | true => exact absurd (List.any_eq_true.mpr ⟨i, hi, q⟩) hb
theorem s_unpl {ts : List Expr} {e : Expr} {is : List Nat} {k : Nat} {x : IE} {tpos : Pos} (hc : X.calm = true) (he : PE X e (toTE X.K xa Z (ev cl x))) (hg : PGs X ts (gAll is)) (hn : (assignEach ts X.env).length = is.length := by rfl) (hst : (assignEach ts X.env).findIdx? (·.1) = none := by rfl)
    (hs : swapsWithSole [.Tuple ts k tpos] e pos.line X.env = pure false := by rfl) (hw : swappedStores [.Tuple ts k tpos] e X.env = pure none := by rfl) (h1 : (assignEach [.Tuple ts k tpos] X.env).map (·.2) = [assign (.Tuple ts k tpos) X.env] := by rfl) (hl : is.all (fun i => decide (i < X.N.length)) = true := by rfl) :
    PS X (.Assign [.Tuple ts k tpos] e pos) (toTS X.K xa Z bo (evS cl bo (.unpl is x))) := by
  refine ⟨fun pins s σ H D I q => (ps_asg he (pg_unl hc hg hn hst) hs hw h1).run pins s σ H D I ?_⟩
  have lenσ : σ.length = X.N.length := I.len
  have hl' : ∀ i ∈ is, i < σ.length := fun i hi => by rw [lenσ]; exact slots_lt (t := .tp is) hl i hi
  obtain ⟨F, E, S, p⟩ := q
  unfold evS at p
  refine ⟨F, E, S, p.of_ev fun w E1 F1 H1 _ S1 x1 p2 v r => ?_⟩
  cases w with
  | ol ds =>
    obtain ⟨a, xs, rfl, h, z, b⟩ := r.1
    obtain ⟨q1, q2⟩ := unpl_go (v := V.ref a) S1 x1 b hl' p2
    exact ⟨a, xs, rfl, SqL.of h, q1, q2⟩
  | fz d =>
    cases d with
    | list ds =>
      have r1 : RF F1 v (.list ds) := r.1
      cases r1 with
      | lst a z b =>
        obtain ⟨q1, q2⟩ := unpl_go (v := V.non) S1 x1 b hl' p2
        exact ⟨_, _, rfl, SqL.of (S1.le _ _ a), q1, q2⟩
    | _ => exact p2.elim
  | _ => exact p2.elim
end
/-! ### the table of all defs -/
inductive Ent where
  | c (x : CN) (ps : List Str)
  | v (x : Str) (n : Nat)
def CalleeX (P : Program) (w : World) (K : PySem.W.Frag) (mg : Str → Option Value) (base : Heap) (xa : Nat → Addr) (cl : Nat → List W → CRes) (k : Nat) (f : Nat) : Ent → Prop
  | .c x ps => Callee P w K mg base xa cl k f x ps
  | .v x n => CalleeV P w K mg base xa cl k f x n
abbrev TableX (P : Program) (w : World) (K : PySem.W.Frag) (mg : Str → Option Value) (base : Heap) (xa : Nat → Addr) (fns : List Fn) (tab : List Ent) (n : Nat) : Prop :=
  ∀ (f : Nat) e, tab[f]? = some e → CalleeX P w K mg base xa (callD fns n) (2 * n) f e
/-- where the def of an entry is -/
def Found (K : PySem.W.Frag) (mg : Str → Option Value) : Ent → Prop
  | .c x ps => ∃ fa fd, AtN K mg x fa ∧ PySem.W.keepIn K (.ref fa) = true ∧ Binds K fd ps [] ∧ FuncAt K fa fd
  | .v x n => ∃ fa, mg x = some (.ref fa) ∧ PySem.W.keepIn K (.ref fa) = true
def AllE (Pr : Nat → Ent → Prop) : Nat → List Ent → Prop
  | _, [] => True
  | i, t :: r => Pr i t ∧ AllE Pr (i + 1) r
theorem AllE.get {Pr : Nat → Ent → Prop} : ∀ {l : List Ent} {i j : Nat} {x : Ent}, AllE Pr i l → l[j]? = some x → Pr (i + j) x
  | [], _, _, _, _, e => by simp at e
  | t :: r, i, 0, x, h, e => by
    simp at e
    subst e
    exact h.1
  | t :: r, i, j + 1, x, h, e => by
    have := AllE.get (l := r) (i := i + 1) (j := j) h.2 (by simpa using e)
    rw [show i + (j + 1) = i + 1 + j by omega]
    exact this
theorem tableX0 {P : Program} {w : World} {K : PySem.W.Frag} {mg : Str → Option Value} {base : Heap} {xa : Nat → Addr} {fns : List Fn} {tab : List Ent} (h : AllE (fun _ e => Found K mg e) 0 tab) : TableX P w K mg base xa fns tab 0 := by
  intro f e he
  have hf : Found K mg e := h.get he
  cases e with
  | c x ps =>
    obtain ⟨fa, fd, h1, h2, h3, h4⟩ := hf
    exact ⟨fun _ _ => rfl, fa, fd, ⟨fun vs H Q E q => q.1, fun A outer s H args us vs Q E _ _ _ _ _ q => False.elim (by
      obtain ⟨_, F, ws, _, p⟩ := q
      exact p)⟩, h1, h2, h3, h4⟩
  | v x n =>
    obtain ⟨fa, h1, h2⟩ := hf
    exact ⟨fun _ _ => rfl, fa, fun A outer s H us vs Q E _ _ e0 _ q => False.elim (by
      obtain ⟨ws, rest, _, _, _, q⟩ := q
      obtain ⟨_, F, ws, _, p⟩ := q s.heap.objs.size (e0.hok.fresh (Nat.le_refl _))
      exact p), h1, h2⟩
theorem tableX_all {P : Program} {w : World} {K : PySem.W.Frag} {mg : Str → Option Value} {base : Heap} {xa : Nat → Addr} {fns : List Fn} {tab : List Ent} (h0 : TableX P w K mg base xa fns tab 0)
    (hs : ∀ n, TableX P w K mg base xa fns tab n → AllE (fun f e => CalleeX P w K mg base xa (callD fns (n + 1)) (2 * n + 2) f e) 0 tab) : ∀ n, TableX P w K mg base xa fns tab n
  | 0 => h0
  | n + 1 => fun f e he => by
    have := (hs n (tableX_all h0 hs n)).get he
    rw [Nat.zero_add] at this
    exact this
section
variable {P : Program} {w : World} {K : PySem.W.Frag} {mg : Str → Option Value} {base : Heap} {xa : Nat → Addr} {fns : List Fn} {tab : List Ent} {n f : Nat}
theorem tC {x : CN} {ps : List Str} (T : TableX P w K mg base xa fns tab n) (e : tab[f]? = some (.c x ps)) : Callee P w K mg base xa (callD fns n) (2 * n) f x ps := T f _ e
theorem tV {x : Str} {m : Nat} (T : TableX P w K mg base xa fns tab n) (e : tab[f]? = some (.v x m)) : CalleeV P w K mg base xa (callD fns n) (2 * n) f x m := T f _ e
end
end Sf

end

section
set_option maxRecDepth 100000
set_option maxHeartbeats 2000000
/-! Sf: the law's end. -/
namespace Sf
open PySem PySem.Spec PyProof.Rows L2
theorem law_callG {P : Program} {w : World} {K : PySem.W.Frag} {mg mb : Str → Option Value} {k : Nat} {fa a : Addr} {fd : FuncData} {x : Str} {sp : Sp} {s₁ : Shared} {vs : List Value} {ns : List Int}
    (KX : K.In s₁.heap) (hns : s₁.heap.Ns mainGlobals mg) (hb : s₁.heap.Ns builtinsNs mb) (hbb : ∀ x : Str, x ≠ "__name__" → mb x = bootBuiltins x) (hlim : s₁.heap.NoLimit) (hg : s₁.gens = #[])
    (ha : s₁.heap.get? a = some { cls := .type "list", data := .seq vs.toArray }) (hi : IntsAre vs ns) (hl : ns.length ≤ sizeLine) (hr : Room k callerA)
    (F : ∀ base : Heap, K.In base → base.Ns mainGlobals mg → FnG P w K mg base k fa fd [x] sp) (hbind : ∀ (s : Shared) (u : Value), BindsTo s fd ⟨[u], []⟩ [(x, u)])
    (hsp : ∀ H : Hp, Only H → SqL K H a (ns.map V.int) → sp [.ref a] H (fun v _ => v = .bl true) fun _ _ _ => False)
    (hCX : ∀ H e s', L2.CX P w [] H s₁ (fun _ _ _ => False) e s' → False) :
    codeAny (model P w) callerA (.call (.ref fa) ⟨[.ref a], []⟩) (fun r s' => r = .ok (.ret (.bool true)) ∧ OldK s₁.heap s'.heap ∧ s'.os = s₁.os ∧ AllBare s'.gens) s₁ := by
  have rv := vals_ints hi
  have lenV := hi.length
  have core : ∀ H : Hp, Only H → SqL K H a (ns.map V.int) → HOk P w H s₁.heap → (∀ b, H b ≠ none → b = a) → (H a ≠ none → K.lookup a = none) →
      codeAny (model P w) callerA (.call (.ref fa) ⟨[.ref a], []⟩) (fun r s' => r = .ok (.ret (.bool true)) ∧ OldK s₁.heap s'.heap ∧ s'.os = s₁.os ∧ AllBare s'.gens) s₁ := by
    intro H hO hS hok hA hK
    have base_of : ∀ {b : Addr} {o : Obj}, s₁.heap.get? b = some o → H b = none → (hidT s₁.heap H).get? b = some o := fun e n => hidT_get e n
    have noA : ∀ {b : Addr} {o : Obj} {es : Array DictEntry} {ep : Nat}, s₁.heap.get? b = some o → o.data = .dict es ep → H b = none := fun {b o es ep} e d => by
      cases q : H b with
      | none => rfl
      | some u =>
        have e' : b = a := hA b (by rw [q]; simp)
        subst e'
        rw [ha] at e; cases e
        have d' : Data.seq vs.toArray _ = Data.dict es ep := d
        cases d'
    have nsK : ∀ {b : Addr} {m : Str → Option Value}, s₁.heap.Ns b m → (hidT s₁.heap H).Ns b m := fun {b m} ⟨o, es, ep, e, d, r⟩ => ⟨o, es, ep, base_of e (noA e d), d, r⟩
    have hKb : K.In (hidT s₁.heap H) := fun b o e => base_of (KX b o e) (by
      cases q : H b with
      | none => rfl
      | some u =>
        have e' : b = a := hA b (by rw [q]; simp)
        subst e'
        rw [hK (by rw [q]; simp)] at e; cases e)
    have hM : Mod K mg (hidT s₁.heap H) := ⟨hKb, nsK hns, ⟨mb, nsK hb, hbb⟩, let ⟨mc, h1, h2⟩ := hlim; ⟨mc, nsK h1, h2⟩⟩
    have e0 : Env0 P w K mg (hidT s₁.heap H) callerA [] s₁ H := ⟨rfl, hM, fun b o e => of_hidT e, Nat.le_of_eq (hidT_size _ _), trivial, fun b hb => absurd (show b ∈ ([] : List Addr) from hb) (by simp), hok, .of_eq hg⟩
    refine codeAny_mono ((F _ hKb (nsK hns)).run callerA [] s₁ H ⟨[.ref a], []⟩ [.ref a] [.ref a] _ _ rfl hr e0 (hbind s₁ (.ref a)) (.cons rfl .nil) (hsp H hO hS)) fun r s' h => ?_
    cases r with
    | error e => exact (hCX H e s' h).elim
    | ok fl =>
      cases fl with
      | next => exact False.elim h
      | brk => exact False.elim h
      | cont => exact False.elim h
      | ret u =>
        obtain ⟨v, H', os, bare, un, hok', r', q⟩ := h
        have q' : v = .bl true := q
        subst q'
        obtain rfl : u = Value.bool true := r'
        refine ⟨rfl, OldK.of_keep fun b o e => ?_, os, bare⟩
        cases q : H b with
        | none => exact un.keep b o e q (by intro z; exact absurd (show b ∈ ([] : List Addr) from z) (by simp)) (by simp)
        | some u =>
          rcases hO b with z | ⟨ob, xs, z⟩
          · rw [q] at z; cases z
          · have z2 := un.frzs b ob _ z
            obtain ⟨e1, _⟩ := hok b _ z
            obtain ⟨e2, _⟩ := hok' b _ z2
            rw [e] at e1; cases e1
            exact e2
  cases hk : K.lookup a with
  | some o =>
    have e := KX a o hk
    rw [ha] at e
    cases e
    refine core (fun _ => none) (fun _ => .inl rfl) (.inr ⟨_, vs.toArray, _, hk, rfl, rfl, rfl, by rw [List.size_toArray, lenV]; exact hl, by simpa using rv⟩) (fun b u z => by have z' : (none : Option HO) = some u := z; cases z') (fun b z => absurd rfl z) fun z => absurd rfl z
  | none =>
    refine core (fun b => if b = a then some (.frz { cls := .type "list", data := .seq vs.toArray } (.lst (ns.map V.int))) else none) (fun b => ?_) (.inl (.inr ⟨{ cls := .type "list", data := .seq vs.toArray }, if_pos rfl⟩)) (fun b u z => ?_) (fun b z => ?_) fun _ => hk
    · by_cases hb : b = a
      · exact .inr ⟨_, _, if_pos hb⟩
      · exact .inl (if_neg hb)
    · by_cases hb : b = a
      · have z' := (if_pos hb).symm.trans z
        cases z'
        subst hb
        exact ⟨ha, by rw [List.length_map]; exact hl, vs, _, rv, ha⟩
      · have z' := (if_neg hb).symm.trans z
        cases z'
    · by_cases hb : b = a
      · exact hb
      · exact absurd (if_neg hb) z
theorem walkG {l : PySem.W.OpenLaw} {n k : Nat} {q : Program} {loose : List Str} {XP : (Str → Option Value) → Heap → Prop} {YP : World → Heap → Prop} {d : DefRec} {x : Str}
    (hn : l.most = some n) (hn2 : n ≤ sizeLine) (hdf : d.params.defaults = []) (hr : Room k callerA)
    (F : ∀ (w : World) (mg : Str → Option Value) (fa : Addr) (h : Heap), YP w h → h.Ns mainGlobals mg → mg d.name = some (.ref fa) →
      ∃ (K : PySem.W.Frag) (fd : FuncData) (sp : Sp), K.In h ∧ (∀ (s : Shared) (u : Value), BindsTo s fd ⟨[u], []⟩ [(x, u)]) ∧
        (∀ (H : Hp) (a : Addr) (ns : List Int), ns.length ≤ n → Only H → SqL K H a (ns.map V.int) → sp [.ref a] H (fun v _ => v = .bl true) fun _ _ _ => False) ∧
        ∀ base : Heap, K.In base → base.Ns mainGlobals mg → FnG l.prog w K mg base k fa fd [x] sp) :
    PySem.W.WalkO q loose XP YP l.row.toRowW d [] (fun f vs => PySem.call f vs) := by
  refine Att.attach_call hn hdf fun w s₀ s₁ mg mb fa o pm cd doc a vs ns G Y ho hd hcd hmg hobj hints hlen hg => ?_
  obtain ⟨K, fd, sp, KX, hb, hsp, hF⟩ := F w mg fa _ Y G.T.g hmg
  exact law_callG KX G.T.g G.T.b G.T.builtins G.T.nolimit hg hobj hints (Nat.le_trans hlen hn2) hr hF hb (fun H hO hS => hsp H a ns hlen hO hS) fun H e s' ⟨_, _, _, _, _, _, _, _, _, _, _, _, z⟩ => z
variable [WorldI]
/-- what a law asks of the evaluator -/
theorem law_sp {K : PySem.W.Frag} {xa : Nat → Addr} {cl : List W → CRes} {fin : List W} {H : Hp} {a : Addr} {ns : List Int} (h : SqL K H a (ns.map V.int)) (e : cl [.scr ns] = .ret (.fz (.bool true)) fin) :
    spF K xa cl 1 [.ref a] H (fun v _ => v = .bl true) fun _ _ _ => False := by
  refine ⟨rfl, H, [.scr ns], ⟨rfl, fun i w q => ?_, fun i j b ⟨w, h1, h2, _⟩ => ?_, fun i b ⟨w, h1, h2, _⟩ => ?_, Le.refl H⟩, ?_⟩
  · cases i with
    | zero =>
      cases q
      exact ⟨.ref a, rfl, a, rfl, h⟩
    | succ i => simp at q
  · cases i with
    | zero =>
      cases h1
      cases h2
    | succ i => simp at h1
  · cases i with
    | zero =>
      cases h1
      cases h2
    | succ i => simp at h1
  · rw [e]
    intro F' H' v _ _ r
    have q : RF F' v (.bool true) := r.1
    cases q
    rfl
end Sf

end

section
set_option maxRecDepth 100000
set_option maxHeartbeats 1000000
/-! Sf: tools for reckoning with the evaluator. -/
namespace Sf
open PySem

def endR (ws : List W) : Res Fl → CRes
  | .stuck => .stuck
  | .ok (.ret w) E => if keptS ws E then .ret w (finS ws E) else .stuck
  | .ok .next E => if keptS ws E then .ret (.fz .none) (finS ws E) else .stuck
  | .ok .brk _ => .stuck
  | .ok .cont _ => .stuck
  | .exc c E => if keptS ws E then .exc c (finS ws E) else .stuck
theorem call_eq {fns : List Fn} {n f : Nat} {fn : Fn} {ws : List W} (e : fns[f]? = some fn) (h : ws.length = fn.np) : callD fns (n + 1) f ws = endR ws (evS (callD fns n) (ws.map W.own) fn.body (ws.map some ++ List.replicate (fn.nl - fn.np) none)) := by
  show (match fns[f]? with
    | none => CRes.stuck
    | some fn => _) = _
  rw [e]
  exact if_pos h

section
variable {cl : Nat → List W → CRes} {o : Option W} {E : Sto} {bo : List Bool}
/-! one step at a store in hand -/
@[simp] theorem z_con (d : D) : ev cl (.con d) (o :: E) = .ok (.fz d) (o :: E) := by first | (rw [ev]; done) | (rw [ev]; rfl)
@[simp] theorem z_var (i : Nat) : ev cl (.var i) (o :: E) = readS (o :: E) i := by first | (rw [ev]; done) | (rw [ev]; rfl)
@[simp] theorem z_o1 (p : O1) (a : IA) : ev cl (.o1 p a) (o :: E) = (evA cl a (o :: E)).bind fun x E1 => .lift ((resolve [x] E1).bind fun ws => match ws with
      | [w] => op1 p w
      | _ => none) E1 := by first | (rw [ev]; done) | (rw [ev]; rfl)
@[simp] theorem z_o2 (p : O2) (a b : IA) : ev cl (.o2 p a b) (o :: E) = (evA cl a (o :: E)).bind fun x E1 => (evA cl b E1).bind fun y E2 => .lift ((resolve [x, y] E2).bind fun ws => match ws with
      | [w, u] => op2 p w u
      | _ => none) E2 := by first | (rw [ev]; done) | (rw [ev]; rfl)
@[simp] theorem z_dsp (t : Bool) (es : IEs) : ev cl (.dsp t es) (o :: E) = (evDs cl es (o :: E)).bind fun ds E1 => .ok (if t then .fz (.tuple ds) else .ol ds) E1 := by first | (rw [ev]; done) | (rw [ev]; rfl)
@[simp] theorem z_slc (a : IA) (lo hi : IO) : ev cl (.slc a lo hi) (o :: E) = (evA cl a (o :: E)).bind fun x E1 => (evO cl lo E1).bind fun l E2 => (evO cl hi E2).bind fun h E3 => .lift ((resolve [x] E3).bind fun ws => match ws with
      | [w] => sliceW w l h
      | _ => none) E3 := by first | (rw [ev]; done) | (rw [ev]; rfl)
@[simp] theorem z_call (f : Nat) (as : IAs) : ev cl (.call f as) (o :: E) = (evAs cl as (o :: E)).bind fun xs E1 => callR (cl f) xs E1 := by first | (rw [ev]; done) | (rw [ev]; rfl)
@[simp] theorem z_ite (c : IT) (a b : IE) : ev cl (.ite c a b) (o :: E) = (evT cl c (o :: E)).bind fun t E1 => if t then ev cl a E1 else ev cl b E1 := by first | (rw [ev]; done) | (rw [ev]; rfl)
@[simp] theorem z_tst (t : IT) : ev cl (.tst t) (o :: E) = (evV cl t (o :: E)).bind fun b E1 => .ok (.fz (.bool b)) E1 := by first | (rw [ev]; done) | (rw [ev]; rfl)
@[simp] theorem z_chn (p p2 : O2) (a b c : IA) : ev cl (.chn p p2 a b c) (o :: E) = (evA cl a (o :: E)).bind fun x E1 => (evA cl b E1).bind fun y E2 => (Res.lift ((resolve [x, y] E2).bind fun ws => match ws with
      | [w, u] => (op2 p w u).bind W.bool?
      | _ => none) E2).bind fun t E3 => if t then (evA cl c E3).bind fun z E4 => .lift ((resolve [y, z] E4).bind fun ws => match ws with
      | [w, u] => op2 p2 w u
      | _ => none) E4 else .ok (.fz (.bool false)) E3 := by first | (rw [ev]; done) | (rw [ev]; rfl)
/-- a turn of a comprehension -/
def lcT (cl : Nat → List W → CRes) (elt : IE) (tg : Tg) (cnd : IT) : D → Sto → Res (Option D) := fun d E2 => (Res.lift (tg.put d E2) E2).bind fun E3 _ => (evT cl cnd E3).bind fun t E4 =>
  if t then (ev cl elt E4).bind fun w E5 => (Res.lift w.frzL E5).bind fun y _ => .ok (some y) (wipeS E5 tg.slots) else .ok none (wipeS E4 tg.slots)
@[simp] theorem z_lc (elt : IE) (tg : Tg) (src : IR) (cnd : IT) : ev cl (.lc elt tg src cnd) (o :: E) = (evR cl src (o :: E)).bind fun ds E1 => (Res.noX (mapR (lcT cl elt tg cnd) ds (wipeS E1 tg.slots))).bind fun ys E9 => .ok (.ol ys) (src.unlock (o :: E) E9) := by first | (rw [ev]; done) | (rw [ev]; rfl)
@[simp] theorem z_rng1 (t : Bool) (n : IE) : ev cl (.rng t (.r1 n)) (o :: E) = (evR cl (.r1 n) (o :: E)).bind fun ds E1 => .ok (if t then .fz (.tuple ds) else .ol ds) E1 := by rw [ev]; intro i h; cases h
@[simp] theorem z_rng2 (t : Bool) (n m : IE) : ev cl (.rng t (.r2 n m)) (o :: E) = (evR cl (.r2 n m) (o :: E)).bind fun ds E1 => .ok (if t then .fz (.tuple ds) else .ol ds) E1 := by rw [ev]; intro i h; cases h
@[simp] theorem z_dnew (t : Bool) : ev cl (.dnew t) (o :: E) = .ok (.od t []) (o :: E) := by first | (rw [ev]; done) | (rw [ev]; rfl)
@[simp] theorem z_dsp1 (t : Bool) (k v : IE) : ev cl (.dsp1 t k v) (o :: E) = (ev cl k (o :: E)).bind fun w E1 => (Res.lift w.frzL E1).bind fun d E2 => (ev cl v E2).bind fun u E3 => (Res.lift u.frzL E3).bind fun e E4 => if kindOk t d then .ok (.od t [(d, e)]) E4 else .stuck := by first | (rw [ev]; done) | (rw [ev]; rfl)
@[simp] theorem z_sdef (i : Nat) (k v : IE) : ev cl (.sdef i k v) (o :: E) = (Res.lift ((getS (o :: E) i).bind W.dctL?) (o :: E)).bind fun _ E0 => (ev cl k E0).bind fun w E1 => (Res.lift w.frzL E1).bind fun d E2 => (ev cl v E2).bind fun u E3 => (Res.lift u.frzL E3).bind fun e E4 => sdefR i d e E4 := by first | (rw [ev]; done) | (rw [ev]; rfl)
/-- a turn of a dict's comprehension -/
def dcT (cl : Nat → List W → CRes) (t : Bool) (k v : IE) (tg : Tg) : D → Sto → Res (Option D) := fun d E2 => (Res.lift (tg.put d E2) E2).bind fun E3 _ =>
        (ev cl k E3).bind fun w E4 => (Res.lift w.frzL E4).bind fun d E5 => (ev cl v E5).bind fun u E6 => (Res.lift u.frzL E6).bind fun e _ => if kindOk t d then .ok (some (.tuple [d, e])) (wipeS E6 tg.slots) else .stuck
@[simp] theorem z_dc (t : Bool) (k v : IE) (tg : Tg) (src : IR) : ev cl (.dc t k v tg src) (o :: E) = (evR cl src (o :: E)).bind fun ds E1 => (Res.noX (mapR (dcT cl t k v tg) ds (wipeS E1 tg.slots))).bind fun ys E9 => .ok (.od t (dmake ys)) (src.unlock (o :: E) E9) := by first | (rw [ev]; done) | (rw [ev]; rfl)
@[simp] theorem z_lidx (t : Bool) (a : IA) (k : IE) : ev cl (.lidx t a k) (o :: E) = (evA cl a (o :: E)).bind fun x E1 => (Res.lift ((resolve [x] E1).bind fun ws => match ws with
      | [w] => w.tseq? t
      | _ => none) E1).bind fun _ E2 => (ev cl k E2).bind fun u E3 => .lift ((resolve [x] E3).bind fun ws => match ws with
      | [w] => u.look.bind fun d => lidxW t w d
      | _ => none) E3 := by first | (rw [ev]; done) | (rw [ev]; rfl)
@[simp] theorem z_lidxD (a : IA) (k : IE) : ev cl (.lidxD a k) (o :: E) = (evA cl a (o :: E)).bind fun x E1 => (Res.lift ((resolve [x] E1).bind fun ws => match ws with
      | [w] => w.tseq? false
      | _ => none) E1).bind fun _ E2 => (ev cl k E2).bind fun u E3 => .lift ((resolve [x] E3).bind fun ws => match ws with
      | [w] => u.look.bind fun d => lidxDW w d
      | _ => none) E3 := by first | (rw [ev]; done) | (rw [ev]; rfl)
@[simp] theorem z_gcon (ds : List D) : ev cl (.gcon ds) (o :: E) = .ok (.gk ds) (o :: E) := by first | (rw [ev]; done) | (rw [ev]; rfl)
@[simp] theorem z_callv (f n : Nat) (as : IAs) : ev cl (.callv f n as) (o :: E) = (evAs cl as (o :: E)).bind fun xs E1 => (Res.lift (restD (xs.drop n) E1) E1).bind fun ds E2 => callR (cl f) (xs.take n ++ [.inr (.fz (.tuple ds))]) E2 := by first | (rw [ev]; done) | (rw [ev]; rfl)
@[simp] theorem z_mk (c f : Nat) (as : IAs) : ev cl (.mk c f as) (o :: E) = (evAs cl as (o :: E)).bind fun xs E1 => mkR (cl f) c xs E1 := by first | (rw [ev]; done) | (rw [ev]; rfl)
@[simp] theorem z_fld (i : Nat) (cs : List Nat) (x : Str) : ev cl (.fld i cs x) (o :: E) = match getS (o :: E) i with
    | some (.ob c fs) => if cs.contains c then Res.lift ((fs.lookup x).map W.fz) (o :: E) else .stuck
    | _ => .stuck := by first | (rw [ev]; done) | (rw [ev]; rfl)
@[simp] theorem z_ocall (cs : List Nat) (m : Str) (f : Nat) (a : IA) (as : IAs) : ev cl (.ocall cs m f a as) (o :: E) = (evA cl a (o :: E)).bind fun x E1 => (Res.lift (obAt cs m x E1) E1).bind fun _ E2 => (evAs cl as E2).bind fun xs E3 => (Res.lift (obAt cs m x E3) E3).bind fun _ E4 => callR (cl f) (x :: xs) E4 := by first | (rw [ev]; done) | (rw [ev]; rfl)
/-- a turn of a comprehension of two for -/
def lc2T (cl : Nat → List W → CRes) (elt : IE) (tg tg1 : Tg) (src1 : IR) (cnd : IT) : D → Sto → Res (List D) := fun d E2 => (Res.lift (tg.put d E2) E2).bind fun E3 _ => (evR cl src1 E3).bind fun es E4 => (mapR (lcT cl elt tg1 cnd) es (wipeS E4 tg1.slots)).bind fun ys E9 => .ok ys (wipeS E9 (tg.slots ++ tg1.slots))
@[simp] theorem z_lc2 (elt : IE) (tg : Tg) (src : IR) (tg1 : Tg) (src1 : IR) (cnd : IT) : ev cl (.lc2 elt tg src tg1 src1 cnd) (o :: E) = (evR cl src (o :: E)).bind fun ds E1 => (Res.noX (mapL (lc2T cl elt tg tg1 src1 cnd) ds (wipeS E1 (tg.slots ++ tg1.slots)))).bind fun ys E9 => if ys.length ≤ lineN then .ok (.ol ys) (src.unlock (o :: E) E9) else .stuck := by first | (rw [ev]; done) | (rw [ev]; rfl)
@[simp] theorem z_rngV (t : Bool) (n : IE) : ev cl (.rng t (.vals n)) (o :: E) = (evR cl (.vals n) (o :: E)).bind fun ds E1 => .ok (if t then .fz (.tuple ds) else .ol ds) E1 := by rw [ev]; intro i h; cases h
@[simp] theorem z_rngI (t : Bool) (n : IE) : ev cl (.rng t (.items n)) (o :: E) = (evR cl (.items n) (o :: E)).bind fun ds E1 => .ok (if t then .fz (.tuple ds) else .ol ds) E1 := by rw [ev]; intro i h; cases h
@[simp] theorem z_rngK (t : Bool) (n : IE) : ev cl (.rng t (.keys n)) (o :: E) = (evR cl (.keys n) (o :: E)).bind fun ds E1 => .ok (if t then .fz (.tuple ds) else .ol ds) E1 := by rw [ev]; intro i h; cases h
@[simp] theorem z_pop (i : Nat) (k : IE) : ev cl (.pop i k) (o :: E) = match getS (o :: E) i with
    | some (.ol _) => (ev cl k (o :: E)).bind fun u E1 => match u, getS E1 i with
      | .fz (.int j), some (.ol ds) => (match L2.ixN ds.length j with
        | some m => (match ds[m]? with
          | some d => .ok (.fz d) (setS E1 i (.ol (ds.eraseIdx m)))
          | none => .stuck)
        | none => .stuck)
      | _, _ => .stuck
    | _ => .stuck := by first | (rw [ev]; done) | (rw [ev]; rfl)
@[simp] theorem z_e (x : IE) : evA cl (.e x) (o :: E) = (ev cl x (o :: E)).bind fun w E1 => .ok (.inr w) E1 := by first | (rw [evA]; done) | (rw [evA]; rfl)
@[simp] theorem z_p (i : Nat) : evA cl (.p i) (o :: E) = (Res.lift (getS (o :: E) i) (o :: E)).bind fun _ E1 => .ok (.inl i) E1 := by first | (rw [evA]; done) | (rw [evA]; rfl)
@[simp] theorem z_dnil : evDs cl .nil (o :: E) = .ok [] (o :: E) := by first | (rw [evDs]; done) | (rw [evDs]; rfl)
@[simp] theorem z_dcons (x : IE) (xs : IEs) : evDs cl (.cons x xs) (o :: E) = (ev cl x (o :: E)).bind fun w E1 => (Res.lift w.frz E1).bind fun d E2 => (evDs cl xs E2).bind fun ds E3 => .ok (d :: ds) E3 := by first | (rw [evDs]; done) | (rw [evDs]; rfl)
@[simp] theorem z_dstar (x : IE) (xs : IEs) : evDs cl (.star x xs) (o :: E) = (ev cl x (o :: E)).bind fun w E1 => (Res.lift (w.frz.bind fun d => (W.fz d).items?) E1).bind fun ds E2 => if ds.length ≤ 1000 then (evDs cl xs E2).bind fun es E3 => .ok (ds ++ es) E3 else .stuck := by first | (rw [evDs]; done) | (rw [evDs]; rfl)
@[simp] theorem z_wnil : evWs cl .nil (o :: E) = .ok [] (o :: E) := by first | (rw [evWs]; done) | (rw [evWs]; rfl)
@[simp] theorem z_wcons (x : IE) (xs : IEs) : evWs cl (.cons x xs) (o :: E) = (ev cl x (o :: E)).bind fun w E1 => (evWs cl xs E1).bind fun ws E2 => .ok (w :: ws) E2 := by first | (rw [evWs]; done) | (rw [evWs]; rfl)
@[simp] theorem z_anil : evAs cl .nil (o :: E) = .ok [] (o :: E) := by first | (rw [evAs]; done) | (rw [evAs]; rfl)
@[simp] theorem z_acons (x : IA) (xs : IAs) : evAs cl (.cons x xs) (o :: E) = (evA cl x (o :: E)).bind fun a E1 => (evAs cl xs E1).bind fun as E2 => .ok (a :: as) E2 := by first | (rw [evAs]; done) | (rw [evAs]; rfl)
@[simp] theorem z_ono : evO cl .no (o :: E) = .ok none (o :: E) := by first | (rw [evO]; done) | (rw [evO]; rfl)
@[simp] theorem z_oyes (x : IE) : evO cl (.yes x) (o :: E) = (ev cl x (o :: E)).bind fun w E1 => match w with
    | .fz (.int i) => .ok (some i) E1
    | _ => .stuck := by first | (rw [evO]; done) | (rw [evO]; rfl)
@[simp] theorem z_tt : evT cl .tt (o :: E) = .ok true (o :: E) := by first | (rw [evT]; done) | (rw [evT]; rfl)
@[simp] theorem z_tv (a : IA) : evT cl (.v a) (o :: E) = (evA cl a (o :: E)).bind fun x E1 => .lift ((resolve [x] E1).bind fun ws => match ws with
      | [w] => truthW w
      | _ => none) E1 := by first | (rw [evT]; done) | (rw [evT]; rfl)
@[simp] theorem z_tno (t : IT) : evT cl (.no t) (o :: E) = (evT cl t (o :: E)).bind fun b E1 => .ok (!b) E1 := by first | (rw [evT]; done) | (rw [evT]; rfl)
@[simp] theorem z_tan (s t : IT) : evT cl (.an s t) (o :: E) = (evT cl s (o :: E)).bind fun b E1 => if b then evT cl t E1 else .ok false E1 := by first | (rw [evT]; done) | (rw [evT]; rfl)
@[simp] theorem z_tor (s t : IT) : evT cl (.or s t) (o :: E) = (evT cl s (o :: E)).bind fun b E1 => if b then .ok true E1 else evT cl t E1 := by first | (rw [evT]; done) | (rw [evT]; rfl)
@[simp] theorem z_vtt : evV cl .tt (o :: E) = .ok true (o :: E) := by first | (rw [evV]; done) | (rw [evV]; rfl)
@[simp] theorem z_vv (a : IA) : evV cl (.v a) (o :: E) = (evA cl a (o :: E)).bind fun x E1 => .lift ((resolve [x] E1).bind fun ws => match ws with
      | [w] => w.bool?
      | _ => none) E1 := by first | (rw [evV]; done) | (rw [evV]; rfl)
@[simp] theorem z_vno (t : IT) : evV cl (.no t) (o :: E) = (evV cl t (o :: E)).bind fun b E1 => .ok (!b) E1 := by first | (rw [evV]; done) | (rw [evV]; rfl)
@[simp] theorem z_van (s t : IT) : evV cl (.an s t) (o :: E) = (evV cl s (o :: E)).bind fun b E1 => if b then evV cl t E1 else .ok false E1 := by first | (rw [evV]; done) | (rw [evV]; rfl)
@[simp] theorem z_vor (s t : IT) : evV cl (.or s t) (o :: E) = (evV cl s (o :: E)).bind fun b E1 => if b then .ok true E1 else evV cl t E1 := by first | (rw [evV]; done) | (rw [evV]; rfl)
@[simp] theorem z_its (x : IE) : evR cl (.its x) (o :: E) = (ev cl x (o :: E)).bind fun w E1 => .lift (w.frz.bind fun d => (W.fz d).items?) E1 := by first | (rw [evR]; done) | (rw [evR]; rfl)
@[simp] theorem z_own (i : Nat) : evR cl (.own i) (o :: E) = match getS (o :: E) i with
    | some (.ol ds) => .ok ds (setS (o :: E) i (.lk ds))
    | some (.lk ds) => .ok ds (o :: E)
    | some (.fz (.list ds)) => .ok ds (o :: E)
    | some (.fz (.tuple ds)) => .ok ds (o :: E)
    | _ => .stuck := by first | (rw [evR]; done) | (rw [evR]; rfl)
@[simp] theorem z_r1 (n : IE) : evR cl (.r1 n) (o :: E) = (ev cl n (o :: E)).bind fun w E1 => match w with
    | .fz (.int j) => .lift (rangeD 0 j) E1
    | _ => .stuck := by first | (rw [evR]; done) | (rw [evR]; rfl)
@[simp] theorem z_r2 (a b : IE) : evR cl (.r2 a b) (o :: E) = (ev cl a (o :: E)).bind fun w E1 => (ev cl b E1).bind fun u E2 => match w, u with
    | .fz (.int i), .fz (.int j) => .lift (rangeD i j) E2
    | _, _ => .stuck := by first | (rw [evR]; done) | (rw [evR]; rfl)
@[simp] theorem z_items (x : IE) : evR cl (.items x) (o :: E) = (ev cl x (o :: E)).bind fun w E1 => .lift (w.dctL?.map fun kvs => kvs.map itemD) E1 := by first | (rw [evR]; done) | (rw [evR]; rfl)
@[simp] theorem z_keys (x : IE) : evR cl (.keys x) (o :: E) = (ev cl x (o :: E)).bind fun w E1 => .lift (w.dctL?.map fun kvs => kvs.map (·.1)) E1 := by first | (rw [evR]; done) | (rw [evR]; rfl)
@[simp] theorem z_vals (x : IE) : evR cl (.vals x) (o :: E) = (ev cl x (o :: E)).bind fun w E1 => .lift (w.dctL?.map fun kvs => kvs.map (·.2)) E1 := by first | (rw [evR]; done) | (rw [evR]; rfl)
@[simp] theorem z_enum (x : IE) : evR cl (.enum x) (o :: E) = (ev cl x (o :: E)).bind fun w E1 => .lift ((w.frz.bind fun d => (W.fz d).items?).map enumD) E1 := by first | (rw [evR]; done) | (rw [evR]; rfl)
@[simp] theorem z_zip (x y : IE) : evR cl (.zip x y) (o :: E) = (ev cl x (o :: E)).bind fun w E1 => (Res.lift (w.frz.bind fun d => (W.fz d).items?) E1).bind fun ds E2 => (ev cl y E2).bind fun u E3 => (Res.lift (u.frz.bind fun d => (W.fz d).items?) E3).bind fun es E4 => .ok (zipD ds es) E4 := by first | (rw [evR]; done) | (rw [evR]; rfl)
/-! statements -/
@[simp] theorem z_skip : evS cl bo .skip (o :: E) = .ok .next (o :: E) := by first | (rw [evS]; done) | (rw [evS]; rfl)
@[simp] theorem z_no : evS cl bo .no (o :: E) = .stuck := by first | (rw [evS]; done) | (rw [evS]; rfl)
@[simp] theorem z_augp (i : Nat) (k x : IE) : evS cl bo (.augp i k x) (o :: E) = match getS (o :: E) i with
    | some (.ol _) => (ev cl k (o :: E)).bind fun u E1 => match u, getS E1 i with
      | .fz (.int j), some (.ol ds) => (match atD ds j with
        | some (.int a) => (ev cl x E1).bind fun w E2 => (match w, getS E2 i with
          | .fz (.int b), some (.ol es) => (match L2.ixN es.length j with
            | some m => .ok .next (setS E2 i (.ol (es.set m (.int (a + b)))))
            | none => .stuck)
          | _, _ => .stuck)
        | _ => .stuck)
      | _, _ => .stuck
    | _ => .stuck := by first | (rw [evS]; done) | (rw [evS]; rfl)
@[simp] theorem z_raise (c : Nat) : evS cl bo (.raise c) (o :: E) = .exc ⟨c, []⟩ (o :: E) := by first | (rw [evS]; done) | (rw [evS]; rfl)
@[simp] theorem z_tryx (b s : S) (hit miss : List Nat) : evS cl bo (.tryx b hit miss s) (o :: E) = match evS cl bo b (o :: E) with
    | .exc c E1 => if hit.contains c.cls && c.flds.isEmpty then (evS cl bo s E1).noX else if miss.contains c.cls && c.flds.isEmpty then .exc c E1 else .stuck
    | .ok fl E1 => .ok fl E1
    | .stuck => .stuck := by first | (rw [evS]; done) | (rw [evS]; rfl)
@[simp] theorem z_brk : evS cl bo .brk (o :: E) = .ok .brk (o :: E) := by first | (rw [evS]; done) | (rw [evS]; rfl)
@[simp] theorem z_cont : evS cl bo .cont (o :: E) = .ok .cont (o :: E) := by first | (rw [evS]; done) | (rw [evS]; rfl)
@[simp] theorem z_seq (a b : S) : evS cl bo (.seq a b) (o :: E) = (evS cl bo a (o :: E)).bind fun fl E1 => match fl with
    | .next => evS cl bo b E1
    | .ret w => .ok (.ret w) E1
    | .brk => .ok .brk E1
    | .cont => .ok .cont E1 := by first | (rw [evS]; done) | (rw [evS]; rfl)
@[simp] theorem z_set (i : Nat) (x : IE) : evS cl bo (.set i x) (o :: E) = (ev cl x (o :: E)).bind fun w E1 => stoS bo E1 i w := by first | (rw [evS]; done) | (rw [evS]; rfl)
@[simp] theorem z_unp (is : List Nat) (x : IE) : evS cl bo (.unp is x) (o :: E) = (ev cl x (o :: E)).bind fun w E1 => match w with
    | .fz (.tuple ds) => unpS bo E1 is (ds.map .fz)
    | _ => .stuck := by first | (rw [evS]; done) | (rw [evS]; rfl)
@[simp] theorem z_par (is : List Nat) (xs : IEs) : evS cl bo (.par is xs) (o :: E) = (evWs cl xs (o :: E)).bind fun ws E1 => unpS bo E1 is ws := by first | (rw [evS]; done) | (rw [evS]; rfl)
@[simp] theorem z_ret (x : IE) : evS cl bo (.ret x) (o :: E) = (ev cl x (o :: E)).bind fun w E1 => .ok (.ret w) E1 := by first | (rw [evS]; done) | (rw [evS]; rfl)
@[simp] theorem z_rtv (i : Nat) : evS cl bo (.rtv i) (o :: E) = if bo.getD i false then (readS (o :: E) i).bind fun w E1 => .ok (.ret w) E1 else match getS (o :: E) i with
    | some w => .ok (.ret w) ((o :: E).set i none)
    | none => .stuck := by first | (rw [evS]; done) | (rw [evS]; rfl)
@[simp] theorem z_expr (x : IE) : evS cl bo (.expr x) (o :: E) = (ev cl x (o :: E)).bind fun _ E1 => .ok .next E1 := by first | (rw [evS]; done) | (rw [evS]; rfl)
@[simp] theorem z_ifs (c : IT) (a b : S) : evS cl bo (.ifs c a b) (o :: E) = (evT cl c (o :: E)).bind fun t E1 => if t then evS cl bo a E1 else evS cl bo b E1 := by first | (rw [evS]; done) | (rw [evS]; rfl)
/-- a turn of a loop -/
def forT (cl : Nat → List W → CRes) (bo : List Bool) (tg : Tg) (body : S) : D → Sto → Res Fl := fun d E2 => (Res.lift (tg.put d E2) E2).bind fun E3 _ => evS cl bo body E3
@[simp] theorem z_for (tg : Tg) (src : IR) (body : S) : evS cl bo (.for_ tg src body) (o :: E) = if tg.slots.any fun i => bo.getD i false then .stuck else (evR cl src (o :: E)).bind fun ds E1 => (forR (forT cl bo tg body) ds E1).unlock src (o :: E) := by first | (rw [evS]; done) | (rw [evS]; rfl)
@[simp] theorem z_while (c : IT) (body : S) : evS cl bo (.while_ c body) (o :: E) = whR (evT cl c) (evS cl bo body) wFuel (o :: E) := by first | (rw [evS]; done) | (rw [evS]; rfl)
@[simp] theorem z_app (i : Nat) (x : IE) : evS cl bo (.app i x) (o :: E) = match getS (o :: E) i with
    | some (.ol _) => (ev cl x (o :: E)).bind fun w E1 => (Res.lift w.frzL E1).bind fun d E2 => match getS E2 i with
      | some (.ol ds) => if ds.length < lineN then .ok .next (setS E2 i (.ol (ds ++ [d]))) else .stuck
      | _ => .stuck
    | _ => .stuck := by first | (rw [evS]; done) | (rw [evS]; rfl)
@[simp] theorem z_ext (i : Nat) (x : IE) : evS cl bo (.ext i x) (o :: E) = match getS (o :: E) i with
    | some (.ol _) => (ev cl x (o :: E)).bind fun w E1 => (Res.lift w.lst? E1).bind fun es E2 => match getS E2 i with
      | some (.ol ds) => if ds.length + es.length ≤ lineN then .ok .next (setS E2 i (.ol (ds ++ es))) else .stuck
      | _ => .stuck
    | _ => .stuck := by first | (rw [evS]; done) | (rw [evS]; rfl)
@[simp] theorem z_unpl (is : List Nat) (x : IE) : evS cl bo (.unpl is x) (o :: E) = (ev cl x (o :: E)).bind fun w E1 => match w with
    | .ol ds => unpS bo E1 is (ds.map .fz)
    | .fz (.list ds) => unpS bo E1 is (ds.map .fz)
    | _ => .stuck := by first | (rw [evS]; done) | (rw [evS]; rfl)
@[simp] theorem z_sfl (i : Nat) (cs : List Nat) (f : Str) (x : IE) : evS cl bo (.sfl i cs f x) (o :: E) = (ev cl x (o :: E)).bind fun w E1 => (Res.lift w.frzL E1).bind fun d E2 => match getS E2 i with
    | some (.ob c fs) => if cs.contains c && decide (fs.length < 100) then .ok .next (setS E2 i (.ob c (putO f d fs))) else .stuck
    | _ => .stuck := by first | (rw [evS]; done) | (rw [evS]; rfl)
@[simp] theorem z_unst (i j : Nat) (x : IE) : evS cl bo (.unst i j x) (o :: E) = (ev cl x (o :: E)).bind fun w E1 => unstS bo E1 i j w := by first | (rw [evS]; done) | (rw [evS]; rfl)
@[simp] theorem z_mat (x : IE) (c1 : List Str) (n1 : Int) (b1 : S) (c2 : List Str) (n2 : Int) (b2 : S) : evS cl bo (.mat x c1 n1 b1 c2 n2 b2) (o :: E) = (ev cl x (o :: E)).bind fun w E1 => (Res.lift (matW w) E1).bind fun p E2 => if c1.contains p.1 && p.2 == n1 then evS cl bo b1 E2 else if c2.contains p.1 && p.2 == n2 then evS cl bo b2 E2 else .ok .next E2 := by first | (rw [evS]; done) | (rw [evS]; rfl)
@[simp] theorem z_put (i : Nat) (k v : IE) : evS cl bo (.put i k v) (o :: E) = (ev cl v (o :: E)).bind fun w E1 => (Res.lift w.frzL E1).bind fun d E2 => match getS E2 i with
    | some (.ol _) => (ev cl k E2).bind fun u E3 => match u, getS E3 i with
      | .fz (.int j), some (.ol ds) => (match L2.ixN ds.length j with
        | some m => .ok .next (setS E3 i (.ol (ds.set m d)))
        | none => .stuck)
      | _, _ => .stuck
    | _ => .stuck := by first | (rw [evS]; done) | (rw [evS]; rfl)
@[simp] theorem z_dput (i : Nat) (k v : IE) : evS cl bo (.dput i k v) (o :: E) = (ev cl v (o :: E)).bind fun w E1 => (Res.lift w.frzL E1).bind fun d E2 => (Res.lift (getS E2 i) E2).bind fun _ E3 => (ev cl k E3).bind fun u E4 => (Res.lift u.frzL E4).bind fun kd E5 => dputR i d kd E5 := by first | (rw [evS]; done) | (rw [evS]; rfl)
@[simp] theorem z_aug (i : Nat) (p : O2) (x : IE) : evS cl bo (.aug i p x) (o :: E) = match getS (o :: E) i with
    | some (.fz (.int j)) => (ev cl x (o :: E)).bind fun w E1 => (Res.lift (augW p j w) E1).bind fun u E2 => stoS bo E2 i u
    | _ => .stuck := by first | (rw [evS]; done) | (rw [evS]; rfl)
end

/-! ### stores in hand -/
@[simp] theorem getS0 (o : Option W) (E : Sto) : getS (o :: E) 0 = o := rfl
@[simp] theorem getSs (o : Option W) (E : Sto) (i : Nat) : getS (o :: E) (i + 1) = getS E i := rfl
@[simp] theorem setS0 (o : Option W) (E : Sto) (w : W) : setS (o :: E) 0 w = some w :: E := rfl
@[simp] theorem setSs (o : Option W) (E : Sto) (w : W) (i : Nat) : setS (o :: E) (i + 1) w = o :: setS E i w := rfl
@[simp] theorem wipe0 (E : Sto) : wipeS E [] = E := rfl
@[simp] theorem wipe1 (E : Sto) (v : Nat) (vs : List Nat) : wipeS E (v :: vs) = (wipeS E vs).set v none := rfl
@[simp] theorem own_od (t : Bool) (d : List (D × D)) : (W.od t d).own = true := rfl
@[simp] theorem own_ob (c : Nat) (fs : List (Str × D)) : (W.ob c fs).own = true := rfl
@[simp] theorem within_gk (d : List D) : (W.gk d).within? = some d := rfl
@[simp] theorem obAt_ob (cs : List Nat) (m : Str) (c : Nat) (fs : List (Str × D)) (E : Sto) : obAt cs m (.inr (.ob c fs)) E = if cs.contains c && (fs.lookup m).isNone then some () else none := rfl
theorem obAt_inl {cs : List Nat} {m : Str} {i c : Nat} {fs : List (Str × D)} {E : Sto} (h : getS E i = some (.ob c fs)) : obAt cs m (.inl i) E = if cs.contains c && (fs.lookup m).isNone then some () else none := by
  unfold obAt resolve resolve
  rw [h]
  rfl
@[simp] theorem p_rvt_ol (ds : List D) : op1 .rvt (.ol ds) = some (.ol ds.dropLast.reverse) := rfl
@[simp] theorem p_rvt_fz (ds : List D) : op1 .rvt (.fz (.list ds)) = some (.ol ds.dropLast.reverse) := rfl
@[simp] theorem own_ft (d : List (D × D)) : (W.ft d).own = false := rfl
@[simp] theorem frzL_fz (d : D) : (W.fz d).frzL = some d := rfl
@[simp] theorem frzL_ol (d : List D) : (W.ol d).frzL = some (.list d) := rfl
@[simp] theorem dctL_od (t : Bool) (d : List (D × D)) : (W.od t d).dctL? = some d := rfl
@[simp] theorem dctL_ft (d : List (D × D)) : (W.ft d).dctL? = some d := rfl
@[simp] theorem dctL_dk (d : List (D × D)) : (W.fz (.dict d)).dctL? = some d := rfl
theorem dputR_od {i : Nat} {d kd : D} {E : Sto} {t : Bool} {kvs : List (D × D)} (h : getS E i = some (.od t kvs)) (k : kindOk t kd = true) (l : kvs.length < lineN) : dputR i d kd E = .ok .next (setS E i (.od t (dput kvs kd d))) := by
  unfold dputR
  rw [h]
  exact if_pos ⟨k, l⟩
@[simp] theorem own_fz (d : D) : (W.fz d).own = false := rfl
@[simp] theorem own_ol (d : List D) : (W.ol d).own = true := rfl
@[simp] theorem own_lk (d : List D) : (W.lk d).own = true := rfl
@[simp] theorem own_scr (d : List Int) : (W.scr d).own = false := rfl
@[simp] theorem own_gk (d : List D) : (W.gk d).own = false := rfl
@[simp] theorem frz_fz (d : D) : (W.fz d).frz = some d := rfl
@[simp] theorem frz_ol (d : List D) : (W.ol d).frz = some (.list d) := rfl
@[simp] theorem look_fz (d : D) : (W.fz d).look = some d := rfl
@[simp] theorem look_ol (d : List D) : (W.ol d).look = some (.list d) := rfl
@[simp] theorem look_lk (d : List D) : (W.lk d).look = some (.list d) := rfl
@[simp] theorem int_int (i : Int) : (W.fz (.int i)).int? = some i := rfl
@[simp] theorem bool_bool (b : Bool) : (W.fz (.bool b)).bool? = some b := rfl
@[simp] theorem items_l (ds : List D) : (W.fz (.list ds)).items? = some ds := rfl
@[simp] theorem items_t (ds : List D) : (W.fz (.tuple ds)).items? = some ds := rfl
@[simp] theorem res_nil (E : Sto) : resolve [] E = some [] := rfl
@[simp] theorem res_r (w : W) (r : List (Sum Nat W)) (E : Sto) : resolve (.inr w :: r) E = (resolve r E).map (w :: ·) := rfl
@[simp] theorem res_l (i : Nat) (r : List (Sum Nat W)) (E : Sto) : resolve (.inl i :: r) E = (getS E i).bind fun w => (resolve r E).map (w :: ·) := rfl
@[simp] theorem read_eq (E : Sto) (i : Nat) : readS E i = match getS E i with
  | some (.fz d) => .ok (.fz d) E
  | some (.ol ds) => .ok (.fz (.list ds)) (setS E i (.fz (.list ds)))
  | some (.scr ns) => .ok (.scr ns) E
  | some (.gk ds) => .ok (.gk ds) E
  | some (.od false kvs) => .ok (.fz (.dict kvs)) (setS E i (.fz (.dict kvs)))
  | some (.od true kvs) => .ok (.ft kvs) (setS E i (.ft kvs))
  | some (.ft kvs) => .ok (.ft kvs) E
  | _ => .stuck := rfl
@[simp] theorem slots_nm (i : Nat) : (Tg.nm i).slots = [i] := rfl
@[simp] theorem slots_tp (is : List Nat) : (Tg.tp is).slots = is := rfl
@[simp] theorem put_nm (i : Nat) (d : D) (E : Sto) : (Tg.nm i).put d E = some (setS E i (.fz d)) := rfl
@[simp] theorem put_tp (is : List Nat) (ds : List D) (E : Sto) : (Tg.tp is).put (.tuple ds) E = putAll is (ds.map .fz) E := rfl
@[simp] theorem putAll0 (E : Sto) : putAll [] [] E = some E := rfl
@[simp] theorem putAll1 (i : Nat) (is : List Nat) (w : W) (ws : List W) (E : Sto) : putAll (i :: is) (w :: ws) E = putAll is ws (setS E i w) := rfl
@[simp] theorem unl_its (x : IE) (E E1 : Sto) : (IR.its x).unlock E E1 = E1 := rfl
@[simp] theorem unl_r1 (x : IE) (E E1 : Sto) : (IR.r1 x).unlock E E1 = E1 := rfl
@[simp] theorem unl_r2 (x y : IE) (E E1 : Sto) : (IR.r2 x y).unlock E E1 = E1 := rfl
@[simp] theorem unl_own (i : Nat) (E E1 : Sto) : (IR.own i).unlock E E1 = match getS E i with
    | some (.ol _) => unlockS E1 i
    | _ => E1 := rfl
@[simp] theorem unlS (E : Sto) (i : Nat) : unlockS E i = match getS E i with
  | some (.lk ds) => setS E i (.ol ds)
  | _ => E := rfl
@[simp] theorem unlR_ok {α : Type} (a : α) (s : IR) (E E0 : Sto) : (Res.ok a E).unlock s E0 = .ok a (s.unlock E0 E) := rfl
@[simp] theorem mapR_nil (f : D → Sto → Res (Option D)) (E : Sto) : mapR f [] E = .ok [] E := rfl
@[simp] theorem forR_nil (f : D → Sto → Res Fl) (E : Sto) : forR f [] E = .ok .next E := rfl

/-! ### operators on data in hand -/
@[simp] theorem p_idx_t (xs : List D) (b : W) : op2 .idx (.fz (.tuple xs)) b = b.int?.bind fun i => idxW (.fz (.tuple xs)) i := rfl
@[simp] theorem p_idx_l (xs : List D) (b : W) : op2 .idx (.fz (.list xs)) b = b.int?.bind fun i => idxW (.fz (.list xs)) i := rfl
@[simp] theorem p_idx_ol (xs : List D) (b : W) : op2 .idx (.ol xs) b = b.int?.bind fun i => idxW (.ol xs) i := rfl
@[simp] theorem p_idx_lk (xs : List D) (b : W) : op2 .idx (.lk xs) b = b.int?.bind fun i => idxW (.lk xs) i := rfl
@[simp] theorem p_idx_scr (xs : List Int) (b : W) : op2 .idx (.scr xs) b = b.int?.bind fun i => idxW (.scr xs) i := rfl
@[simp] theorem p_idx_od (t : Bool) (kvs : List (D × D)) (b : W) : op2 .idx (.od t kvs) b = b.look.bind fun d => if kindOk t d then (dget kvs d).map .fz else none := rfl
@[simp] theorem p_idx_ft (kvs : List (D × D)) (b : W) : op2 .idx (.ft kvs) b = b.look.bind fun d => if kindOk true d then (dget kvs d).map .fz else none := rfl
@[simp] theorem p_idx_dk (kvs : List (D × D)) (b : W) : op2 .idx (.fz (.dict kvs)) b = b.look.bind fun d => if kindOk false d then (dget kvs d).map .fz else none := rfl
@[simp] theorem p_add (a b : W) : op2 .add a b = a.look.bind fun d => b.look.bind fun e => addW d e := rfl
@[simp] theorem p_mul (a b : W) : op2 .mul a b = a.look.bind fun d => b.look.bind fun e => mulW d e := rfl
@[simp] theorem p_in_t (a : W) (xs : List D) : op2 .isin a (.fz (.tuple xs)) = a.look.bind fun d => inW false false d xs := rfl
@[simp] theorem p_in_l (a : W) (xs : List D) : op2 .isin a (.fz (.list xs)) = a.look.bind fun d => inW false true d xs := rfl
@[simp] theorem p_in_ol (a : W) (xs : List D) : op2 .isin a (.ol xs) = a.look.bind fun d => inW false true d xs := rfl
@[simp] theorem p_in_lk (a : W) (xs : List D) : op2 .isin a (.lk xs) = a.look.bind fun d => inW false true d xs := rfl
@[simp] theorem p_in_gk (a : W) (xs : List D) : op2 .isin a (.gk xs) = a.look.bind fun d => inW false false d xs := rfl
theorem p_in_od (a : W) (t : Bool) (kvs : List (D × D)) (d : D) (h : a.look = some d) (k : kindOk t d = true) : op2 .isin a (.od t kvs) = some (.fz (.bool (dget kvs d).isSome)) := by
  show (a.look.bind fun d => match (W.dct? d (.od t kvs) : Option (List (D × D))) with
    | some kvs => some (W.fz (.bool (dget kvs d).isSome))
    | none => (W.within? (.od t kvs)).bind fun ys => inW false false d ys) = _
  rw [h]
  show (match (W.dct? d (.od t kvs) : Option (List (D × D))) with
    | some kvs => some (W.fz (.bool (dget kvs d).isSome))
    | none => (W.within? (.od t kvs)).bind fun ys => inW false false d ys) = _
  rw [show W.dct? d (.od t kvs) = some kvs from if_pos k]
theorem p_in_ft (a : W) (kvs : List (D × D)) (d : D) (h : a.look = some d) (k : kindOk true d = true) : op2 .isin a (.ft kvs) = some (.fz (.bool (dget kvs d).isSome)) := by
  show (a.look.bind fun d => match (W.dct? d (.ft kvs) : Option (List (D × D))) with
    | some kvs => some (W.fz (.bool (dget kvs d).isSome))
    | none => (W.within? (.ft kvs)).bind fun ys => inW false false d ys) = _
  rw [h]
  show (match (W.dct? d (.ft kvs) : Option (List (D × D))) with
    | some kvs => some (W.fz (.bool (dget kvs d).isSome))
    | none => (W.within? (.ft kvs)).bind fun ys => inW false false d ys) = _
  rw [show W.dct? d (.ft kvs) = some kvs from if_pos k]
theorem p_in_dk (a : W) (kvs : List (D × D)) (d : D) (h : a.look = some d) (k : kindOk false d = true) : op2 .isin a (.fz (.dict kvs)) = some (.fz (.bool (dget kvs d).isSome)) := by
  show (a.look.bind fun d => match (W.dct? d (.fz (.dict kvs)) : Option (List (D × D))) with
    | some kvs => some (W.fz (.bool (dget kvs d).isSome))
    | none => (W.within? (.fz (.dict kvs))).bind fun ys => inW false false d ys) = _
  rw [h]
  show (match (W.dct? d (.fz (.dict kvs)) : Option (List (D × D))) with
    | some kvs => some (W.fz (.bool (dget kvs d).isSome))
    | none => (W.within? (.fz (.dict kvs))).bind fun ys => inW false false d ys) = _
  rw [show W.dct? d (.fz (.dict kvs)) = some kvs from if_pos k]
@[simp] theorem p_notin_t (a : W) (xs : List D) : op2 .notin a (.fz (.tuple xs)) = a.look.bind fun d => inW true false d xs := rfl
@[simp] theorem p_notin_l (a : W) (xs : List D) : op2 .notin a (.fz (.list xs)) = a.look.bind fun d => inW true true d xs := rfl
@[simp] theorem p_notin_ol (a : W) (xs : List D) : op2 .notin a (.ol xs) = a.look.bind fun d => inW true true d xs := rfl
@[simp] theorem p_notin_lk (a : W) (xs : List D) : op2 .notin a (.lk xs) = a.look.bind fun d => inW true true d xs := rfl
@[simp] theorem p_notin_gk (a : W) (xs : List D) : op2 .notin a (.gk xs) = a.look.bind fun d => inW true false d xs := rfl
theorem p_notin_od (a : W) (t : Bool) (kvs : List (D × D)) (d : D) (h : a.look = some d) (k : kindOk t d = true) : op2 .notin a (.od t kvs) = some (.fz (.bool (!(dget kvs d).isSome))) := by
  show (a.look.bind fun d => match (W.dct? d (.od t kvs) : Option (List (D × D))) with
    | some kvs => some (W.fz (.bool (!(dget kvs d).isSome)))
    | none => (W.within? (.od t kvs)).bind fun ys => inW true false d ys) = _
  rw [h]
  show (match (W.dct? d (.od t kvs) : Option (List (D × D))) with
    | some kvs => some (W.fz (.bool (!(dget kvs d).isSome)))
    | none => (W.within? (.od t kvs)).bind fun ys => inW true false d ys) = _
  rw [show W.dct? d (.od t kvs) = some kvs from if_pos k]
theorem p_notin_ft (a : W) (kvs : List (D × D)) (d : D) (h : a.look = some d) (k : kindOk true d = true) : op2 .notin a (.ft kvs) = some (.fz (.bool (!(dget kvs d).isSome))) := by
  show (a.look.bind fun d => match (W.dct? d (.ft kvs) : Option (List (D × D))) with
    | some kvs => some (W.fz (.bool (!(dget kvs d).isSome)))
    | none => (W.within? (.ft kvs)).bind fun ys => inW true false d ys) = _
  rw [h]
  show (match (W.dct? d (.ft kvs) : Option (List (D × D))) with
    | some kvs => some (W.fz (.bool (!(dget kvs d).isSome)))
    | none => (W.within? (.ft kvs)).bind fun ys => inW true false d ys) = _
  rw [show W.dct? d (.ft kvs) = some kvs from if_pos k]
theorem p_notin_dk (a : W) (kvs : List (D × D)) (d : D) (h : a.look = some d) (k : kindOk false d = true) : op2 .notin a (.fz (.dict kvs)) = some (.fz (.bool (!(dget kvs d).isSome))) := by
  show (a.look.bind fun d => match (W.dct? d (.fz (.dict kvs)) : Option (List (D × D))) with
    | some kvs => some (W.fz (.bool (!(dget kvs d).isSome)))
    | none => (W.within? (.fz (.dict kvs))).bind fun ys => inW true false d ys) = _
  rw [h]
  show (match (W.dct? d (.fz (.dict kvs)) : Option (List (D × D))) with
    | some kvs => some (W.fz (.bool (!(dget kvs d).isSome)))
    | none => (W.within? (.fz (.dict kvs))).bind fun ys => inW true false d ys) = _
  rw [show W.dct? d (.fz (.dict kvs)) = some kvs from if_pos k]
@[simp] theorem p_sub (i j : Int) : op2 .sub (.fz (.int i)) (.fz (.int j)) = some (.fz (.int (i - j))) := rfl
@[simp] theorem p_lt (i j : Int) : op2 .lt (.fz (.int i)) (.fz (.int j)) = some (.fz (.bool (decide (i < j)))) := rfl
@[simp] theorem p_le (i j : Int) : op2 .le (.fz (.int i)) (.fz (.int j)) = some (.fz (.bool (decide (i ≤ j)))) := rfl
@[simp] theorem p_gt (i j : Int) : op2 .gt (.fz (.int i)) (.fz (.int j)) = some (.fz (.bool (decide (j < i)))) := rfl
@[simp] theorem p_ge (i j : Int) : op2 .ge (.fz (.int i)) (.fz (.int j)) = some (.fz (.bool (decide (j ≤ i)))) := rfl
theorem p_fdiv (i j : Int) (h : 0 < j ∧ j < 1073741824) : op2 .fdiv (.fz (.int i)) (.fz (.int j)) = some (.fz (.int (i / j))) := by
  show ((if 0 < j ∧ j < 1073741824 then some (PyData.int (i / j)) else none).map W.fz) = _
  rw [if_pos h]
  rfl
theorem p_mod (i j : Int) (h : 0 < j) : op2 .mod (.fz (.int i)) (.fz (.int j)) = some (.fz (.int (i % j))) := by
  show ((if 0 < j then some (PyData.int (i % j)) else none).map W.fz) = _
  rw [if_pos h]
  rfl
theorem p_mulI (i j : Int) (h : mulOk i j = true) : op2 .mul (.fz (.int i)) (.fz (.int j)) = some (.fz (.int (i * j))) := by
  show (if mulOk i j then some (W.fz (.int (i * j))) else none) = _
  rw [if_pos h]
theorem mulOk_l {i j : Int} (h : i.natAbs < 2 ^ 64) : mulOk i j = true := by
  unfold mulOk tooWide
  rw [decide_eq_false (by omega)]
  rfl
@[simp] theorem mulI_eq (i j : Int) : mulW (.int i) (.int j) = if mulOk i j then some (.fz (.int (i * j))) else none := rfl
@[simp] theorem p_addI (i j : Int) : addW (.int i) (.int j) = some (.fz (.int (i + j))) := rfl
@[simp] theorem p_eqI (i j : Int) : op2 .eq (.fz (.int i)) (.fz (.int j)) = some (.fz (.bool (decide (i = j)))) := by
  show ((if eqOk (.int i) (.int j) then some (PyData.bool (PyData.eqv (.int i) (.int j))) else none).map W.fz) = _
  have h : eqOk (.int i) (.int j) = true := by
    simp [eqOk, SeqAt.shaped, PyData.canLay0, PyData.depth]
  rw [if_pos h]
  show some (W.fz (.bool (PyData.eqv (.int i) (.int j)))) = _
  have e : PyData.eqv (.int i) (.int j) = decide (i = j) := by
    rw [PyData.eqv, Bool.beq_eq_decide_eq]
  rw [e]
@[simp] theorem p_neI (i j : Int) : op2 .ne (.fz (.int i)) (.fz (.int j)) = some (.fz (.bool (!decide (i = j)))) := by
  show ((if eqOk (.int i) (.int j) then some (PyData.bool (!PyData.eqv (.int i) (.int j))) else none).map W.fz) = _
  have h : eqOk (.int i) (.int j) = true := by
    simp [eqOk, SeqAt.shaped, PyData.canLay0, PyData.depth]
  rw [if_pos h]
  show some (W.fz (.bool (!PyData.eqv (.int i) (.int j)))) = _
  have e : PyData.eqv (.int i) (.int j) = decide (i = j) := by
    rw [PyData.eqv, Bool.beq_eq_decide_eq]
  rw [e]
@[simp] theorem idx_t (xs : List D) (i : Int) : idxW (.fz (.tuple xs)) i = (atD xs i).map .fz := rfl
@[simp] theorem idx_l (xs : List D) (i : Int) : idxW (.fz (.list xs)) i = (atD xs i).map .fz := rfl
@[simp] theorem idx_ol (xs : List D) (i : Int) : idxW (.ol xs) i = (atD xs i).map .fz := rfl
@[simp] theorem idx_lk (xs : List D) (i : Int) : idxW (.lk xs) i = (atD xs i).map .fz := rfl
@[simp] theorem idx_scr (ns : List Int) (i : Int) : idxW (.scr ns) i = (atD ns i).map fun n => .fz (.int n) := rfl
@[simp] theorem atD0 {α : Type} (x : α) (xs : List α) : atD (x :: xs) 0 = some x := rfl
@[simp] theorem atD1 {α : Type} (x y : α) (xs : List α) : atD (x :: y :: xs) 1 = some y := rfl
@[simp] theorem atD2 {α : Type} (x y z : α) (xs : List α) : atD (x :: y :: z :: xs) 2 = some z := rfl
@[simp] theorem atD3 {α : Type} (x y z u : α) (xs : List α) : atD (x :: y :: z :: u :: xs) 3 = some u := rfl
@[simp] theorem atD4 {α : Type} (x y z u v : α) (xs : List α) : atD (x :: y :: z :: u :: v :: xs) 4 = some v := rfl
theorem mulOk_r {i j : Int} (h : j.natAbs < 2 ^ 64) : mulOk i j = true := by
  unfold mulOk tooWide
  rw [decide_eq_false (p := 2 ^ 64 ≤ j.natAbs) (by omega)]
  simp
theorem atD_nat {α : Type} (xs : List α) (i : Nat) : atD xs (i : Int) = xs[i]? := by
  unfold atD
  rw [if_pos (by omega)]
  rfl
theorem atD_lit {α : Type} (xs : List α) (i : Int) (h : 0 ≤ i) : atD xs i = xs[i.toNat]? := by
  unfold atD
  rw [if_pos h]
@[simp] theorem tru_b (b : Bool) : truthW (.fz (.bool b)) = some b := rfl
@[simp] theorem tru_i (i : Int) : truthW (.fz (.int i)) = some (!decide (i = 0)) := rfl
@[simp] theorem tru_t (ds : List D) : truthW (.fz (.tuple ds)) = some (!ds.isEmpty) := rfl
@[simp] theorem tru_l (ds : List D) : truthW (.fz (.list ds)) = some (!ds.isEmpty) := rfl
@[simp] theorem tru_ol (ds : List D) : truthW (.ol ds) = some (!ds.isEmpty) := rfl
@[simp] theorem len_t (ds : List D) : op1 .len (.fz (.tuple ds)) = some (.fz (.int ds.length)) := rfl
@[simp] theorem len_l (ds : List D) : op1 .len (.fz (.list ds)) = some (.fz (.int ds.length)) := rfl
@[simp] theorem len_ol (ds : List D) : op1 .len (.ol ds) = some (.fz (.int ds.length)) := rfl
@[simp] theorem len_scr (ds : List Int) : op1 .len (.scr ds) = some (.fz (.int ds.length)) := rfl
@[simp] theorem tup_ol (ds : List D) : op1 .tup (.ol ds) = some (.fz (.tuple ds)) := rfl
@[simp] theorem tup_t (ds : List D) : op1 .tup (.fz (.tuple ds)) = some (.fz (.tuple ds)) := rfl
@[simp] theorem lis_t (ds : List D) : op1 .lis (.fz (.tuple ds)) = some (.ol ds) := rfl
@[simp] theorem isi_i (d : D) : op1 .isInt (.fz d) = some (.fz (.bool (match d with | .int _ => true | .bool _ => true | _ => false))) := rfl
@[simp] theorem isi_b (d : D) : op1 .isBool (.fz d) = some (.fz (.bool (match d with | .bool _ => true | _ => false))) := rfl
@[simp] theorem isi_s (d : D) : op1 .isStr (.fz d) = some (.fz (.bool (match d with | .str _ => true | _ => false))) := rfl
@[simp] theorem isi_t (d : D) : op1 .isTup (.fz d) = some (.fz (.bool (match d with | .tuple _ => true | _ => false))) := rfl
@[simp] theorem neg_i (i : Int) : op1 .neg (.fz (.int i)) = some (.fz (.int (-i))) := rfl
@[simp] theorem max2_i (i j : Int) : op2 .max2 (.fz (.int i)) (.fz (.int j)) = some (.fz (.int (if j > i then j else i))) := rfl
theorem ints_map : ∀ l : List Int, ints? (l.map .int) = some l
  | [] => rfl
  | x :: l => by
    show (ints? (l.map .int)).map (x :: ·) = _
    rw [ints_map l]
    rfl
theorem p_min2_w (ns ms : List Int) : op2 .min2 (.fz (.tuple (ns.map .int))) (.fz (.tuple (ms.map .int))) = some (.fz (.tuple ((if HT.lexLt ms ns then ms else ns).map .int))) := by
  show ((ints? (ns.map .int)).bind fun ns' => (ints? (ms.map .int)).map fun ms' => PyData.tuple (if HT.lexLt ms' ns' then ms.map .int else ns.map .int)).map W.fz = _
  rw [ints_map, ints_map]
  show some (W.fz (PyData.tuple (if HT.lexLt ms ns = true then ms.map .int else ns.map .int))) = _
  cases HT.lexLt ms ns <;> rfl
@[simp] theorem min2_i (i j : Int) : op2 .min2 (.fz (.int i)) (.fz (.int j)) = some (.fz (.int (if j < i then j else i))) := rfl
@[simp] theorem rev_t (ds : List D) : op1 .rev (.fz (.tuple ds)) = some (.fz (.tuple ds.reverse)) := rfl
@[simp] theorem bools_nil : bools? [] = some [] := rfl
@[simp] theorem all_ol (ds : List D) : op1 .all (.ol ds) = (bools? ds).map fun bs => .fz (.bool (bs.all id)) := rfl
def keep1 (w : W) (E : Sto) (i : Nat) : Bool := !w.own || (getS E i).isSome
def fin1 (w : W) (E : Sto) (i : Nat) : W := if w.own then (getS E i).getD w else w
@[simp] theorem keep1_fz (d : D) (E : Sto) (i : Nat) : keep1 (.fz d) E i = true := rfl
@[simp] theorem keep1_scr (d : List Int) (E : Sto) (i : Nat) : keep1 (.scr d) E i = true := rfl
@[simp] theorem keep1_ol (d : List D) (E : Sto) (i : Nat) : keep1 (.ol d) E i = (getS E i).isSome := rfl
@[simp] theorem fin1_fz (d : D) (E : Sto) (i : Nat) : fin1 (.fz d) E i = .fz d := rfl
@[simp] theorem fin1_scr (d : List Int) (E : Sto) (i : Nat) : fin1 (.scr d) E i = .scr d := rfl
@[simp] theorem fin1_od (t : Bool) (d : List (D × D)) (E : Sto) (i : Nat) : fin1 (.od t d) E i = (getS E i).getD (.od t d) := rfl
@[simp] theorem fin1_ft (d : List (D × D)) (E : Sto) (i : Nat) : fin1 (.ft d) E i = .ft d := rfl
@[simp] theorem keep1_od (t : Bool) (d : List (D × D)) (E : Sto) (i : Nat) : keep1 (.od t d) E i = (getS E i).isSome := rfl
@[simp] theorem keep1_ft (d : List (D × D)) (E : Sto) (i : Nat) : keep1 (.ft d) E i = true := rfl
@[simp] theorem fin1_ol (d : List D) (E : Sto) (i : Nat) : fin1 (.ol d) E i = (getS E i).getD (.ol d) := rfl
@[simp] theorem kept1 (w0 : W) (E : Sto) : keptS [w0] E = (keep1 w0 E 0) := by
  show (keep1 w0 E 0 && true) = _
  simp [Bool.and_assoc]
@[simp] theorem fin1' (w0 : W) (E : Sto) : finS [w0] E = [fin1 w0 E 0] := rfl
@[simp] theorem kept2 (w0 w1 : W) (E : Sto) : keptS [w0, w1] E = (keep1 w0 E 0 && keep1 w1 E 1) := by
  show (keep1 w0 E 0 && (keep1 w1 E 1 && true)) = _
  simp [Bool.and_assoc]
@[simp] theorem fin2' (w0 w1 : W) (E : Sto) : finS [w0, w1] E = [fin1 w0 E 0, fin1 w1 E 1] := rfl
@[simp] theorem kept3 (w0 w1 w2 : W) (E : Sto) : keptS [w0, w1, w2] E = (keep1 w0 E 0 && keep1 w1 E 1 && keep1 w2 E 2) := by
  show (keep1 w0 E 0 && (keep1 w1 E 1 && (keep1 w2 E 2 && true))) = _
  simp [Bool.and_assoc]
@[simp] theorem fin3' (w0 w1 w2 : W) (E : Sto) : finS [w0, w1, w2] E = [fin1 w0 E 0, fin1 w1 E 1, fin1 w2 E 2] := rfl
@[simp] theorem kept4 (w0 w1 w2 w3 : W) (E : Sto) : keptS [w0, w1, w2, w3] E = (keep1 w0 E 0 && keep1 w1 E 1 && keep1 w2 E 2 && keep1 w3 E 3) := by
  show (keep1 w0 E 0 && (keep1 w1 E 1 && (keep1 w2 E 2 && (keep1 w3 E 3 && true)))) = _
  simp [Bool.and_assoc]
@[simp] theorem fin4' (w0 w1 w2 w3 : W) (E : Sto) : finS [w0, w1, w2, w3] E = [fin1 w0 E 0, fin1 w1 E 1, fin1 w2 E 2, fin1 w3 E 3] := rfl
@[simp] theorem kept5 (w0 w1 w2 w3 w4 : W) (E : Sto) : keptS [w0, w1, w2, w3, w4] E = (keep1 w0 E 0 && keep1 w1 E 1 && keep1 w2 E 2 && keep1 w3 E 3 && keep1 w4 E 4) := by
  show (keep1 w0 E 0 && (keep1 w1 E 1 && (keep1 w2 E 2 && (keep1 w3 E 3 && (keep1 w4 E 4 && true))))) = _
  simp [Bool.and_assoc]
@[simp] theorem fin5' (w0 w1 w2 w3 w4 : W) (E : Sto) : finS [w0, w1, w2, w3, w4] E = [fin1 w0 E 0, fin1 w1 E 1, fin1 w2 E 2, fin1 w3 E 3, fin1 w4 E 4] := rfl
/-! ### comprehensions that leave the store -/
theorem mapR_map (f : D → Sto → Res (Option D)) (g : D → D) (E : Sto) : ∀ ds : List D, (∀ d ∈ ds, f d E = .ok (some (g d)) E) → mapR f ds E = .ok (ds.map g) E
  | [], _ => rfl
  | d :: ds, h => by
    show ((f d E).bind fun o E1 => (mapR f ds E1).bind fun r E2 => .ok (match o with | none => r | some y => y :: r) E2) = _
    rw [h d (List.mem_cons_self ..)]
    show ((mapR f ds E).bind fun r E2 => Res.ok (g d :: r) E2) = _
    rw [mapR_map f g E ds fun x hx => h x (List.mem_cons_of_mem _ hx)]
    rfl
theorem bools_map {α : Type} (f : α → Bool) : ∀ xs : List α, bools? (xs.map fun x => PyData.bool (f x)) = some (xs.map f)
  | [] => rfl
  | x :: xs => by
    show (bools? (xs.map fun x => PyData.bool (f x))).map (f x :: ·) = _
    rw [bools_map f xs]
    rfl
/-- what is shown is not too long -/
theorem reprOk_of {d : D} (h : PyData.layable0 d = true) (hi : d.intsShort 13 = true) (hs : d.showable = true) : reprOk d = true := by
  have h1 : d.canLay0 = true ∧ d.depth ≤ 64 := by
    unfold PyData.layable0 at h
    simp only [Bool.and_eq_true, decide_eq_true_eq] at h
    exact ⟨h.1.1, h.1.2⟩
  have h2 := PySem.PyData.hasDict_of_canLay d h1.1
  have h3 := PyProof.Rows.shown_le13 h hi
  unfold reprOk
  rw [hs, h2, decide_eq_true h1.2, decide_eq_true (Nat.le_trans h3 (by decide))]
  rfl
end Sf

end

section
set_option maxRecDepth 100000
set_option maxHeartbeats 1000000
/-! Sf: data that is small enough to be shown and compared. -/
namespace Sf
open PySem
structure Sml (d : D) (k w : Nat) : Prop where
  c : d.canLay0 = true
  i : d.intsShort 13 = true
  s : d.showable = true
  dp : d.depth ≤ k
  wt : d.weight ≤ w
structure Smls (ds : List D) (k w : Nat) : Prop where
  c : PyData.canLayAll0 ds = true
  i : PyData.intsShortAll 13 ds = true
  s : PyData.showableAll ds = true
  dp : PyData.depthAll ds ≤ k
  wt : PyData.weightAll ds ≤ w
theorem Sml.mono {d : D} {k w k' w' : Nat} (h : Sml d k w) (hk : k ≤ k') (hw : w ≤ w') : Sml d k' w' := ⟨h.c, h.i, h.s, Nat.le_trans h.dp hk, Nat.le_trans h.wt hw⟩
theorem Smls.mono {d : List D} {k w k' w' : Nat} (h : Smls d k w) (hk : k ≤ k') (hw : w ≤ w') : Smls d k' w' := ⟨h.c, h.i, h.s, Nat.le_trans h.dp hk, Nat.le_trans h.wt hw⟩
theorem tm_int {i : Int} (h0 : 0 ≤ i) (h1 : i < 1000000000000) : Sml (.int i) 0 50 := by
  have lg : i.natAbs.log2 ≤ 40 := by
    by_cases h : i.natAbs = 0
    · rw [h]
      decide
    · have : i.natAbs < 2 ^ 41 := by omega
      have := (Nat.log2_lt h).mpr this
      omega
  refine ⟨rfl, ?_, ?_, ?_, ?_⟩
  · have : (PyData.int i).shown.length ≤ 13 := by
      rw [PyData.shown_int]
      exact Nat.le_trans (PyProof.Rows.toString_length_le h0 (k := 12) (by decide) (by omega)) (by decide)
    simp [PyData.intsShort, this]
  · simp [PyData.showable]
    omega
  · simp [PyData.depth]
  · simp only [PyData.weight]
    split <;> omega
theorem tm_bool (b : Bool) : Sml (.bool b) 0 50 := by
  refine ⟨rfl, by simp [PyData.intsShort], by simp [PyData.showable], by simp [PyData.depth], ?_⟩
  simp [PyData.weight]
theorem tm_none : Sml .none 0 50 := by
  refine ⟨rfl, by simp [PyData.intsShort], by simp [PyData.showable], by simp [PyData.depth], ?_⟩
  simp [PyData.weight]
theorem tm_str {x : Str} (h : (PyData.str x).canLay0 = true) (hw : (PyData.str x).weight ≤ 50) : Sml (.str x) 0 50 := ⟨h, by simp [PyData.intsShort], by simp [PyData.showable], by simp [PyData.depth], hw⟩
theorem tms_nil {k w : Nat} : Smls [] k w := ⟨rfl, rfl, rfl, Nat.zero_le _, Nat.zero_le _⟩
theorem tms_cons {d : D} {ds : List D} {k w v : Nat} (h : Sml d k w) (hs : Smls ds k v) : Smls (d :: ds) k (w + 1 + v) := by
  refine ⟨?_, ?_, ?_, ?_, ?_⟩
  · simp [PyData.canLayAll0, h.c, hs.c]
  · simp [PyData.intsShortAll, h.i, hs.i]
  · simp [PyData.showableAll, h.s, hs.s]
  · have := h.dp
    have := hs.dp
    simp only [PyData.depthAll]
    omega
  · have := h.wt
    have := hs.wt
    simp only [PyData.weightAll]
    omega
theorem tms_all {k w : Nat} : ∀ {ds : List D}, (∀ d ∈ ds, Sml d k w) → Smls ds k (ds.length * (w + 1))
  | [], _ => tms_nil
  | d :: ds, h => by
    have := tms_cons (h d (List.mem_cons_self ..)) (tms_all fun x hx => h x (List.mem_cons_of_mem _ hx))
    refine this.mono (Nat.le_refl _) ?_
    rw [List.length_cons, Nat.succ_mul]
    omega
theorem tms_le {k w n : Nat} {ds : List D} (h : ∀ d ∈ ds, Sml d k w) (hn : ds.length ≤ n) : Smls ds k (n * (w + 1)) := (tms_all h).mono (Nat.le_refl _) (Nat.mul_le_mul_right _ hn)
theorem tm_tup {ds : List D} {k w : Nat} (h : Smls ds k w) : Sml (.tuple ds) (k + 1) w := by
  refine ⟨?_, ?_, ?_, ?_, ?_⟩
  · simp [PyData.canLay0, h.c]
  · simp [PyData.intsShort, h.i]
  · simp [PyData.showable, h.s]
  · have := h.dp
    simp only [PyData.depth]
    omega
  · have := h.wt
    simp only [PyData.weight]
    omega
theorem tm_list {ds : List D} {k w : Nat} (h : Smls ds k w) : Sml (.list ds) (k + 1) w := by
  refine ⟨?_, ?_, ?_, ?_, ?_⟩
  · simp [PyData.canLay0, h.c]
  · simp [PyData.intsShort, h.i]
  · simp [PyData.showable, h.s]
  · have := h.dp
    simp only [PyData.depth]
    omega
  · have := h.wt
    simp only [PyData.weight]
    omega
theorem Sml.shaped {d : D} {k w : Nat} (h : Sml d k w) (hk : k ≤ 64) : SeqAt.shaped d = true := by
  unfold SeqAt.shaped
  rw [h.c, decide_eq_true (Nat.le_trans h.dp hk)]
  rfl
theorem Sml.repr {d : D} {k w : Nat} (h : Sml d k w) (hk : k ≤ 64) (hw : w ≤ 1048576) : reprOk d = true := by
  refine reprOk_of ?_ h.i h.s
  unfold PyData.layable0
  rw [h.c, decide_eq_true (Nat.le_trans h.dp hk), decide_eq_true (Nat.le_trans h.wt hw)]
  rfl
/-- repr of a small value -/
theorem repr_tm {w : W} {d : D} {k v : Nat} (h : w.look = some d) (t : Sml d k v) (hk : k ≤ 64) (hw : v ≤ 1048576) : op1 .repr w = some (.fz (.str d.shown)) := by
  have e : op1 .repr w = (w.look.bind fun d => if reprOk d then some (.fz (.str d.shown)) else none) := by
    cases w <;> rfl
  rw [e, h]
  exact if_pos (t.repr hk hw)
theorem eq_tm {a b : D} {k w k' w' : Nat} (h : Sml a k w) (h' : Sml b k' w') (hk : k ≤ 64) (hk' : k' ≤ 64) : op2 .eq (.fz a) (.fz b) = some (.fz (.bool (PyData.eqv a b))) := by
  show ((if eqOk a b then some (PyData.bool (PyData.eqv a b)) else none).map W.fz) = _
  rw [if_pos]
  · rfl
  · unfold eqOk
    rw [h.shaped hk, h'.shaped hk']
    simp
theorem ne_tm {a b : D} {k w k' w' : Nat} (h : Sml a k w) (h' : Sml b k' w') (hk : k ≤ 64) (hk' : k' ≤ 64) : op2 .ne (.fz a) (.fz b) = some (.fz (.bool (!PyData.eqv a b))) := by
  show ((if eqOk a b then some (PyData.bool (!PyData.eqv a b)) else none).map W.fz) = _
  rw [if_pos]
  · rfl
  · unfold eqOk
    rw [h.shaped hk, h'.shaped hk']
    simp
theorem ne_self {d : D} {k w : Nat} (h : Sml d k w) (hk : k ≤ 64) : op2 .ne (.fz d) (.fz d) = some (.fz (.bool false)) := by
  rw [ne_tm h h hk hk, PySem.SeqAt.eqv_refl d h.c]
  rfl
theorem eq_self {d : D} {k w : Nat} (h : Sml d k w) (hk : k ≤ 64) : op2 .eq (.fz d) (.fz d) = some (.fz (.bool true)) := by
  rw [eq_tm h h hk hk, PySem.SeqAt.eqv_refl d h.c]
/-- tuples of small ints -/
theorem tms_ints {l : List Int} (h : ∀ x ∈ l, 0 ≤ x ∧ x < 1000000000000) : Smls (l.map .int) 0 (l.length * 51) := by
  have := tms_all (ds := l.map .int) (k := 0) (w := 50) fun d hd => by
    obtain ⟨x, hx, rfl⟩ := List.mem_map.mp hd
    exact tm_int (h x hx).1 (h x hx).2
  rwa [List.length_map] at this
theorem tm_word {l : List Int} (h : ∀ x ∈ l, 0 ≤ x ∧ x < 1000000000000) : Sml (.tuple (l.map .int)) 1 (l.length * 51) := tm_tup (tms_ints h)
end Sf

end

section
namespace Sg
abbrev In (m : Int) (l : List Int) : Prop := ∀ x ∈ l, 0 ≤ x ∧ x < m
/-! words in order -/
def lx : List Int → List Int → Bool
  | [], [] => false
  | [], _ :: _ => true
  | _ :: _, [] => false
  | x :: u, y :: w => decide (x < y) || (decide (x = y) && lx u w)
/-- shorter ones first, then as tuples -/
def sl (u w : List Int) : Prop := u.length < w.length ∨ u.length = w.length ∧ lx u w = true
def sle (u w : List Int) : Prop := u = w ∨ sl u w
theorem lx_irr : ∀ u : List Int, lx u u = false
  | [] => rfl
  | x :: u => by simp [lx, lx_irr u]
theorem lx_trans : ∀ u v w : List Int, lx u v = true → lx v w = true → lx u w = true
  | [], [], _, h, _ => by simp [lx] at h
  | [], _ :: _, [], _, h => by simp [lx] at h
  | [], _ :: _, _ :: _, _, _ => rfl
  | _ :: _, [], _, h, _ => by simp [lx] at h
  | _ :: _, _ :: _, [], _, h => by simp [lx] at h
  | x :: u, y :: v, z :: w, h, k => by
    simp only [lx, Bool.or_eq_true, decide_eq_true_eq, Bool.and_eq_true] at *
    rcases h with h | ⟨rfl, h⟩ <;> rcases k with k | ⟨rfl, k⟩
    · exact .inl (by omega)
    · exact .inl h
    · exact .inl k
    · exact .inr ⟨rfl, lx_trans u v w h k⟩
theorem lx_total : ∀ u w : List Int, u.length = w.length → u ≠ w → lx u w = true ∨ lx w u = true
  | [], [], _, h => absurd rfl h
  | [], _ :: _, h, _ => by simp at h
  | _ :: _, [], h, _ => by simp at h
  | x :: u, y :: w, hl, h => by
    simp only [lx, Bool.or_eq_true, decide_eq_true_eq, Bool.and_eq_true]
    by_cases e : x = y
    · subst e
      have := lx_total u w (by simpa using hl) fun q => h (by rw [q])
      rcases this with h | h
      · exact .inl (.inr ⟨rfl, h⟩)
      · exact .inr (.inr ⟨rfl, h⟩)
    · rcases Int.lt_or_gt_of_ne e with h | h
      · exact .inl (.inl h)
      · exact .inr (.inl h)
theorem lx_app : ∀ (u w s : List Int), u.length = w.length → lx (u ++ s) (w ++ s) = lx u w
  | [], [], s, _ => by simp [lx_irr, lx]
  | [], _ :: _, _, h => by simp at h
  | _ :: _, [], _, h => by simp at h
  | x :: u, y :: w, s, h => by
    simp only [List.cons_append, lx]
    rw [lx_app u w s (by simpa using h)]
theorem lx_pre : ∀ (p u w : List Int), lx (p ++ u) (p ++ w) = lx u w
  | [], _, _ => rfl
  | x :: p, u, w => by simp [lx, lx_pre p u w]
theorem lx_app2 : ∀ (u w s t : List Int), u.length = w.length → lx u w = true → lx (u ++ s) (w ++ t) = true
  | [], [], s, t, _, h => by simp [lx] at h
  | [], _ :: _, _, _, h, _ => by simp at h
  | _ :: _, [], _, _, h, _ => by simp at h
  | x :: u, y :: w, s, t, hl, h => by
    simp only [List.cons_append, lx, Bool.or_eq_true, decide_eq_true_eq, Bool.and_eq_true] at *
    rcases h with h | ⟨e, h⟩
    · exact .inl h
    · exact .inr ⟨e, lx_app2 u w s t (by simpa using hl) h⟩
theorem sl_irr (u : List Int) : ¬ sl u u := fun h => by
  rcases h with h | ⟨_, h⟩
  · omega
  · rw [lx_irr] at h
    cases h
theorem sl_trans {u v w : List Int} (h : sl u v) (k : sl v w) : sl u w := by
  rcases h with h | ⟨h, h'⟩ <;> rcases k with k | ⟨k, k'⟩
  · exact .inl (by omega)
  · exact .inl (by omega)
  · exact .inl (by omega)
  · exact .inr ⟨by omega, lx_trans _ _ _ h' k'⟩
theorem sl_total (u w : List Int) : sl u w ∨ u = w ∨ sl w u := by
  by_cases e : u = w
  · exact .inr (.inl e)
  · rcases Nat.lt_trichotomy u.length w.length with h | h | h
    · exact .inl (.inl h)
    · rcases lx_total u w h e with k | k
      · exact .inl (.inr ⟨h, k⟩)
      · exact .inr (.inr (.inr ⟨h.symm, k⟩))
    · exact .inr (.inr (.inl h))
theorem sle_trans {u v w : List Int} (h : sle u v) (k : sle v w) : sle u w := by
  rcases h with rfl | h
  · exact k
  · rcases k with rfl | k
    · exact .inr h
    · exact .inr (sl_trans h k)
theorem sl_sle {u v w : List Int} (h : sl u v) (k : sle v w) : sl u w := by
  rcases k with rfl | k
  · exact h
  · exact sl_trans h k
theorem sle_sl {u v w : List Int} (h : sle u v) (k : sl v w) : sl u w := by
  rcases h with rfl | h
  · exact k
  · exact sl_trans h k
theorem sle_anti {u w : List Int} (h : sle u w) (k : sle w u) : u = w := by
  rcases h with rfl | h
  · rfl
  · exact absurd (sl_sle h k) (sl_irr u)
theorem not_sl {u w : List Int} (h : ¬ sl u w) : sle w u := by
  rcases sl_total u w with k | k | k
  · exact absurd k h
  · exact .inl k.symm
  · exact .inr k
theorem sl_snoc {u w : List Int} (h : sl u w) (a b : Int) : sl (u ++ [a]) (w ++ [b]) := by
  unfold sl
  simp only [List.length_append, List.length_singleton]
  rcases h with h | ⟨h, k⟩
  · exact .inl (by omega)
  · exact .inr ⟨by omega, lx_app2 u w _ _ h k⟩
theorem sle_snoc {u w : List Int} (h : sle u w) (a : Int) : sle (u ++ [a]) (w ++ [a]) := by
  rcases h with rfl | h
  · exact .inl rfl
  · exact .inr (sl_snoc h a a)
theorem sl_letter (u : List Int) {a b : Int} (h : a < b) : sl (u ++ [a]) (u ++ [b]) := .inr ⟨by simp, by rw [lx_pre]; simp [lx, h]⟩
theorem sl_self (u : List Int) (a : Int) : sl u (u ++ [a]) := .inl (by simp)
theorem sle_nil (u : List Int) : sle [] u := by
  cases u with
  | nil => exact .inl rfl
  | cons x u => exact .inr (.inl (by simp))
/-! a walk over the things that letters lead to, first words first -/
section
variable {α : Type} [DecidableEq α]
def putG (next : α → Int → α) (e : α × List Int) (ps : List (α × List Int)) (a : Int) : List (α × List Int) := if next e.1 a ∈ ps.map (·.1) then ps else ps ++ [(next e.1 a, e.2 ++ [a])]
def turnG (L : Nat) (next : α → Int → α) (ps : List (α × List Int)) (e : α × List Int) : List (α × List Int) := ((List.range L).map fun i => ((i : Nat) : Int)).foldl (putG next e) ps
def bfsG (L : Nat) (next : α → Int → α) : Nat → List (α × List Int) → Nat → List (α × List Int)
  | 0, ps, _ => ps
  | k + 1, ps, i => match ps[i]? with
    | some e => bfsG L next k (turnG L next ps e) (i + 1)
    | none => ps
/-- sorted words; what is known of the first i -/
structure InvG (next : α → Int → α) (L : Int) (ps : List (α × List Int)) (i : Nat) (b : Int) : Prop where
  so : (ps.map (·.2)).Pairwise sl
  cl : ∀ (j : Nat) (e : α × List Int) (a : Int), ps[j]? = some e → 0 ≤ a → (j < i ∧ a < L ∨ j = i ∧ a < b) → ∃ e' ∈ ps, e'.1 = next e.1 a ∧ sle e'.2 (e.2 ++ [a])
  nx : ∀ e, ps[i]? = some e → ∀ e' ∈ ps, ∀ a, b ≤ a → sl e'.2 (e.2 ++ [a])
variable {next : α → Int → α} {L : Int}
theorem putG_inv {ps : List (α × List Int)} {i : Nat} {b : Int} {e : α × List Int} (h : InvG next L ps i b) (hb : 0 ≤ b) (he : ps[i]? = some e) : InvG next L (putG next e ps b) i (b + 1) ∧ (putG next e ps b)[i]? = some e := by
  unfold putG
  split
  · rename_i q
    refine ⟨⟨h.so, fun j f a hj ha hc => ?_, fun f hf e' he' a ha => h.nx f hf e' he' a (by omega)⟩, he⟩
    by_cases r : j = i ∧ a = b
    · obtain ⟨rfl, rfl⟩ := r
      rw [he] at hj
      cases hj
      obtain ⟨e', m1, m2⟩ := List.mem_map.mp q
      exact ⟨e', m1, m2, .inr (h.nx e he e' m1 a (Int.le_refl _))⟩
    · exact h.cl j f a hj ha (by omega)
  · have lt := (List.getElem?_eq_some_iff.mp he).1
    have at_ : (ps ++ [(next e.1 b, e.2 ++ [b])])[i]? = some e := by
      rw [List.getElem?_append_left lt]
      exact he
    refine ⟨⟨?_, fun j f a hj ha hc => ?_, fun f hf e' he' a ha => ?_⟩, at_⟩
    · rw [List.map_append]
      refine List.pairwise_append.mpr ⟨h.so, by simp, fun x hx y hy => ?_⟩
      obtain ⟨e', m1, rfl⟩ := List.mem_map.mp hx
      have : y = e.2 ++ [b] := by simpa using hy
      subst this
      exact h.nx e he e' m1 b (Int.le_refl _)
    · by_cases r : j = i ∧ a = b
      · obtain ⟨rfl, rfl⟩ := r
        rw [at_] at hj
        cases hj
        exact ⟨_, List.mem_append_right _ (List.mem_singleton.mpr rfl), rfl, .inl rfl⟩
      · have hj' : ps[j]? = some f := by
          rw [List.getElem?_append_left (by omega)] at hj
          exact hj
        obtain ⟨e', m1, m2⟩ := h.cl j f a hj' ha (by omega)
        exact ⟨e', List.mem_append_left _ m1, m2⟩
    · rw [at_] at hf
      cases hf
      rcases List.mem_append.mp he' with m | m
      · exact h.nx e he e' m a (by omega)
      · obtain rfl := List.mem_singleton.mp m
        exact sl_letter e.2 (by omega)
theorem turnG_inv {i : Nat} {e : α × List Int} : ∀ (n k : Nat) (ps : List (α × List Int)), InvG next L ps i (k : Int) → ps[i]? = some e → InvG next L (((List.range' k n).map fun i => ((i : Nat) : Int)).foldl (putG next e) ps) i ((k + n : Nat) : Int) ∧ (((List.range' k n).map fun i => ((i : Nat) : Int)).foldl (putG next e) ps)[i]? = some e
  | 0, k, ps, h, he => ⟨h, he⟩
  | n + 1, k, ps, h, he => by
    obtain ⟨h1, e1⟩ := putG_inv h (by omega) he
    have := turnG_inv n (k + 1) (putG next e ps k) (by simpa using h1) e1
    rw [show k + 1 + n = k + (n + 1) by omega] at this
    exact this
theorem turnG_next {l : Nat} {ps : List (α × List Int)} {i : Nat} {e : α × List Int} (hL : 0 < l) (h : InvG next (l : Int) ps i 0) (he : ps[i]? = some e) : InvG next (l : Int) (turnG l next ps e) (i + 1) 0 := by
  obtain ⟨h1, e1⟩ := turnG_inv (e := e) l 0 ps h he
  rw [← List.range_eq_range'] at h1 e1
  have h1 : InvG next (l : Int) (turnG l next ps e) i ((0 + l : Nat) : Int) := h1
  have e1 : (turnG l next ps e)[i]? = some e := e1
  refine ⟨h1.so, fun j f a hj ha hc => h1.cl j f a hj ha (by omega), fun f hf e' he' a ha => ?_⟩
  have so := h1.so
  have p : sl e.2 f.2 := by
    obtain ⟨l1, q1⟩ := List.getElem?_eq_some_iff.mp e1
    obtain ⟨l2, q2⟩ := List.getElem?_eq_some_iff.mp hf
    have := List.pairwise_iff_getElem.mp so i (i + 1) (by simpa using l1) (by simpa using l2) (by omega)
    rw [List.getElem_map, List.getElem_map, q1, q2] at this
    exact this
  have : sl e'.2 (e.2 ++ [(l : Int)]) := h1.nx e e1 e' he' l (by omega)
  exact sl_trans this (sl_snoc p _ _)
theorem bfsG_inv {l : Nat} (hL : 0 < l) : ∀ (k : Nat) (ps : List (α × List Int)) (i : Nat), InvG next (l : Int) ps i 0 → ∃ j, i ≤ j ∧ InvG next (l : Int) (bfsG l next k ps i) j 0 ∧ (j = i + k ∨ (bfsG l next k ps i).length ≤ j)
  | 0, ps, i, h => ⟨i, Nat.le_refl _, h, .inl rfl⟩
  | k + 1, ps, i, h => by
    unfold bfsG
    cases c : ps[i]? with
    | none => exact ⟨i, Nat.le_refl _, h, .inr (List.getElem?_eq_none_iff.mp c)⟩
    | some e =>
      obtain ⟨j, h1, h2, h3⟩ := bfsG_inv hL k _ (i + 1) (turnG_next hL h c)
      exact ⟨j, by omega, h2, h3.elim (fun q => .inl (by omega)) .inr⟩
theorem startG (x : α) : InvG next L [(x, [])] 0 0 := by
  refine ⟨by simp, fun j e a _ ha hc => by omega, fun e he e' he' a _ => ?_⟩
  simp at he he'
  subst he he'
  exact sl_self _ _
/-- what the walk finds: sorted; for each word a thing that it leads to, with a word that is not later -/
theorem firstsG {l m : Nat} (hL : 0 < l) (x : α) (hm : (bfsG l next m [(x, [])] 0).length ≤ m) :
    ((bfsG l next m [(x, [])] 0).map (·.2)).Pairwise sl ∧ ∀ w, In l w → ∃ e ∈ bfsG l next m [(x, [])] 0, e.1 = w.foldl next x ∧ sle e.2 w := by
  obtain ⟨j, _, h, hj⟩ := bfsG_inv (next := next) hL m [(x, [])] 0 (startG x)
  have hj' : (bfsG l next m [(x, [])] 0).length ≤ j := by omega
  have h0 : (x, []) ∈ bfsG l next m [(x, [])] 0 := by
    have keep : ∀ (k : Nat) (ps : List (α × List Int)) (i : Nat) (z : α × List Int), z ∈ ps → z ∈ bfsG l next k ps i := fun k => by
      induction k with
      | zero => exact fun ps i z hz => hz
      | succ k ih =>
        intro ps i z hz
        unfold bfsG
        split
        · refine ih _ _ _ ?_
          unfold turnG
          have : ∀ (as : List Int) (qs : List (α × List Int)) (e : α × List Int), z ∈ qs → z ∈ as.foldl (putG next e) qs := fun as => by
            induction as with
            | nil => exact fun qs e h => h
            | cons a as ih =>
              intro qs e h
              refine ih _ _ ?_
              unfold putG
              split
              · exact h
              · exact List.mem_append_left _ h
          exact this _ _ _ hz
        · exact hz
    exact keep _ _ _ _ (List.mem_singleton.mpr rfl)
  refine ⟨h.so, fun w => ?_⟩
  have key : ∀ (n : Nat) (w : List Int), w.length = n → In l w → ∃ e ∈ bfsG l next m [(x, [])] 0, e.1 = w.foldl next x ∧ sle e.2 w := fun n => by
    induction n with
    | zero =>
      intro w hw _
      obtain rfl := List.length_eq_zero_iff.mp hw
      exact ⟨_, h0, rfl, .inl rfl⟩
    | succ n ih =>
      intro w hw hi
      have ne : w ≠ [] := fun q => by rw [q] at hw; simp at hw
      obtain ⟨u, a, rfl⟩ : ∃ u a, w = u ++ [a] := ⟨w.dropLast, w.getLast ne, (List.dropLast_concat_getLast ne).symm⟩
      obtain ⟨e, m1, m2, m3⟩ := ih u (by simpa using hw) fun y hy => hi y (List.mem_append_left _ hy)
      have ha := hi a (List.mem_append_right _ (List.mem_singleton.mpr rfl))
      obtain ⟨i, li, ei⟩ := List.getElem_of_mem m1
      have at_ : (bfsG l next m [(x, [])] 0)[i]? = some e := List.getElem?_eq_some_iff.mpr ⟨li, ei⟩
      obtain ⟨e', q1, q2, q3⟩ := h.cl i e a at_ ha.1 (.inl ⟨by omega, ha.2⟩)
      refine ⟨e', q1, ?_, sle_trans q3 (sle_snoc m3 a)⟩
      rw [q2, m2, List.foldl_append]
      rfl
  exact key w.length w rfl
end
end Sg

end

section
set_option maxRecDepth 100000
set_option maxHeartbeats 1000000
/-! Sf: loops and comprehensions over encoded things. -/
namespace Sf
open PySem
theorem mapR_of {α : Type} (enc : α → D) (f : D → Sto → Res (Option D)) (g : α → D) (E : Sto) (l : List α) (h : ∀ x ∈ l, f (enc x) E = .ok (some (g x)) E) : mapR f (l.map enc) E = .ok (l.map g) E := by
  induction l with
  | nil => rfl
  | cons x l ih =>
    rw [List.map_cons, mapR, h x (List.mem_cons_self ..), Res.bind_ok, ih fun y hy => h y (List.mem_cons_of_mem _ hy)]
    rfl
theorem mapR_if {α : Type} (enc : α → D) (f : D → Sto → Res (Option D)) (p : α → Bool) (g : α → D) (E : Sto) (l : List α) (h : ∀ x ∈ l, f (enc x) E = .ok (if p x then some (g x) else none) E) : mapR f (l.map enc) E = .ok ((l.filter p).map g) E := by
  induction l with
  | nil => rfl
  | cons x l ih =>
    rw [List.map_cons, mapR, h x (List.mem_cons_self ..), Res.bind_ok, ih fun y hy => h y (List.mem_cons_of_mem _ hy), Res.bind_ok, List.filter_cons]
    cases p x <;> rfl
/-- a loop that goes on: what is known before and behind each turn -/
theorem forR_inv {α : Type} (enc : α → D) (f : D → Sto → Res Fl) (I : List α → Sto → Prop) (l : List α) : ∀ E, I l E → (∀ x r E, I (x :: r) E → ∃ fl E', f (enc x) E = .ok fl E' ∧ (fl = .next ∨ fl = .cont) ∧ I r E') → ∃ E', forR f (l.map enc) E = .ok .next E' ∧ I [] E' := by
  induction l with
  | nil => exact fun E h _ => ⟨E, rfl, h⟩
  | cons x l ih =>
    intro E h s
    obtain ⟨fl, E1, e1, c, h1⟩ := s x l E h
    obtain ⟨E2, e2, h2⟩ := ih E1 h1 s
    refine ⟨E2, ?_, h2⟩
    rw [List.map_cons, forR, e1]
    rcases c with rfl | rfl <;> exact e2
/-- .. with something that is reckoned along -/
theorem forR_fold {α σ : Type} (enc : α → D) (f : D → Sto → Res Fl) (I : σ → Sto → Prop) (g : σ → α → σ) (l : List α) : ∀ s E, I s E → (∀ s x E, x ∈ l → I s E → ∃ E', f (enc x) E = .ok .next E' ∧ I (g s x) E') → ∃ E', forR f (l.map enc) E = .ok .next E' ∧ I (l.foldl g s) E' := by
  induction l with
  | nil => exact fun s E h _ => ⟨E, rfl, h⟩
  | cons x l ih =>
    intro s E h t
    obtain ⟨E1, e1, h1⟩ := t s x E (List.mem_cons_self ..) h
    obtain ⟨E2, e2, h2⟩ := ih (g s x) E1 h1 fun s y E hy => t s y E (List.mem_cons_of_mem _ hy)
    refine ⟨E2, ?_, h2⟩
    rw [List.map_cons, forR, e1]
    exact e2
theorem all_true (bs : List D) (h : ∀ d ∈ bs, d = .bool true) : op1 .all (.ol bs) = some (.fz (.bool true)) := by
  have : ∃ l : List Bool, bools? bs = some l ∧ l.all id = true := by
    induction bs with
    | nil => exact ⟨[], rfl, rfl⟩
    | cons d bs ih =>
      obtain ⟨l, e, a⟩ := ih fun x hx => h x (List.mem_cons_of_mem _ hx)
      obtain rfl := h d (List.mem_cons_self ..)
      refine ⟨true :: l, ?_, by simpa using a⟩
      show (bools? bs).map (true :: ·) = _
      rw [e]
      rfl
  obtain ⟨l, e, a⟩ := this
  show (bools? bs).map (fun bs => W.fz (.bool (bs.all id))) = _
  rw [e]
  show some (W.fz (.bool (l.all id))) = _
  rw [a]
/-- a comprehension whose turns may change the store -/
theorem mapR_inv {α : Type} (enc : α → D) (f : D → Sto → Res (Option D)) (g : α → D) (I : Sto → Prop) (l : List α) (h : ∀ x ∈ l, ∀ E, I E → ∃ E', f (enc x) E = .ok (some (g x)) E' ∧ I E') : ∀ E, I E → ∃ E', mapR f (l.map enc) E = .ok (l.map g) E' ∧ I E' := by
  induction l with
  | nil => exact fun E i => ⟨E, rfl, i⟩
  | cons x l ih =>
    intro E i
    obtain ⟨E1, e1, i1⟩ := h x (List.mem_cons_self ..) E i
    obtain ⟨E2, e2, i2⟩ := ih (fun y hy => h y (List.mem_cons_of_mem _ hy)) E1 i1
    refine ⟨E2, ?_, i2⟩
    rw [List.map_cons, mapR, e1, Res.bind_ok, e2]
    rfl
/-- .. of ints -/
theorem mapR_I {f : D → Sto → Res (Option D)} (g : Int → Int) (E : Sto) (l : List Int) (h : ∀ x ∈ l, f (.int x) E = .ok (some (.int (g x))) E) : mapR f (l.map .int) E = .ok ((l.map g).map .int) E := by
  have := mapR_of PyData.int f (fun x => .int (g x)) E l h
  rw [this, List.map_map]
  rfl
theorem rangeD_up (k : Nat) (h : k ≤ 16777216) : rangeD 0 (k : Int) = some ((List.range k).map fun i => PyData.int (i : Nat)) := by
  unfold rangeD lineN
  rw [if_pos (by omega)]
  have e : ((k : Int) - 0).toNat = k := by omega
  rw [e]
  exact congrArg some (List.map_congr_left fun i _ => by rw [Int.zero_add])
theorem rangeD_up1 (k : Nat) (h : k ≤ 16777215) : rangeD 0 ((k : Int) + 1) = some ((List.range (k + 1)).map fun i => PyData.int (i : Nat)) := rangeD_up (k + 1) (by omega)
/-- a range whose end is a sum: told so, for the kernel would count it out -/
theorem evR_r1 {cl : Nat → List W → CRes} {x : IE} {E E1 : Sto} {j : Int} {ds : List D} (h : ev cl x E = .ok (.fz (.int j)) E1) (h2 : rangeD 0 j = some ds) : evR cl (.r1 x) E = .ok ds E1 := by
  unfold evR
  rw [h, Res.bind_ok]
  show Res.lift (rangeD 0 j) E1 = _
  rw [h2]
  rfl
end Sf

end

section
namespace Sg
section
variable {α : Type} [DecidableEq α] {next : α → Int → α}
/-! what a walk holds -/
structure OkG (next : α → Int → α) (l : Nat) (x : α) (ps : List (α × List Int)) : Prop where
  nd : (ps.map (·.1)).Nodup
  so : ∀ e ∈ ps, e.1 = e.2.foldl next x ∧ (∀ a ∈ e.2, 0 ≤ a ∧ a < (l : Int)) ∧ e.2.length < ps.length
theorem OkG.put {l : Nat} {x : α} {ps : List (α × List Int)} {e : α × List Int} (h : OkG next l x ps) (he : e ∈ ps) {a : Int} (a0 : 0 ≤ a) (a1 : a < l) : OkG next l x (putG next e ps a) ∧ e ∈ putG next e ps a := by
  unfold putG
  split
  · exact ⟨h, he⟩
  · rename_i q
    obtain ⟨s1, s2, s3⟩ := h.so e he
    refine ⟨⟨?_, fun f hf => ?_⟩, List.mem_append_left _ he⟩
    · rw [List.map_append]
      refine List.nodup_append.mpr ⟨h.nd, by simp, fun y hy z hz e2 => ?_⟩
      subst e2
      rw [List.map_singleton, List.mem_singleton] at hz
      subst hz
      exact q hy
    · rw [List.length_append, List.length_singleton]
      rcases List.mem_append.mp hf with hf | hf
      · obtain ⟨t1, t2, t3⟩ := h.so f hf
        exact ⟨t1, t2, by omega⟩
      · obtain rfl := List.mem_singleton.mp hf
        refine ⟨?_, fun y hy => ?_, ?_⟩
        · show next e.1 a = (e.2 ++ [a]).foldl next x
          rw [List.foldl_append, s1]
          rfl
        · rcases List.mem_append.mp hy with hy | hy
          · exact s2 y hy
          · rw [List.mem_singleton.mp hy]
            exact ⟨a0, a1⟩
        · show (e.2 ++ [a]).length < _
          rw [List.length_append, List.length_singleton]
          omega
theorem OkG.puts {l : Nat} {x : α} {e : α × List Int} : ∀ (as : List Int) (ps : List (α × List Int)), OkG next l x ps → e ∈ ps → (∀ a ∈ as, 0 ≤ a ∧ a < (l : Int)) → OkG next l x (as.foldl (putG next e) ps) ∧ e ∈ as.foldl (putG next e) ps
  | [], ps, h, he, _ => ⟨h, he⟩
  | a :: as, ps, h, he, ha => by
    have h0 := ha a (List.mem_cons_self ..)
    obtain ⟨h1, h2⟩ := h.put he h0.1 h0.2
    exact OkG.puts as _ h1 h2 fun y hy => ha y (List.mem_cons_of_mem _ hy)
theorem letters_lt (l : Nat) : ∀ a ∈ (List.range l).map (fun i => ((i : Nat) : Int)), 0 ≤ a ∧ a < (l : Int) := fun a ha => by
  obtain ⟨i, hi, rfl⟩ := List.mem_map.mp ha
  have := List.mem_range.mp hi
  omega
theorem OkG.turn {l : Nat} {x : α} {ps : List (α × List Int)} {e : α × List Int} (h : OkG next l x ps) (he : e ∈ ps) : OkG next l x (turnG l next ps e) := (OkG.puts _ ps h he (letters_lt l)).1
theorem OkG.bfs {l : Nat} {x : α} : ∀ (k : Nat) (ps : List (α × List Int)) (i : Nat), OkG next l x ps → OkG next l x (bfsG l next k ps i)
  | 0, ps, i, h => h
  | k + 1, ps, i, h => by
    unfold bfsG
    cases c : ps[i]? with
    | none => exact h
    | some e => exact OkG.bfs k _ (i + 1) (h.turn (List.mem_of_getElem? c))
theorem OkG.start {l : Nat} (x : α) : OkG next l x [(x, [])] := ⟨by simp, fun e he => by
  obtain rfl := List.mem_singleton.mp he
  exact ⟨rfl, fun a ha => (by cases ha), by simp⟩⟩
theorem puts_at {e f : α × List Int} {i : Nat} : ∀ (as : List Int) (ps : List (α × List Int)), ps[i]? = some f → (as.foldl (putG next e) ps)[i]? = some f
  | [], ps, h => h
  | a :: as, ps, h => by
    refine puts_at as _ ?_
    unfold putG
    split
    · exact h
    · rw [List.getElem?_append_left (List.getElem?_eq_some_iff.mp h).1]
      exact h
theorem bfs_at {f : α × List Int} {l i : Nat} : ∀ (k : Nat) (ps : List (α × List Int)) (j : Nat), ps[i]? = some f → (bfsG l next k ps j)[i]? = some f
  | 0, ps, j, h => h
  | k + 1, ps, j, h => by
    unfold bfsG
    cases c : ps[j]? with
    | none => exact h
    | some e => exact bfs_at k _ (j + 1) (puts_at _ ps h)
theorem puts_len {e : α × List Int} : ∀ (as : List Int) (ps : List (α × List Int)), ps.length ≤ (as.foldl (putG next e) ps).length
  | [], ps => Nat.le_refl _
  | a :: as, ps => by
    refine Nat.le_trans ?_ (puts_len as _)
    unfold putG
    split
    · exact Nat.le_refl _
    · simp
theorem bfs_len {l : Nat} : ∀ (k : Nat) (ps : List (α × List Int)) (j : Nat), ps.length ≤ (bfsG l next k ps j).length
  | 0, ps, j => Nat.le_refl _
  | k + 1, ps, j => by
    unfold bfsG
    cases c : ps[j]? with
    | none => exact Nat.le_refl _
    | some e => exact Nat.le_trans (puts_len _ ps) (bfs_len k _ (j + 1))
/-! a walk that ends at the first thing that is bad -/
def runG (l : Nat) (next : α → Int → α) (bad : α → Bool) : Nat → List (α × List Int) → Nat → Option (List Int)
  | 0, _, _ => none
  | k + 1, ps, i => match ps[i]? with
    | none => none
    | some e => if bad e.1 then some e.2 else runG l next bad k (turnG l next ps e) (i + 1)
theorem runG_find {l : Nat} (bad : α → Bool) : ∀ (k : Nat) (ps : List (α × List Int)) (i : Nat), (bfsG l next k ps i).length ≤ i + k → runG l next bad k ps i = (((bfsG l next k ps i).drop i).find? fun e => bad e.1).map (·.2)
  | 0, ps, i, h => by
    have : (bfsG l next 0 ps i).drop i = [] := List.drop_eq_nil_of_le (by omega)
    rw [this]
    rfl
  | k + 1, ps, i, h => by
    unfold runG
    cases c : ps[i]? with
    | none =>
      have e : bfsG l next (k + 1) ps i = ps := by
        unfold bfsG
        rw [c]
      rw [e]
      have : ps.drop i = [] := List.drop_eq_nil_of_le (List.getElem?_eq_none_iff.mp c)
      rw [this]
      rfl
    | some e =>
      have eb : bfsG l next (k + 1) ps i = bfsG l next k (turnG l next ps e) (i + 1) := by
        show (match ps[i]? with
          | some e => bfsG l next k (turnG l next ps e) (i + 1)
          | none => ps) = _
        rw [c]
      rw [eb] at h ⊢
      have at_ : (bfsG l next k (turnG l next ps e) (i + 1))[i]? = some e := bfs_at k _ _ (puts_at _ ps c)
      obtain ⟨lt, ge⟩ := List.getElem?_eq_some_iff.mp at_
      rw [List.drop_eq_getElem_cons lt, ge, List.find?_cons]
      show (if bad e.1 = true then some e.2 else runG l next bad k (turnG l next ps e) (i + 1)) = _
      cases q : bad e.1 with
      | true => rfl
      | false =>
        rw [if_neg Bool.false_ne_true]
        exact runG_find bad k _ (i + 1) (by omega)
/-- .. finds the first word with a bad thing -/
theorem runG_first {l m : Nat} (hL : 0 < l) (x : α) (hm : (bfsG l next m [(x, [])] 0).length ≤ m) (bad : α → Bool) :
    match runG l next bad m [(x, [])] 0 with
    | none => ∀ w, In l w → bad (w.foldl next x) = false
    | some u => In l u ∧ u.length < m ∧ bad (u.foldl next x) = true ∧ ∀ w, In l w → bad (w.foldl next x) = true → sle u w := by
  obtain ⟨so, cl⟩ := firstsG (next := next) hL x hm
  have ok := OkG.bfs (l := l) m [(x, [])] 0 (OkG.start (next := next) x)
  rw [runG_find bad m [(x, [])] 0 (by omega), List.drop_zero]
  generalize bfsG l next m [(x, [])] 0 = T at *
  cases c : T.find? fun e => bad e.1 with
  | none =>
    intro w hw
    obtain ⟨e, he, e1, _⟩ := cl w hw
    have := List.find?_eq_none.mp c e he
    rw [← e1]
    simpa using this
  | some e =>
    have he := List.mem_of_find?_eq_some c
    have be := List.find?_some c
    obtain ⟨s1, s2, s3⟩ := ok.so e he
    show In l e.2 ∧ e.2.length < m ∧ bad (e.2.foldl next x) = true ∧ ∀ w, In l w → bad (w.foldl next x) = true → sle e.2 w
    refine ⟨s2, by omega, by rw [← s1]; exact be, fun w hw bw => ?_⟩
    obtain ⟨f, hf, f1, f2⟩ := cl w hw
    refine sle_trans ?_ f2
    have bf : bad f.1 = true := by rw [f1]; exact bw
    obtain ⟨l1, l2, e1, e2⟩ := List.find?_eq_some_iff_append.mp c |>.2
    rw [e1] at hf so
    rcases List.mem_append.mp hf with hf | hf
    · have := e2 f hf
      simp [bf] at this
    · rcases List.mem_cons.mp hf with rfl | hf
      · exact .inl rfl
      · rw [List.map_append, List.map_cons] at so
        exact .inr ((List.pairwise_cons.mp (List.pairwise_append.mp so).2.1).1 f.2 (List.mem_map.mpr ⟨f, hf, rfl⟩))
end
end Sg

end

section
set_option maxRecDepth 100000
set_option maxHeartbeats 1000000
/-! Sf: the dict of a walk. -/
namespace Sf
open PySem
section
variable {α : Type} [DecidableEq α] {key : α → D} {val : List Int → D}
theorem dgG_some (hk : ∀ a b, keyEq (key a) (key b) = decide (a = b)) (a : α) : ∀ ps : List (α × List Int), (dget (ps.map fun e => (key e.1, val e.2)) (key a)).isSome = decide (a ∈ ps.map (·.1))
  | [] => by simp [dget]
  | x :: ps => by
    have ih := dgG_some hk a ps
    unfold dget at ih ⊢
    rw [List.map_cons, List.find?_cons, hk]
    by_cases q : x.1 = a
    · subst q
      simp
    · have q2 : ¬ a = x.1 := fun e => q e.symm
      rw [decide_eq_false q]
      show ((List.find? _ _).map _).isSome = _
      rw [ih]
      simp [q2]
theorem dgG_mem (hk : ∀ a b, keyEq (key a) (key b) = decide (a = b)) (a : α) (ps : List (α × List Int)) : (dget (ps.map fun e => (key e.1, val e.2)) (key a)).isSome = true ↔ a ∈ ps.map (·.1) := by
  rw [dgG_some hk a ps, decide_eq_true_eq]
theorem dgG_in (hk : ∀ a b, keyEq (key a) (key b) = decide (a = b)) : ∀ {ps : List (α × List Int)} {e : α × List Int}, (ps.map (·.1)).Nodup → e ∈ ps → dget (ps.map fun e => (key e.1, val e.2)) (key e.1) = some (val e.2)
  | [], e, _, he => by cases he
  | x :: ps, e, hn, he => by
    rw [List.map_cons] at hn
    obtain ⟨h1, h2⟩ := List.nodup_cons.mp hn
    unfold dget
    rw [List.map_cons, List.find?_cons, hk]
    by_cases q : x.1 = e.1
    · rw [decide_eq_true q]
      rcases List.mem_cons.mp he with rfl | he
      · rfl
      · exact absurd (List.mem_map.mpr ⟨e, he, q.symm⟩) h1
    · rw [decide_eq_false q]
      rcases List.mem_cons.mp he with rfl | he
      · exact absurd rfl q
      · exact dgG_in hk h2 he
theorem dpG_new (hk : ∀ a b, keyEq (key a) (key b) = decide (a = b)) {ps : List (α × List Int)} {a : α} (w : List Int) (h : a ∉ ps.map (·.1)) : dput (ps.map fun e => (key e.1, val e.2)) (key a) (val w) = (ps ++ [(a, w)]).map fun e => (key e.1, val e.2) := by
  unfold dput
  have h1 : ((ps.map fun e => (key e.1, val e.2)).any fun p => keyEq p.1 (key a)) = false := by
    rw [List.any_eq_false]
    intro p hp
    obtain ⟨e, he, rfl⟩ := List.mem_map.mp hp
    show ¬ keyEq (key e.1) (key a) = true
    rw [hk, decide_eq_true_eq]
    intro q
    exact h (List.mem_map.mpr ⟨e, he, q⟩)
  rw [h1, List.map_append]
  rfl
end
end Sf

end

section
set_option maxRecDepth 100000
set_option maxHeartbeats 0
namespace Lk44
open PySem Sf
abbrev j_is_integer : Nat := 0
abbrev j_is_between : Nat := 1
abbrev j_is_row : Nat := 2
abbrev j_is_machine : Nat := 3
abbrev j_need_machine : Nat := 4
abbrev j_need_number : Nat := 5
abbrev j_good_states : Nat := 6
abbrev j_from_left : Nat := 7
abbrev j_from_right : Nat := 8
abbrev j_with_result : Nat := 9
abbrev j__law_cell : Nat := 10
abbrev j__law_source : Nat := 11
abbrev j__law_draw : Nat := 12
abbrev j__law_choose : Nat := 13
abbrev j__law_is_equal : Nat := 14
abbrev j__law_machine : Nat := 15
abbrev j__law_map : Nat := 16
abbrev j__law_reached : Nat := 17
abbrev j__law_has : Nat := 18
abbrev j__law_due : Nat := 19
abbrev j_law : Nat := 20
abbrev ir_is_integer : S := (.ret (.tst (.an (.v (.e (.o1 .isInt (.p 0)))) (.no (.v (.e (.o1 .isBool (.p 0))))))))
abbrev ir_is_between : S := (.ret (.tst (.an (.v (.e (.call j_is_integer (.cons (.p 0) .nil)))) (.v (.e (.chn .le .le (.p 1) (.p 0) (.p 2)))))))
abbrev ir_is_row : S := (.ret (.tst (.an (.v (.e (.o1 .isTup (.p 0)))) (.an (.v (.e (.o2 .eq (.e (.o1 .len (.p 0))) (.p 1)))) (.v (.e (.o1 .all (.e (.lc (.call j_is_between (.cons (.p 3) (.cons (.e (.con (.int 0))) (.cons (.e (.o2 .sub (.p 2) (.e (.con (.int 1))))) .nil)))) (.nm 3) (.own 0) .tt)))))))))
abbrev ir_is_machine : S := (.seq (.ifs (.or (.no (.v (.e (.o1 .isTup (.p 0))))) (.or (.v (.e (.o2 .ne (.e (.o1 .len (.p 0))) (.e (.con (.int 5)))))) (.no (.v (.e (.call j_is_between (.cons (.e (.o2 .idx (.p 0) (.e (.con (.int 0))))) (.cons (.e (.con (.int 2))) (.cons (.e (.con (.int 3))) .nil))))))))) (.ret (.con (.bool false))) .skip) (.seq (.unp [1, 2, 3, 4, 5] (.var 0)) (.seq (.ifs (.or (.no (.v (.e (.o1 .isStr (.p 2))))) (.or (.v (.e (.o2 .notin (.p 2) (.e (.dsp true (.cons (.con (.str "left")) (.cons (.con (.str "right")) .nil))))))) (.no (.v (.e (.o1 .isTup (.p 4))))))) (.ret (.con (.bool false))) .skip) (.seq (.set 6 (.o1 .len (.p 4))) (.seq (.ifs (.or (.no (.v (.e (.chn .le .le (.e (.con (.int 1))) (.p 6) (.e (.con (.int 4))))))) (.no (.v (.e (.o1 .all (.e (.lc (.call j_is_row (.cons (.p 7) (.cons (.p 1) (.cons (.p 6) .nil)))) (.nm 7) (.own 4) .tt))))))) (.ret (.con (.bool false))) .skip) (.ret (.tst (.an (.v (.e (.call j_is_between (.cons (.p 3) (.cons (.e (.con (.int 0))) (.cons (.e (.o2 .sub (.p 6) (.e (.con (.int 1))))) .nil)))))) (.v (.e (.call j_is_row (.cons (.p 5) (.cons (.p 6) (.cons (.e (.o2 .add (.e (.con (.int 9))) (.e (.con (.int 1))))) .nil))))))))))))))
abbrev ir_need_machine : S := (.ifs (.no (.v (.e (.call j_is_machine (.cons (.p 0) .nil))))) .no .skip)
abbrev ir_need_number : S := (.ifs (.no (.v (.e (.call j_is_between (.cons (.p 0) (.cons (.e (.con (.int 0))) (.cons (.p 1) .nil))))))) .no .skip)
abbrev ir_good_states : S := (.ret (.lc (.var 3) (.tp [3, 2]) (.enum (.o2 .idx (.p 0) (.e (.con (.int 4))))) (.v (.e (.o2 .eq (.p 2) (.p 1))))))
abbrev ir_from_left : S := (.seq (.set 3 (.dsp false (.cons (.call j_good_states (.cons (.p 0) (.cons (.p 2) .nil))) .nil))) (.seq (.for_ (.nm 4) (.r1 (.var 1)) (.app 3 (.lc (.var 5) (.tp [5, 9]) (.enum (.o2 .idx (.p 0) (.e (.con (.int 3))))) (.v (.e (.o1 .any (.e (.lc (.o2 .isin (.p 10) (.e (.o2 .idx (.p 3) (.e (.o1 .neg (.e (.con (.int 1)))))))) (.nm 10) (.own 9) .tt)))))))) (.seq (.par [5, 6] (.cons (.o2 .idx (.p 0) (.e (.con (.int 2)))) (.cons (.dsp true .nil) .nil))) (.seq (.ifs (.v (.e (.o2 .notin (.p 5) (.e (.o2 .idx (.p 3) (.e (.o1 .neg (.e (.con (.int 1)))))))))) (.ret (.con .none)) .skip) (.seq (.for_ (.nm 7) (.its (.o1 .rvt (.p 3))) (.seq (.set 8 (.o2 .idx (.e (.lc (.var 11) (.tp [11, 10]) (.enum (.o2 .idx (.e (.o2 .idx (.p 0) (.e (.con (.int 3))))) (.p 5))) (.v (.e (.o2 .isin (.p 10) (.p 7)))))) (.e (.con (.int 0))))) (.par [5, 6] (.cons (.o2 .idx (.e (.o2 .idx (.e (.o2 .idx (.p 0) (.e (.con (.int 3))))) (.p 5))) (.p 8)) (.cons (.o2 .add (.p 6) (.e (.dsp true (.cons (.var 8) .nil)))) .nil))))) (.rtv 6))))))
abbrev ir_from_right : S := (.seq (.set 3 (.dsp false (.cons (.dsp false (.cons (.o2 .idx (.p 0) (.e (.con (.int 2)))) .nil)) .nil))) (.seq (.for_ (.nm 4) (.r1 (.var 1)) (.app 3 (.o1 .sset (.e (.lc2 (.var 9) (.nm 10) (.its (.o2 .idx (.p 3) (.e (.o1 .neg (.e (.con (.int 1))))))) (.nm 9) (.its (.o2 .idx (.e (.o2 .idx (.p 0) (.e (.con (.int 3))))) (.p 10))) .tt))))) (.seq (.unp [5, 6] (.dsp true (.cons (.call j_good_states (.cons (.p 0) (.cons (.p 2) .nil))) (.cons (.dsp true .nil) .nil)))) (.seq (.ifs (.no (.v (.e (.o1 .any (.e (.lc (.o2 .isin (.p 10) (.p 5)) (.nm 10) (.its (.o2 .idx (.p 3) (.e (.o1 .neg (.e (.con (.int 1))))))) .tt)))))) (.ret (.con .none)) .skip) (.seq (.for_ (.nm 7) (.its (.o1 .rvt (.p 3))) (.seq (.set 8 (.lc (.var 11) (.nm 11) (.r1 (.o2 .idx (.p 0) (.e (.con (.int 0))))) (.v (.e (.o1 .any (.e (.lc (.o2 .isin (.e (.o2 .idx (.e (.o2 .idx (.e (.o2 .idx (.p 0) (.e (.con (.int 3))))) (.p 10))) (.p 11))) (.p 5)) (.nm 10) (.own 7) .tt))))))) (.unp [5, 6] (.dsp true (.cons (.lc (.var 10) (.nm 10) (.own 7) (.v (.e (.o2 .isin (.e (.o2 .idx (.e (.o2 .idx (.e (.o2 .idx (.p 0) (.e (.con (.int 3))))) (.p 10))) (.e (.o2 .idx (.p 8) (.e (.con (.int 0))))))) (.p 5))))) (.cons (.o2 .add (.p 6) (.e (.dsp true (.cons (.o2 .idx (.p 8) (.e (.con (.int 0)))) .nil)))) .nil)))))) (.rtv 6))))))
abbrev ir_with_result : S := (.seq (.expr (.call j_need_machine (.cons (.p 0) .nil))) (.seq (.expr (.call j_need_number (.cons (.p 1) (.cons (.e (.con (.int 40))) .nil)))) (.seq (.ifs (.no (.v (.e (.call j_is_between (.cons (.p 2) (.cons (.e (.con (.int 0))) (.cons (.e (.con (.int 9))) .nil))))))) .no .skip) (.ret (.ite (.v (.e (.o2 .eq (.e (.o2 .idx (.p 0) (.e (.con (.int 1))))) (.e (.con (.str "left")))))) (.call j_from_left (.cons (.p 0) (.cons (.p 1) (.cons (.p 2) .nil)))) (.call j_from_right (.cons (.p 0) (.cons (.p 1) (.cons (.p 2) .nil)))))))))
abbrev ir__law_cell : S := (.seq (.ifs (.v (.e (.o2 .lt (.p 1) (.e (.o1 .len (.p 0)))))) (.ret (.o2 .idx (.p 0) (.p 1))) .skip) (.ret (.con (.int 0))))
abbrev ir__law_source : S := (.ret (.dsp false (.cons (.o2 .max2 (.e (.con (.int 0))) (.e (.o2 .sub (.p 0) (.e (.o2 .pow (.e (.con (.int 10))) (.e (.con (.int 18)))))))) (.cons (.o2 .add (.e (.o2 .mod (.p 0) (.e (.con (.int 2147483629))))) (.e (.con (.int 1)))) (.cons (.con (.int 0)) .nil)))))
abbrev ir__law_draw : S := (.seq (.ifs (.v (.e (.o2 .gt (.e (.o2 .idx (.p 0) (.e (.con (.int 0))))) (.e (.con (.int 0)))))) (.seq (.set 2 (.o2 .mod (.e (.o2 .idx (.p 0) (.e (.con (.int 0))))) (.p 1))) (.seq (.put 0 (.con (.int 0)) (.o2 .fdiv (.e (.o2 .idx (.p 0) (.e (.con (.int 0))))) (.p 1))) (.rtv 2))) .skip) (.seq (.put 0 (.con (.int 2)) (.o2 .add (.e (.o2 .idx (.p 0) (.e (.con (.int 2))))) (.e (.con (.int 1))))) (.seq (.put 0 (.con (.int 1)) (.o2 .mod (.e (.o2 .add (.e (.o2 .add (.e (.o2 .mul (.e (.o2 .idx (.p 0) (.e (.con (.int 1))))) (.e (.con (.int 48271))))) (.e (.o2 .mul (.e (.con (.int 1009))) (.e (.o2 .idx (.p 0) (.e (.con (.int 2))))))))) (.e (.con (.int 7))))) (.e (.con (.int 2147483647))))) (.seq (.set 3 (.o2 .mod (.e (.o2 .add (.e (.o2 .add (.e (.o2 .mul (.e (.o2 .idx (.p 0) (.e (.con (.int 1))))) (.e (.o2 .idx (.p 0) (.e (.con (.int 1))))))) (.e (.o2 .mul (.e (.con (.int 69621))) (.e (.o2 .idx (.p 0) (.e (.con (.int 1))))))))) (.e (.con (.int 11))))) (.e (.con (.int 2147483629))))) (.seq (.set 3 (.o2 .mod (.e (.o2 .add (.e (.o2 .mul (.p 3) (.p 3))) (.e (.o2 .mul (.e (.con (.int 40014))) (.p 3))))) (.e (.con (.int 2147483587))))) (.ret (.o2 .mod (.e (.o2 .fdiv (.p 3) (.e (.con (.int 16))))) (.p 1))))))))
abbrev ir__law_choose : S := (.ret (.o2 .idx (.p 1) (.e (.call j__law_draw (.cons (.p 0) (.cons (.e (.o1 .len (.p 1))) .nil))))))
abbrev ir__law_is_equal : S := (.ret (.o2 .eq (.e (.o1 .repr (.p 0))) (.e (.o1 .repr (.p 1)))))
abbrev ir__law_machine : S := (.seq (.unp [2, 3, 4] (.dsp true (.cons (.call j__law_choose (.cons (.p 0) (.cons (.e (.dsp false (.cons (.con (.int 2)) (.cons (.con (.int 2)) (.cons (.con (.int 3)) .nil))))) .nil))) (.cons (.o2 .add (.e (.con (.int 1))) (.e (.call j__law_draw (.cons (.p 0) (.cons (.p 1) .nil))))) (.cons (.call j__law_draw (.cons (.p 0) (.cons (.e (.con (.int 6))) .nil))) .nil))))) (.seq (.set 5 (.lc (.call j__law_draw (.cons (.p 0) (.cons (.p 3) .nil))) (.nm 11) (.r1 (.var 2)) .tt)) (.seq (.set 6 (.lc (.lc (.call j__law_draw (.cons (.p 0) (.cons (.p 3) .nil))) (.nm 11) (.r1 (.var 2)) .tt) (.nm 12) (.r1 (.var 3)) .tt)) (.seq (.ifs (.v (.e (.o2 .eq (.p 4) (.e (.con (.int 0)))))) (.set 6 (.lc (.lc (.o2 .mod (.e (.o2 .add (.p 12) (.p 13))) (.p 3)) (.nm 13) (.own 5) .tt) (.nm 12) (.r1 (.var 3)) .tt)) .skip) (.seq (.ifs (.v (.e (.o2 .eq (.p 4) (.e (.con (.int 1)))))) (.set 6 (.lc (.lc (.o2 .max2 (.p 12) (.p 13)) (.nm 13) (.own 5) .tt) (.nm 12) (.r1 (.var 3)) .tt)) .skip) (.seq (.ifs (.v (.e (.o2 .eq (.p 4) (.e (.con (.int 2)))))) (.set 6 (.lc (.var 5) (.nm 12) (.r1 (.var 3)) .tt)) .skip) (.seq (.ifs (.v (.e (.o2 .eq (.p 4) (.e (.con (.int 3)))))) (.set 6 (.o2 .add (.e (.dsp false (.cons (.var 5) .nil))) (.e (.lc (.o2 .mul (.e (.dsp false (.cons (.var 12) .nil))) (.p 2)) (.nm 12) (.r2 (.con (.int 1)) (.var 3)) .tt)))) .skip) (.seq (.unp [7, 8] (.dsp true (.cons (.call j__law_draw (.cons (.p 0) (.cons (.e (.con (.int 10))) .nil))) (.cons (.call j__law_choose (.cons (.p 0) (.cons (.e (.dsp false (.cons (.con (.str "left")) (.cons (.con (.str "right")) .nil)))) .nil))) .nil)))) (.seq (.set 9 (.lc (.o2 .mod (.e (.o2 .add (.e (.o2 .mul (.e (.con (.int 7))) (.p 12))) (.p 7))) (.e (.con (.int 10)))) (.nm 12) (.r1 (.var 3)) .tt)) (.seq (.ifs (.v (.e (.o2 .eq (.e (.call j__law_draw (.cons (.p 0) (.cons (.e (.con (.int 3))) .nil)))) (.e (.con (.int 0)))))) (.set 9 (.lc (.call j__law_draw (.cons (.p 0) (.cons (.e (.con (.int 3))) .nil))) (.nm 12) (.r1 (.var 3)) .tt)) .skip) (.seq (.set 10 (.ite (.v (.e (.o2 .eq (.e (.call j__law_draw (.cons (.p 0) (.cons (.e (.con (.int 3))) .nil)))) (.e (.con (.int 0)))))) (.call j__law_draw (.cons (.p 0) (.cons (.p 3) .nil))) (.con (.int 0)))) (.ret (.dsp true (.cons (.var 2) (.cons (.var 8) (.cons (.var 10) (.cons (.o1 .tup (.e (.lc (.o1 .tup (.p 14)) (.nm 14) (.own 6) .tt))) (.cons (.o1 .tup (.p 9)) .nil))))))))))))))))))
abbrev ir__law_map : S := (.seq (.set 2 (.rng false (.r1 (.o1 .len (.e (.o2 .idx (.p 0) (.e (.con (.int 3))))))))) (.seq (.for_ (.nm 3) (.its (.ite (.v (.e (.o2 .eq (.e (.o2 .idx (.p 0) (.e (.con (.int 1))))) (.e (.con (.str "left")))))) (.var 1) (.o1 .rev (.p 1)))) (.set 2 (.lc (.o2 .idx (.e (.o2 .idx (.e (.o2 .idx (.p 0) (.e (.con (.int 3))))) (.p 4))) (.p 3)) (.nm 4) (.own 2) .tt))) (.ret (.o1 .tup (.p 2)))))
abbrev ir__law_reached : S := (.seq (.set 3 (.o1 .lis (.p 1))) (.seq (.for_ (.nm 4) (.r1 (.var 2)) (.seq (.set 5 (.dsp false .nil)) (.seq (.for_ (.nm 6) (.own 3) (.set 5 (.o2 .add (.p 5) (.e (.lc (.var 7) (.nm 7) (.its (.o2 .idx (.e (.o2 .idx (.p 0) (.e (.con (.int 3))))) (.p 6))) (.v (.e (.o2 .notin (.p 7) (.p 5))))))))) (.set 3 (.var 5))))) (.rtv 3)))
abbrev ir__law_has : S := (.seq (.set 4 (.call j__law_map (.cons (.p 0) (.cons (.p 1) .nil)))) (.seq (.ifs (.v (.e (.o2 .eq (.e (.o2 .idx (.p 0) (.e (.con (.int 1))))) (.e (.con (.str "left")))))) (.set 5 (.call j__law_reached (.cons (.p 0) (.cons (.e (.dsp false (.cons (.o2 .idx (.p 4) (.e (.o2 .idx (.p 0) (.e (.con (.int 2)))))) .nil))) (.cons (.p 2) .nil))))) (.set 5 (.lc (.o2 .idx (.p 4) (.p 6)) (.nm 6) (.its (.call j__law_reached (.cons (.p 0) (.cons (.e (.dsp false (.cons (.o2 .idx (.p 0) (.e (.con (.int 2)))) .nil))) (.cons (.p 2) .nil))))) .tt))) (.ret (.o2 .ne (.e (.lc (.con (.int 1)) (.nm 6) (.own 5) (.v (.e (.o2 .eq (.e (.o2 .idx (.e (.o2 .idx (.p 0) (.e (.con (.int 4))))) (.p 6))) (.p 3)))))) (.e (.dsp false .nil))))))
abbrev ir__law_due : S := (.seq (.ifs (.no (.v (.e (.call j__law_has (.cons (.p 0) (.cons (.e (.dsp true .nil)) (.cons (.p 1) (.cons (.p 2) .nil)))))))) (.ret (.con .none)) .skip) (.seq (.set 3 (.dsp true .nil)) (.seq (.for_ (.nm 4) (.r1 (.var 1)) (.seq (.set 5 (.lc (.var 6) (.nm 6) (.r1 (.o2 .idx (.p 0) (.e (.con (.int 0))))) (.v (.e (.call j__law_has (.cons (.p 0) (.cons (.e (.o2 .add (.p 3) (.e (.dsp true (.cons (.var 6) .nil))))) (.cons (.e (.o2 .sub (.e (.o2 .sub (.p 1) (.p 4))) (.e (.con (.int 1))))) (.cons (.p 2) .nil))))))))) (.set 3 (.o2 .add (.p 3) (.e (.dsp true (.cons (.o2 .idx (.p 5) (.e (.con (.int 0)))) .nil))))))) (.rtv 3))))
abbrev ir_law : S := (.seq (.for_ (.nm 1) (.r1 (.o2 .max2 (.e (.con (.int 1))) (.e (.o2 .min2 (.e (.o1 .len (.p 0))) (.e (.con (.int 3))))))) (.seq (.set 2 (.call j__law_source (.cons (.e (.call j__law_cell (.cons (.p 0) (.cons (.p 1) .nil)))) .nil))) (.for_ (.nm 3) (.r1 (.con (.int 3))) (.seq (.set 4 (.call j__law_machine (.cons (.p 2) (.cons (.e (.con (.int 4))) .nil)))) (.for_ (.nm 5) (.its (.dsp false (.cons (.con (.int 0)) (.cons (.con (.int 1)) (.cons (.call j__law_draw (.cons (.p 2) (.cons (.e (.con (.int 6))) .nil))) (.cons (.o2 .idx (.e (.dsp false (.cons (.call j__law_draw (.cons (.p 2) (.cons (.e (.con (.int 16))) .nil))) (.cons (.con (.int 40)) (.cons (.con (.int 9)) .nil))))) (.p 3)) .nil)))))) (.for_ (.nm 6) (.its (.ite (.v (.e (.o2 .lt (.p 5) (.e (.con (.int 6)))))) (.rng false (.r1 (.con (.int 10)))) (.o2 .idx (.p 4) (.e (.con (.int 4)))))) (.seq (.par [7, 8] (.cons (.o1 .repr (.p 4)) (.cons (.call j__law_due (.cons (.p 4) (.cons (.p 5) (.cons (.p 6) .nil)))) .nil))) (.seq (.set 9 (.lc (.call j_with_result (.cons (.p 4) (.cons (.p 5) (.cons (.p 6) .nil)))) (.nm 10) (.r1 (.con (.int 2))) .tt)) (.ifs (.or (.no (.v (.e (.call j__law_is_equal (.cons (.p 9) (.cons (.e (.dsp false (.cons (.var 8) (.cons (.var 8) .nil)))) .nil)))))) (.v (.e (.o2 .ne (.e (.o1 .repr (.p 4))) (.p 7))))) (.ret (.con (.bool false))) .skip))))))))) (.ret (.con (.bool true))))
abbrev fns : List Fn := [⟨1, 1, ir_is_integer⟩, ⟨3, 3, ir_is_between⟩, ⟨3, 4, ir_is_row⟩, ⟨1, 8, ir_is_machine⟩, ⟨1, 1, ir_need_machine⟩, ⟨2, 2, ir_need_number⟩, ⟨2, 4, ir_good_states⟩, ⟨3, 12, ir_from_left⟩, ⟨3, 12, ir_from_right⟩, ⟨3, 3, ir_with_result⟩, ⟨2, 2, ir__law_cell⟩, ⟨1, 1, ir__law_source⟩, ⟨2, 4, ir__law_draw⟩, ⟨2, 2, ir__law_choose⟩, ⟨2, 2, ir__law_is_equal⟩, ⟨2, 15, ir__law_machine⟩, ⟨2, 5, ir__law_map⟩, ⟨3, 8, ir__law_reached⟩, ⟨4, 7, ir__law_has⟩, ⟨3, 7, ir__law_due⟩, ⟨1, 11, ir_law⟩]
abbrev tab : List Ent := [.c (.inl "is_integer") ["thing"], .c (.inl "is_between") ["thing", "low", "high"], .c (.inl "is_row") ["thing", "long", "many"], .c (.inl "is_machine") ["thing"], .c (.inl "need_machine") ["thing"], .c (.inl "need_number") ["many", "most"], .c (.inl "good_states") ["machine", "value"], .c (.inl "from_left") ["machine", "many", "value"], .c (.inl "from_right") ["machine", "many", "value"], .c (.inl "with_result") ["machine", "many", "value"], .c (.inl "_law_cell") ["_law_script", "_law_index"], .c (.inl "_law_source") ["_law_cell_here"], .c (.inl "_law_draw") ["_law_supply", "_law_many"], .c (.inl "_law_choose") ["_law_supply", "_law_values"], .c (.inl "_law_is_equal") ["_law_actual", "_law_due_here"], .c (.inl "_law_machine") ["_law_supply", "_law_most"], .c (.inl "_law_map") ["_law_machine_here", "_law_word"], .c (.inl "_law_reached") ["_law_machine_here", "_law_begun", "_law_many"], .c (.inl "_law_has") ["_law_machine_here", "_law_word", "_law_many", "_law_value"], .c (.inl "_law_due") ["_law_machine_here", "_law_many", "_law_value"], .c (.inl "law") ["_law_script"]]
end Lk44

end

section
set_option maxRecDepth 100000
set_option maxHeartbeats 0
namespace Lk44
open PySem PySem.Spec PyProof.Rows L2 Sf
def top (i : Nat) : Stmt := PySem.Challenge.pw_splitfolds_k44_first_words_of_a_length.main.body.getD i (.Pass ⟨0, 0, 0, 0⟩)
abbrev st_is_integer : Stmt := top 12
abbrev st_is_between : Stmt := top 13
abbrev st_is_row : Stmt := top 14
abbrev st_is_machine : Stmt := top 15
abbrev st_need_machine : Stmt := top 16
abbrev st_need_number : Stmt := top 19
abbrev st_good_states : Stmt := top 20
abbrev st_from_left : Stmt := top 21
abbrev st_from_right : Stmt := top 22
abbrev st_with_result : Stmt := top 23
abbrev st__law_cell : Stmt := top 25
abbrev st__law_source : Stmt := top 26
abbrev st__law_draw : Stmt := top 27
abbrev st__law_choose : Stmt := top 28
abbrev st__law_is_equal : Stmt := top 29
abbrev st__law_machine : Stmt := top 30
abbrev st__law_map : Stmt := top 31
abbrev st__law_reached : Stmt := top 32
abbrev st__law_has : Stmt := top 33
abbrev st__law_due : Stmt := top 34
abbrev st_law : Stmt := top 35
structure Fx (mg : Str → Option Value) : Prop where
  b_all : mg "all" = none
  b_any : mg "any" = none
  b_bool : mg "bool" = none
  b_enumerate : mg "enumerate" = none
  b_int : mg "int" = none
  b_isinstance : mg "isinstance" = none
  b_len : mg "len" = none
  b_list : mg "list" = none
  b_max : mg "max" = none
  b_min : mg "min" = none
  b_range : mg "range" = none
  b_repr : mg "repr" = none
  b_set : mg "set" = none
  b_sorted : mg "sorted" = none
  b_str : mg "str" = none
  b_tuple : mg "tuple" = none
  c_LEAST_LETTERS : ∃ t, mg "LEAST_LETTERS" = some (.int 2 t)
  c_LEFT : ∃ t, mg "LEFT" = some (.str "left" t)
  c_MOST_LETTERS : ∃ t, mg "MOST_LETTERS" = some (.int 3 t)
  c_MOST_RESULT : ∃ t, mg "MOST_RESULT" = some (.int 9 t)
  c_MOST_SHORT : ∃ t, mg "MOST_SHORT" = some (.int 40 t)
  c_MOST_STATES : ∃ t, mg "MOST_STATES" = some (.int 4 t)
  c_RIGHT : ∃ t, mg "RIGHT" = some (.str "right" t)
abbrev FnP (K : PySem.W.Frag) (x q : Str) (st : Stmt) (f : Addr) (fd : FuncData) : Prop := FunD K x q (defArgs st) (defBody st) (defScope st) [] [] f fd
section
variable [WorldI] {P : Program} {K : PySem.W.Frag} {mg : Str → Option Value} {base : Heap} {xa : Nat → Addr} {n : Nat}
theorem sc_is_integer : FnScope ["thing"] ["thing"] (defScope st_is_integer) := ⟨rfl, rfl, rfl, by decide +kernel, rfl, by decide +kernel, by decide +kernel⟩
theorem bd_is_integer {fa : Addr} {fd : FuncData} (D : FnP K "is_integer" "is_integer" st_is_integer fa fd) : Binds K fd ["thing"] [] := D.bindsN fun _ _ _ _ _ _ us hl => match us, hl with | [_], _ => rfl
theorem f_is_integer (T : TableX P WorldI.w K mg base xa fns tab n) (h : Fx mg) {fa : Addr} {fd : FuncData} (D : FnP K "is_integer" "is_integer" st_is_integer fa fd) (hm : AtN K mg (.inl "is_integer") fa) : Callee P WorldI.w K mg base xa (callD fns (n + 1)) (2 * n + 2) 0 (.inl "is_integer") ["thing"] :=
  def_ok (fn := ⟨1, 1, ir_is_integer⟩) D hm sc_is_integer rfl rfl rfl (bd_is_integer D) fun cdv A outer s H E bo tk hgd hr1 hp => by
      have hr := hr1.mono (Nat.le_succ (2 * n))
      exact
      (dss_one (ds_ret (de_tst (dv_an (dv_v (da_e (u_isi .isInt (.inl rfl) (by decide +kernel) h.b_isinstance h.b_int (da_p (pv 0))))) (dv_one (dv_no (dv_v (da_e (u_isi .isBool (.inr (.inl rfl)) (by decide +kernel) h.b_isinstance h.b_bool (da_p (pv 0)))))))))))
theorem sc_is_between : FnScope ["thing", "low", "high"] ["thing", "low", "high"] (defScope st_is_between) := ⟨rfl, rfl, rfl, by decide +kernel, rfl, by decide +kernel, by decide +kernel⟩
theorem bd_is_between {fa : Addr} {fd : FuncData} (D : FnP K "is_between" "is_between" st_is_between fa fd) : Binds K fd ["thing", "low", "high"] [] := D.bindsN fun _ _ _ _ _ _ us hl => match us, hl with | [_, _, _], _ => rfl
theorem f_is_between (T : TableX P WorldI.w K mg base xa fns tab n) (h : Fx mg) {fa : Addr} {fd : FuncData} (D : FnP K "is_between" "is_between" st_is_between fa fd) (hm : AtN K mg (.inl "is_between") fa) : Callee P WorldI.w K mg base xa (callD fns (n + 1)) (2 * n + 2) 1 (.inl "is_between") ["thing", "low", "high"] :=
  def_ok (fn := ⟨3, 3, ir_is_between⟩) D hm sc_is_between rfl rfl rfl (bd_is_between D) fun cdv A outer s H E bo tk hgd hr1 hp => by
      have hr := hr1.mono (Nat.le_succ (2 * n))
      exact
      (dss_one (ds_ret (de_tst (dv_an (dv_v (da_e (de_callC (tC (f := j_is_integer) T rfl) tk hgd hr (v_As (da_p (pv 0)) das_nil)))) (dv_one (dv_v (da_e (u_chn Cm.le Cm.le (da_p (pv 1)) (da_p (pv 0)) (da_p (pv 2))))))))))
theorem sc_is_row : FnScope ["thing", "long", "many", "one"] ["thing", "long", "many"] (defScope st_is_row) := ⟨rfl, rfl, rfl, by decide +kernel, rfl, by decide +kernel, by decide +kernel⟩
theorem bd_is_row {fa : Addr} {fd : FuncData} (D : FnP K "is_row" "is_row" st_is_row fa fd) : Binds K fd ["thing", "long", "many"] [] := D.bindsN fun _ _ _ _ _ _ us hl => match us, hl with | [_, _, _], _ => rfl
theorem f_is_row (T : TableX P WorldI.w K mg base xa fns tab n) (h : Fx mg) {fa : Addr} {fd : FuncData} (D : FnP K "is_row" "is_row" st_is_row fa fd) (hm : AtN K mg (.inl "is_row") fa) : Callee P WorldI.w K mg base xa (callD fns (n + 1)) (2 * n + 2) 2 (.inl "is_row") ["thing", "long", "many"] :=
  def_ok (fn := ⟨3, 4, ir_is_row⟩) D hm sc_is_row rfl rfl rfl (bd_is_row D) fun cdv A outer s H E bo tk hgd hr1 hp => by
      have hr := hr1.mono (Nat.le_succ (2 * n))
      exact
      (dss_one (ds_ret (de_tst (dv_an (dv_v (da_e (u_isi .isTup (.inr (.inr (.inr rfl))) (by decide +kernel) h.b_isinstance h.b_tuple (da_p (pv 0))))) (dv_an (dv_v (da_e (u_cmp (Cm.eq (hu64 hr)) (da_e (u_len rfl h.b_len (da_p (pv 0)))) (da_p (pv 1))))) (dv_one (dv_v (da_e (u_all rfl h.b_all (da_e (v_lc [("one", 3)] rfl sc_is_row.nd tg_nm (di_own (pv 0)) (blkOk_by (by kernel_rfl)) (fun _ _ _ _ _ => (g_nm sc_is_row.nd)) (fun _ _ _ _ _ => dts_nil) (fun _ _ _ _ _ => (de_callC (tC (f := j_is_between) T rfl) tk0 hgd hr (v_As (da_p (pv 3)) (v_As (da_e u_int0) (v_As (da_e (u_sub (da_p (pv 2)) (da_e u_int0))) das_nil))))))))))))))))
theorem sc_is_machine : FnScope ["thing", "letters", "side", "start", "moves", "outs", "many", "row"] ["thing"] (defScope st_is_machine) := ⟨rfl, rfl, rfl, by decide +kernel, rfl, by decide +kernel, by decide +kernel⟩
theorem bd_is_machine {fa : Addr} {fd : FuncData} (D : FnP K "is_machine" "is_machine" st_is_machine fa fd) : Binds K fd ["thing"] [] := D.bindsN fun _ _ _ _ _ _ us hl => match us, hl with | [_], _ => rfl
theorem f_is_machine (T : TableX P WorldI.w K mg base xa fns tab n) (h : Fx mg) {fa : Addr} {fd : FuncData} (D : FnP K "is_machine" "is_machine" st_is_machine fa fd) (hm : AtN K mg (.inl "is_machine") fa) : Callee P WorldI.w K mg base xa (callD fns (n + 1)) (2 * n + 2) 3 (.inl "is_machine") ["thing"] :=
  def_ok (fn := ⟨1, 8, ir_is_machine⟩) D hm sc_is_machine rfl rfl rfl (bd_is_machine D) fun cdv A outer s H E bo tk hgd hr1 hp => by
      have hr := hr1.mono (Nat.le_succ (2 * n))
      exact
      (dss_cons (ds_if ((dw_or (dt_no (t_val (da_e (u_isi .isTup (.inr (.inr (.inr rfl))) (by decide +kernel) h.b_isinstance h.b_tuple (da_p (pv 0)))))) (dw_or (t_cmp (Cm.ne (hu64 hr)) (da_e (u_len rfl h.b_len (da_p (pv 0)))) (da_e u_int0)) (dw_or1 (dt_no (t_val (da_e (de_callC (tC (f := j_is_between) T rfl) tk hgd hr (v_As (da_e (u_idx rfl (hu16 hr) (da_p (pv 0)) (da_e u_int0))) (v_As (da_e (u_gint h.c_LEAST_LETTERS)) (v_As (da_e (u_gint h.c_MOST_LETTERS)) das_nil))))))))))).pt (dss_one (ds_ret u_bl0)) dss_nil)
      (dss_cons (s_unp rfl (de_var (pv 0)) (g_cons sc_is_machine.nd (g_cons sc_is_machine.nd (g_cons sc_is_machine.nd (g_cons sc_is_machine.nd (g_cons sc_is_machine.nd g_nil))))))
      (dss_cons (ds_if ((dw_or (dt_no (t_val (da_e (u_isi .isStr (.inr (.inr (.inl rfl))) (by decide +kernel) h.b_isinstance h.b_str (da_p (pv 2)))))) (dw_or (t_cmp (Cm.notin rfl (hu66 hr)) (da_p (pv 2)) (da_e (v_tup (v_Ds (u_gstr h.c_LEFT) (v_Ds (u_gstr h.c_RIGHT) dds_nil))))) (dw_or1 (dt_no (t_val (da_e (u_isi .isTup (.inr (.inr (.inr rfl))) (by decide +kernel) h.b_isinstance h.b_tuple (da_p (pv 4)))))))))).pt (dss_one (ds_ret u_bl0)) dss_nil)
      (dss_cons (s_set sc_is_machine.nd (u_len rfl h.b_len (da_p (pv 4))))
      (dss_cons (ds_if ((dw_or (dt_no (t_chn Cm.le Cm.le (da_e u_int0) (da_p (pv 6)) (da_e (u_gint h.c_MOST_STATES)))) (dw_or1 (dt_no (t_val (da_e (u_all rfl h.b_all (da_e (v_lc [("row", 7)] rfl sc_is_machine.nd tg_nm (di_own (pv 4)) (blkOk_by (by kernel_rfl)) (fun _ _ _ _ _ => (g_nm sc_is_machine.nd)) (fun _ _ _ _ _ => dts_nil) (fun _ _ _ _ _ => (de_callC (tC (f := j_is_row) T rfl) tk0 hgd hr (v_As (da_p (pv 7)) (v_As (da_p (pv 1)) (v_As (da_p (pv 6)) das_nil)))))))))))))).pt (dss_one (ds_ret u_bl0)) dss_nil)
      (dss_one (ds_ret (de_tst (dv_an (dv_v (da_e (de_callC (tC (f := j_is_between) T rfl) tk hgd hr (v_As (da_p (pv 3)) (v_As (da_e u_int0) (v_As (da_e (u_sub (da_p (pv 6)) (da_e u_int0))) das_nil)))))) (dv_one (dv_v (da_e (de_callC (tC (f := j_is_row) T rfl) tk hgd hr (v_As (da_p (pv 5)) (v_As (da_p (pv 6)) (v_As (da_e (u_add (da_e (u_gint h.c_MOST_RESULT)) (da_e u_int0))) das_nil))))))))))))))))
theorem sc_need_machine : FnScope ["thing"] ["thing"] (defScope st_need_machine) := ⟨rfl, rfl, rfl, by decide +kernel, rfl, by decide +kernel, by decide +kernel⟩
theorem bd_need_machine {fa : Addr} {fd : FuncData} (D : FnP K "need_machine" "need_machine" st_need_machine fa fd) : Binds K fd ["thing"] [] := D.bindsN fun _ _ _ _ _ _ us hl => match us, hl with | [_], _ => rfl
theorem f_need_machine (T : TableX P WorldI.w K mg base xa fns tab n) (h : Fx mg) {fa : Addr} {fd : FuncData} (D : FnP K "need_machine" "need_machine" st_need_machine fa fd) (hm : AtN K mg (.inl "need_machine") fa) : Callee P WorldI.w K mg base xa (callD fns (n + 1)) (2 * n + 2) 4 (.inl "need_machine") ["thing"] :=
  def_ok (fn := ⟨1, 1, ir_need_machine⟩) D hm sc_need_machine rfl rfl rfl (bd_need_machine D) fun cdv A outer s H E bo tk hgd hr1 hp => by
      have hr := hr1.mono (Nat.le_succ (2 * n))
      exact
      (dss_one (ds_if (dt_no (t_val (da_e (de_callC (tC (f := j_is_machine) T rfl) tk hgd hr (v_As (da_p (pv 0)) das_nil))))) (dss_one ds_no) dss_nil))
theorem sc_need_number : FnScope ["many", "most"] ["many", "most"] (defScope st_need_number) := ⟨rfl, rfl, rfl, by decide +kernel, rfl, by decide +kernel, by decide +kernel⟩
theorem bd_need_number {fa : Addr} {fd : FuncData} (D : FnP K "need_number" "need_number" st_need_number fa fd) : Binds K fd ["many", "most"] [] := D.bindsN fun _ _ _ _ _ _ us hl => match us, hl with | [_, _], _ => rfl
theorem f_need_number (T : TableX P WorldI.w K mg base xa fns tab n) (h : Fx mg) {fa : Addr} {fd : FuncData} (D : FnP K "need_number" "need_number" st_need_number fa fd) (hm : AtN K mg (.inl "need_number") fa) : Callee P WorldI.w K mg base xa (callD fns (n + 1)) (2 * n + 2) 5 (.inl "need_number") ["many", "most"] :=
  def_ok (fn := ⟨2, 2, ir_need_number⟩) D hm sc_need_number rfl rfl rfl (bd_need_number D) fun cdv A outer s H E bo tk hgd hr1 hp => by
      have hr := hr1.mono (Nat.le_succ (2 * n))
      exact
      (dss_one (ds_if (dt_no (t_val (da_e (de_callC (tC (f := j_is_between) T rfl) tk hgd hr (v_As (da_p (pv 0)) (v_As (da_e u_int0) (v_As (da_p (pv 1)) das_nil))))))) (dss_one ds_no) dss_nil))
theorem sc_good_states : FnScope ["machine", "value", "out", "state"] ["machine", "value"] (defScope st_good_states) := ⟨rfl, rfl, rfl, by decide +kernel, rfl, by decide +kernel, by decide +kernel⟩
theorem bd_good_states {fa : Addr} {fd : FuncData} (D : FnP K "good_states" "good_states" st_good_states fa fd) : Binds K fd ["machine", "value"] [] := D.bindsN fun _ _ _ _ _ _ us hl => match us, hl with | [_, _], _ => rfl
theorem f_good_states (T : TableX P WorldI.w K mg base xa fns tab n) (h : Fx mg) {fa : Addr} {fd : FuncData} (D : FnP K "good_states" "good_states" st_good_states fa fd) (hm : AtN K mg (.inl "good_states") fa) : Callee P WorldI.w K mg base xa (callD fns (n + 1)) (2 * n + 2) 6 (.inl "good_states") ["machine", "value"] :=
  def_ok (fn := ⟨2, 4, ir_good_states⟩) D hm sc_good_states rfl rfl rfl (bd_good_states D) fun cdv A outer s H E bo tk hgd hr1 hp => by
      have hr := hr1.mono (Nat.le_succ (2 * n))
      exact
      (dss_one (ds_ret (v_lc [("state", 3), ("out", 2)] rfl sc_good_states.nd (tg_tp rfl) (v_enum h.b_enumerate (u_idx rfl (hu16 hr) (da_p (pv 0)) (da_e u_int0))) (blkOk_by (by kernel_rfl)) (fun _ _ _ _ _ => (g_tp rfl (g_cons sc_good_states.nd (g_cons sc_good_states.nd g_nil)))) (fun _ _ _ _ _ => (dts_one (t_cmp (Cm.eq (hu64 hr)) (da_p (pv 2)) (da_p (pv 1))))) (fun _ _ _ _ _ => (de_var (pv 3))))))
theorem sc_from_left : FnScope ["machine", "many", "value", "goals", "turn", "state", "found", "some", "letter", "row", "place", "one"] ["machine", "many", "value"] (defScope st_from_left) := ⟨rfl, rfl, rfl, by decide +kernel, rfl, by decide +kernel, by decide +kernel⟩
theorem bd_from_left {fa : Addr} {fd : FuncData} (D : FnP K "from_left" "from_left" st_from_left fa fd) : Binds K fd ["machine", "many", "value"] [] := D.bindsN fun _ _ _ _ _ _ us hl => match us, hl with | [_, _, _], _ => rfl
theorem f_from_left (T : TableX P WorldI.w K mg base xa fns tab n) (h : Fx mg) {fa : Addr} {fd : FuncData} (D : FnP K "from_left" "from_left" st_from_left fa fd) (hm : AtN K mg (.inl "from_left") fa) : Callee P WorldI.w K mg base xa (callD fns (n + 1)) (2 * n + 2) 7 (.inl "from_left") ["machine", "many", "value"] :=
  def_ok (fn := ⟨3, 12, ir_from_left⟩) D hm sc_from_left rfl rfl rfl (bd_from_left D) fun cdv A outer s H E bo tk hgd hr1 hp => by
      have hr := hr1.mono (Nat.le_succ (2 * n))
      exact
      (dss_cons (s_set sc_from_left.nd (v_lst (v_Ds (de_callC (tC (f := j_good_states) T rfl) tk hgd hr (v_As (da_p (pv 0)) (v_As (da_p (pv 2)) das_nil))) dds_nil)))
      (dss_cons (s_for hp rfl tg_nm (v_r1 h.b_range (de_var (pv 1))) (g_nm sc_from_left.nd)
      (dss_one (s_app (pv 3) (v_lc [("state", 5), ("row", 9)] rfl sc_from_left.nd (tg_tp rfl) (v_enum h.b_enumerate (u_idx rfl (hu16 hr) (da_p (pv 0)) (da_e u_int0))) (blkOk_by (by kernel_rfl)) (fun _ _ _ _ _ => (g_tp rfl (g_cons sc_from_left.nd (g_cons sc_from_left.nd g_nil)))) (fun _ _ _ _ _ => (dts_one (t_val (da_e (u_any rfl h.b_any (da_e (v_lc [("place", 10)] rfl sc_from_left.nd tg_nm (di_own (pv 9)) (blkOk_by (by kernel_rfl)) (fun _ _ _ _ _ => (g_nm sc_from_left.nd)) (fun _ _ _ _ _ => dts_nil) (fun _ _ _ _ _ => (u_cmp (Cm.isin rfl (hu66 hr)) (da_p (pv 10)) (da_e (u_idx rfl (hu16 hr) (da_p (pv 3)) (da_e (u_neg (da_e u_int0)))))))))))))) (fun _ _ _ _ _ => (de_var (pv 5)))))))
      (dss_cons (s_par2 rfl sc_from_left.nd (v_Ws (u_idx rfl (hu16 hr) (da_p (pv 0)) (da_e u_int0)) (v_Ws (v_tup dds_nil) dws_nil)))
      (dss_cons (ds_if (t_cmp (Cm.notin rfl (hu66 hr)) (da_p (pv 5)) (da_e (u_idx rfl (hu16 hr) (da_p (pv 3)) (da_e (u_neg (da_e u_int0)))))) (dss_one (ds_ret u_non0)) dss_nil)
      (dss_cons (s_for hp rfl tg_nm (di_its (v_rvt (da_p (pv 3)))) (g_nm sc_from_left.nd)
      (dss_cons (s_set sc_from_left.nd (u_idx rfl (hu16 hr) (da_e (v_lc [("one", 11), ("place", 10)] rfl sc_from_left.nd (tg_tp rfl) (v_enum h.b_enumerate (u_idx rfl (hu16 hr) (da_e (u_idx rfl (hu16 hr) (da_p (pv 0)) (da_e u_int0))) (da_p (pv 5)))) (blkOk_by (by kernel_rfl)) (fun _ _ _ _ _ => (g_tp rfl (g_cons sc_from_left.nd (g_cons sc_from_left.nd g_nil)))) (fun _ _ _ _ _ => (dts_one (t_cmp (Cm.isin rfl (hu66 hr)) (da_p (pv 10)) (da_p (pv 7))))) (fun _ _ _ _ _ => (de_var (pv 11))))) (da_e u_int0)))
      (dss_one (s_par2 rfl sc_from_left.nd (v_Ws (u_idx rfl (hu16 hr) (da_e (u_idx rfl (hu16 hr) (da_e (u_idx rfl (hu16 hr) (da_p (pv 0)) (da_e u_int0))) (da_p (pv 5)))) (da_p (pv 8))) (v_Ws (u_add (da_p (pv 6)) (da_e (v_tup (v_Ds (de_var (pv 8)) dds_nil)))) dws_nil))))))
      (dss_one (ds_rtv (pv 6))))))))
theorem sc_from_right : FnScope ["machine", "many", "value", "begun", "turn", "goals", "found", "some", "letters", "place", "state", "one"] ["machine", "many", "value"] (defScope st_from_right) := ⟨rfl, rfl, rfl, by decide +kernel, rfl, by decide +kernel, by decide +kernel⟩
theorem bd_from_right {fa : Addr} {fd : FuncData} (D : FnP K "from_right" "from_right" st_from_right fa fd) : Binds K fd ["machine", "many", "value"] [] := D.bindsN fun _ _ _ _ _ _ us hl => match us, hl with | [_, _, _], _ => rfl
theorem f_from_right (T : TableX P WorldI.w K mg base xa fns tab n) (h : Fx mg) {fa : Addr} {fd : FuncData} (D : FnP K "from_right" "from_right" st_from_right fa fd) (hm : AtN K mg (.inl "from_right") fa) : Callee P WorldI.w K mg base xa (callD fns (n + 1)) (2 * n + 2) 8 (.inl "from_right") ["machine", "many", "value"] :=
  def_ok (fn := ⟨3, 12, ir_from_right⟩) D hm sc_from_right rfl rfl rfl (bd_from_right D) fun cdv A outer s H E bo tk hgd hr1 hp => by
      have hr := hr1.mono (Nat.le_succ (2 * n))
      exact
      (dss_cons (s_set sc_from_right.nd (v_lst (v_Ds (v_lst (v_Ds (u_idx rfl (hu16 hr) (da_p (pv 0)) (da_e u_int0)) dds_nil)) dds_nil)))
      (dss_cons (s_for hp rfl tg_nm (v_r1 h.b_range (de_var (pv 1))) (g_nm sc_from_right.nd)
      (dss_one (s_app (pv 3) (u_sset rfl h.b_sorted h.b_set (da_e (v_lc2 [("state", 10), ("place", 9)] rfl sc_from_right.nd tg_nm tg_nm (di_its (u_idx rfl (hu16 hr) (da_p (pv 3)) (da_e (u_neg (da_e u_int0))))) (blkOk_by (by kernel_rfl)) (fun _ _ _ _ _ => (g_nm sc_from_right.nd)) (fun _ _ _ _ _ => (v_its0 (u_idx rfl (hu16 hr) (da_e (u_idx rfl (hu16 hr) (da_p (pv 0)) (da_e u_int0))) (da_p (pv 10))))) (fun _ _ _ _ _ => (g_nm sc_from_right.nd)) (fun _ _ _ _ _ => dts_nil) (fun _ _ _ _ _ => (de_var (pv 9)))))))))
      (dss_cons (s_unp rfl (v_tup (v_Ds (de_callC (tC (f := j_good_states) T rfl) tk hgd hr (v_As (da_p (pv 0)) (v_As (da_p (pv 2)) das_nil))) (v_Ds (v_tup dds_nil) dds_nil))) (g_cons sc_from_right.nd (g_cons sc_from_right.nd g_nil)))
      (dss_cons (ds_if (dt_no (t_val (da_e (u_any rfl h.b_any (da_e (v_lc [("state", 10)] rfl sc_from_right.nd tg_nm (di_its (u_idx rfl (hu16 hr) (da_p (pv 3)) (da_e (u_neg (da_e u_int0))))) (blkOk_by (by kernel_rfl)) (fun _ _ _ _ _ => (g_nm sc_from_right.nd)) (fun _ _ _ _ _ => dts_nil) (fun _ _ _ _ _ => (u_cmp (Cm.isin rfl (hu66 hr)) (da_p (pv 10)) (da_p (pv 5)))))))))) (dss_one (ds_ret u_non0)) dss_nil)
      (dss_cons (s_for hp rfl tg_nm (di_its (v_rvt (da_p (pv 3)))) (g_nm sc_from_right.nd)
      (dss_cons (s_set sc_from_right.nd (v_lc [("one", 11)] rfl sc_from_right.nd tg_nm (v_r1 h.b_range (u_idx rfl (hu16 hr) (da_p (pv 0)) (da_e u_int0))) (blkOk_by (by kernel_rfl)) (fun _ _ _ _ _ => (g_nm sc_from_right.nd)) (fun _ _ _ _ _ => (dts_one (t_val (da_e (u_any rfl h.b_any (da_e (v_lc [("state", 10)] rfl sc_from_right.nd tg_nm (di_own (pv 7)) (blkOk_by (by kernel_rfl)) (fun _ _ _ _ _ => (g_nm sc_from_right.nd)) (fun _ _ _ _ _ => dts_nil) (fun _ _ _ _ _ => (u_cmp (Cm.isin rfl (hu66 hr)) (da_e (u_idx rfl (hu16 hr) (da_e (u_idx rfl (hu16 hr) (da_e (u_idx rfl (hu16 hr) (da_p (pv 0)) (da_e u_int0))) (da_p (pv 10)))) (da_p (pv 11)))) (da_p (pv 5))))))))))) (fun _ _ _ _ _ => (de_var (pv 11)))))
      (dss_one (s_unp rfl (v_tup (v_Ds (v_lc [("state", 10)] rfl sc_from_right.nd tg_nm (di_own (pv 7)) (blkOk_by (by kernel_rfl)) (fun _ _ _ _ _ => (g_nm sc_from_right.nd)) (fun _ _ _ _ _ => (dts_one (t_cmp (Cm.isin rfl (hu66 hr)) (da_e (u_idx rfl (hu16 hr) (da_e (u_idx rfl (hu16 hr) (da_e (u_idx rfl (hu16 hr) (da_p (pv 0)) (da_e u_int0))) (da_p (pv 10)))) (da_e (u_idx rfl (hu16 hr) (da_p (pv 8)) (da_e u_int0))))) (da_p (pv 5))))) (fun _ _ _ _ _ => (de_var (pv 10)))) (v_Ds (u_add (da_p (pv 6)) (da_e (v_tup (v_Ds (u_idx rfl (hu16 hr) (da_p (pv 8)) (da_e u_int0)) dds_nil)))) dds_nil))) (g_cons sc_from_right.nd (g_cons sc_from_right.nd g_nil))))))
      (dss_one (ds_rtv (pv 6))))))))
theorem sc_with_result : FnScope ["machine", "many", "value"] ["machine", "many", "value"] (defScope st_with_result) := ⟨rfl, rfl, rfl, by decide +kernel, rfl, by decide +kernel, by decide +kernel⟩
theorem bd_with_result {fa : Addr} {fd : FuncData} (D : FnP K "with_result" "with_result" st_with_result fa fd) : Binds K fd ["machine", "many", "value"] [] := D.bindsN fun _ _ _ _ _ _ us hl => match us, hl with | [_, _, _], _ => rfl
theorem f_with_result (T : TableX P WorldI.w K mg base xa fns tab n) (h : Fx mg) {fa : Addr} {fd : FuncData} (D : FnP K "with_result" "with_result" st_with_result fa fd) (hm : AtN K mg (.inl "with_result") fa) : Callee P WorldI.w K mg base xa (callD fns (n + 1)) (2 * n + 2) 9 (.inl "with_result") ["machine", "many", "value"] :=
  def_ok (fn := ⟨3, 3, ir_with_result⟩) D hm sc_with_result rfl rfl rfl (bd_with_result D) fun cdv A outer s H E bo tk hgd hr1 hp => by
      have hr := hr1.mono (Nat.le_succ (2 * n))
      exact
      (dss_cons (s_expr (de_callC (tC (f := j_need_machine) T rfl) tk hgd hr (v_As (da_p (pv 0)) das_nil)))
      (dss_cons (s_expr (de_callC (tC (f := j_need_number) T rfl) tk hgd hr (v_As (da_p (pv 1)) (v_As (da_e (u_gint h.c_MOST_SHORT)) das_nil))))
      (dss_cons (ds_if (dt_no (t_val (da_e (de_callC (tC (f := j_is_between) T rfl) tk hgd hr (v_As (da_p (pv 2)) (v_As (da_e u_int0) (v_As (da_e (u_gint h.c_MOST_RESULT)) das_nil))))))) (dss_one ds_no) dss_nil)
      (dss_one (ds_ret (de_ite (t_cmp (Cm.eq (hu64 hr)) (da_e (u_idx rfl (hu16 hr) (da_p (pv 0)) (da_e u_int0))) (da_e (u_gstr h.c_LEFT))) (de_callC (tC (f := j_from_left) T rfl) tk hgd hr (v_As (da_p (pv 0)) (v_As (da_p (pv 1)) (v_As (da_p (pv 2)) das_nil)))) (de_callC (tC (f := j_from_right) T rfl) tk hgd hr (v_As (da_p (pv 0)) (v_As (da_p (pv 1)) (v_As (da_p (pv 2)) das_nil))))))))))
theorem sc__law_cell : FnScope ["_law_script", "_law_index"] ["_law_script", "_law_index"] (defScope st__law_cell) := ⟨rfl, rfl, rfl, by decide +kernel, rfl, by decide +kernel, by decide +kernel⟩
theorem bd__law_cell {fa : Addr} {fd : FuncData} (D : FnP K "_law_cell" "_law_cell" st__law_cell fa fd) : Binds K fd ["_law_script", "_law_index"] [] := D.bindsN fun _ _ _ _ _ _ us hl => match us, hl with | [_, _], _ => rfl
theorem f__law_cell (T : TableX P WorldI.w K mg base xa fns tab n) (h : Fx mg) {fa : Addr} {fd : FuncData} (D : FnP K "_law_cell" "_law_cell" st__law_cell fa fd) (hm : AtN K mg (.inl "_law_cell") fa) : Callee P WorldI.w K mg base xa (callD fns (n + 1)) (2 * n + 2) 10 (.inl "_law_cell") ["_law_script", "_law_index"] :=
  def_ok (fn := ⟨2, 2, ir__law_cell⟩) D hm sc__law_cell rfl rfl rfl (bd__law_cell D) fun cdv A outer s H E bo tk hgd hr1 hp => by
      have hr := hr1.mono (Nat.le_succ (2 * n))
      exact
      (dss_cons (ds_if (t_cmp (Cm.lt (hu64 hr)) (da_p (pv 1)) (da_e (u_len rfl h.b_len (da_p (pv 0))))) (dss_one (ds_ret (u_idx rfl (hu16 hr) (da_p (pv 0)) (da_p (pv 1))))) dss_nil)
      (dss_one (ds_ret u_int0)))
theorem sc__law_source : FnScope ["_law_cell_here"] ["_law_cell_here"] (defScope st__law_source) := ⟨rfl, rfl, rfl, by decide +kernel, rfl, by decide +kernel, by decide +kernel⟩
theorem bd__law_source {fa : Addr} {fd : FuncData} (D : FnP K "_law_source" "_law_source" st__law_source fa fd) : Binds K fd ["_law_cell_here"] [] := D.bindsN fun _ _ _ _ _ _ us hl => match us, hl with | [_], _ => rfl
theorem f__law_source (T : TableX P WorldI.w K mg base xa fns tab n) (h : Fx mg) {fa : Addr} {fd : FuncData} (D : FnP K "_law_source" "_law_source" st__law_source fa fd) (hm : AtN K mg (.inl "_law_source") fa) : Callee P WorldI.w K mg base xa (callD fns (n + 1)) (2 * n + 2) 11 (.inl "_law_source") ["_law_cell_here"] :=
  def_ok (fn := ⟨1, 1, ir__law_source⟩) D hm sc__law_source rfl rfl rfl (bd__law_source D) fun cdv A outer s H E bo tk hgd hr1 hp => by
      have hr := hr1.mono (Nat.le_succ (2 * n))
      exact
      (dss_one (ds_ret (v_lst (v_Ds (u_max2 rfl h.b_max (da_e u_int0) (da_e (u_sub (da_p (pv 0)) (da_e (u_pow (da_e u_int0) (da_e u_int0)))))) (v_Ds (u_add (da_e (u_mod (da_p (pv 0)) (da_e u_int0))) (da_e u_int0)) (v_Ds u_int0 dds_nil))))))
theorem sc__law_draw : FnScope ["_law_supply", "_law_many", "_law_found", "_law_mixed"] ["_law_supply", "_law_many"] (defScope st__law_draw) := ⟨rfl, rfl, rfl, by decide +kernel, rfl, by decide +kernel, by decide +kernel⟩
theorem bd__law_draw {fa : Addr} {fd : FuncData} (D : FnP K "_law_draw" "_law_draw" st__law_draw fa fd) : Binds K fd ["_law_supply", "_law_many"] [] := D.bindsN fun _ _ _ _ _ _ us hl => match us, hl with | [_, _], _ => rfl
theorem f__law_draw (T : TableX P WorldI.w K mg base xa fns tab n) (h : Fx mg) {fa : Addr} {fd : FuncData} (D : FnP K "_law_draw" "_law_draw" st__law_draw fa fd) (hm : AtN K mg (.inl "_law_draw") fa) : Callee P WorldI.w K mg base xa (callD fns (n + 1)) (2 * n + 2) 12 (.inl "_law_draw") ["_law_supply", "_law_many"] :=
  def_ok (fn := ⟨2, 4, ir__law_draw⟩) D hm sc__law_draw rfl rfl rfl (bd__law_draw D) fun cdv A outer s H E bo tk hgd hr1 hp => by
      have hr := hr1.mono (Nat.le_succ (2 * n))
      exact
      (dss_cons (ds_if (t_cmp Cm.gt (da_e (u_idx rfl (hu16 hr) (da_p (pv 0)) (da_e u_int0))) (da_e u_int0)) (dss_cons (s_set sc__law_draw.nd (u_mod (da_e (u_idx rfl (hu16 hr) (da_p (pv 0)) (da_e u_int0))) (da_p (pv 1))))
      (dss_cons (s_put (pv 0) u_int0 (u_fdiv (da_e (u_idx rfl (hu16 hr) (da_p (pv 0)) (da_e u_int0))) (da_p (pv 1))))
      (dss_one (ds_rtv (pv 2))))) dss_nil)
      (dss_cons (s_put (pv 0) u_int0 (u_add (da_e (u_idx rfl (hu16 hr) (da_p (pv 0)) (da_e u_int0))) (da_e u_int0)))
      (dss_cons (s_put (pv 0) u_int0 (u_mod (da_e (u_add (da_e (u_add (da_e (u_mul (da_e (u_idx rfl (hu16 hr) (da_p (pv 0)) (da_e u_int0))) (da_e u_int0))) (da_e (u_mul (da_e u_int0) (da_e (u_idx rfl (hu16 hr) (da_p (pv 0)) (da_e u_int0))))))) (da_e u_int0))) (da_e u_int0)))
      (dss_cons (s_set sc__law_draw.nd (u_mod (da_e (u_add (da_e (u_add (da_e (u_mul (da_e (u_idx rfl (hu16 hr) (da_p (pv 0)) (da_e u_int0))) (da_e (u_idx rfl (hu16 hr) (da_p (pv 0)) (da_e u_int0))))) (da_e (u_mul (da_e u_int0) (da_e (u_idx rfl (hu16 hr) (da_p (pv 0)) (da_e u_int0))))))) (da_e u_int0))) (da_e u_int0)))
      (dss_cons (s_set sc__law_draw.nd (u_mod (da_e (u_add (da_e (u_mul (da_p (pv 3)) (da_p (pv 3)))) (da_e (u_mul (da_e u_int0) (da_p (pv 3)))))) (da_e u_int0)))
      (dss_one (ds_ret (u_mod (da_e (u_fdiv (da_p (pv 3)) (da_e u_int0))) (da_p (pv 1))))))))))
theorem sc__law_choose : FnScope ["_law_supply", "_law_values"] ["_law_supply", "_law_values"] (defScope st__law_choose) := ⟨rfl, rfl, rfl, by decide +kernel, rfl, by decide +kernel, by decide +kernel⟩
theorem bd__law_choose {fa : Addr} {fd : FuncData} (D : FnP K "_law_choose" "_law_choose" st__law_choose fa fd) : Binds K fd ["_law_supply", "_law_values"] [] := D.bindsN fun _ _ _ _ _ _ us hl => match us, hl with | [_, _], _ => rfl
theorem f__law_choose (T : TableX P WorldI.w K mg base xa fns tab n) (h : Fx mg) {fa : Addr} {fd : FuncData} (D : FnP K "_law_choose" "_law_choose" st__law_choose fa fd) (hm : AtN K mg (.inl "_law_choose") fa) : Callee P WorldI.w K mg base xa (callD fns (n + 1)) (2 * n + 2) 13 (.inl "_law_choose") ["_law_supply", "_law_values"] :=
  def_ok (fn := ⟨2, 2, ir__law_choose⟩) D hm sc__law_choose rfl rfl rfl (bd__law_choose D) fun cdv A outer s H E bo tk hgd hr1 hp => by
      have hr := hr1.mono (Nat.le_succ (2 * n))
      exact
      (dss_one (ds_ret (u_idx rfl (hu16 hr) (da_p (pv 1)) (da_e (de_callC (tC (f := j__law_draw) T rfl) tk hgd hr (v_As (da_p (pv 0)) (v_As (da_e (u_len rfl h.b_len (da_p (pv 1)))) das_nil)))))))
theorem sc__law_is_equal : FnScope ["_law_actual", "_law_due_here"] ["_law_actual", "_law_due_here"] (defScope st__law_is_equal) := ⟨rfl, rfl, rfl, by decide +kernel, rfl, by decide +kernel, by decide +kernel⟩
theorem bd__law_is_equal {fa : Addr} {fd : FuncData} (D : FnP K "_law_is_equal" "_law_is_equal" st__law_is_equal fa fd) : Binds K fd ["_law_actual", "_law_due_here"] [] := D.bindsN fun _ _ _ _ _ _ us hl => match us, hl with | [_, _], _ => rfl
theorem f__law_is_equal (T : TableX P WorldI.w K mg base xa fns tab n) (h : Fx mg) {fa : Addr} {fd : FuncData} (D : FnP K "_law_is_equal" "_law_is_equal" st__law_is_equal fa fd) (hm : AtN K mg (.inl "_law_is_equal") fa) : Callee P WorldI.w K mg base xa (callD fns (n + 1)) (2 * n + 2) 14 (.inl "_law_is_equal") ["_law_actual", "_law_due_here"] :=
  def_ok (fn := ⟨2, 2, ir__law_is_equal⟩) D hm sc__law_is_equal rfl rfl rfl (bd__law_is_equal D) fun cdv A outer s H E bo tk hgd hr1 hp => by
      have hr := hr1.mono (Nat.le_succ (2 * n))
      exact
      (dss_one (ds_ret (u_cmp (Cm.eq (hu64 hr)) (da_e (u_repr hgd hr h.b_repr (da_p (pv 0)))) (da_e (u_repr hgd hr h.b_repr (da_p (pv 1)))))))
theorem sc__law_machine : FnScope ["_law_supply", "_law_most", "_law_letters", "_law_many", "_law_way", "_law_goals", "_law_moves", "_law_shift", "_law_side", "_law_outs", "_law_start", "_law_letter", "_law_state", "_law_goal", "_law_row"] ["_law_supply", "_law_most"] (defScope st__law_machine) := ⟨rfl, rfl, rfl, by decide +kernel, rfl, by decide +kernel, by decide +kernel⟩
theorem bd__law_machine {fa : Addr} {fd : FuncData} (D : FnP K "_law_machine" "_law_machine" st__law_machine fa fd) : Binds K fd ["_law_supply", "_law_most"] [] := D.bindsN fun _ _ _ _ _ _ us hl => match us, hl with | [_, _], _ => rfl
theorem f__law_machine (T : TableX P WorldI.w K mg base xa fns tab n) (h : Fx mg) {fa : Addr} {fd : FuncData} (D : FnP K "_law_machine" "_law_machine" st__law_machine fa fd) (hm : AtN K mg (.inl "_law_machine") fa) : Callee P WorldI.w K mg base xa (callD fns (n + 1)) (2 * n + 2) 15 (.inl "_law_machine") ["_law_supply", "_law_most"] :=
  def_ok (fn := ⟨2, 15, ir__law_machine⟩) D hm sc__law_machine rfl rfl rfl (bd__law_machine D) fun cdv A outer s H E bo tk hgd hr1 hp => by
      have hr := hr1.mono (Nat.le_succ (2 * n))
      exact
      (dss_cons (s_unp rfl (v_tup (v_Ds (de_callC (tC (f := j__law_choose) T rfl) tk hgd hr (v_As (da_p (pv 0)) (v_As (da_e (v_lst (v_Ds u_int0 (v_Ds u_int0 (v_Ds u_int0 dds_nil))))) das_nil))) (v_Ds (u_add (da_e u_int0) (da_e (de_callC (tC (f := j__law_draw) T rfl) tk hgd hr (v_As (da_p (pv 0)) (v_As (da_p (pv 1)) das_nil))))) (v_Ds (de_callC (tC (f := j__law_draw) T rfl) tk hgd hr (v_As (da_p (pv 0)) (v_As (da_e u_int0) das_nil))) dds_nil)))) (g_cons sc__law_machine.nd (g_cons sc__law_machine.nd (g_cons sc__law_machine.nd g_nil))))
      (dss_cons (s_set sc__law_machine.nd (v_lc [("_law_letter", 11)] rfl sc__law_machine.nd tg_nm (v_r1 h.b_range (de_var (pv 2))) (blkOk_by (by kernel_rfl)) (fun _ _ _ _ _ => (g_nm sc__law_machine.nd)) (fun _ _ _ _ _ => dts_nil) (fun _ _ _ _ _ => (de_callC (tC (f := j__law_draw) T rfl) tk0 hgd hr (v_As (da_p (pv 0)) (v_As (da_p (pv 3)) das_nil))))))
      (dss_cons (s_setLc [("_law_state", 12)] rfl sc__law_machine.nd tg_nm (v_r1 h.b_range (de_var (pv 3))) (blkOk_by (by kernel_rfl)) (fun _ _ _ _ _ => (g_nm sc__law_machine.nd)) (fun _ _ _ _ _ => dts_nil) (fun _ _ _ _ _ => (v_lc [("_law_letter", 11)] rfl sc__law_machine.nd tg_nm (v_r1 h.b_range (de_var (pv 2))) (blkOk_by (by kernel_rfl)) (fun _ _ _ _ _ => (g_nm sc__law_machine.nd)) (fun _ _ _ _ _ => dts_nil) (fun _ _ _ _ _ => (de_callC (tC (f := j__law_draw) T rfl) tk0 hgd hr (v_As (da_p (pv 0)) (v_As (da_p (pv 3)) das_nil)))))))
      (dss_cons (ds_if (t_cmp (Cm.eq (hu64 hr)) (da_p (pv 4)) (da_e u_int0)) (dss_one (s_setLc [("_law_state", 12)] rfl sc__law_machine.nd tg_nm (v_r1 h.b_range (de_var (pv 3))) (blkOk_by (by kernel_rfl)) (fun _ _ _ _ _ => (g_nm sc__law_machine.nd)) (fun _ _ _ _ _ => dts_nil) (fun _ _ _ _ _ => (v_lc [("_law_goal", 13)] rfl sc__law_machine.nd tg_nm (di_own (pv 5)) (blkOk_by (by kernel_rfl)) (fun _ _ _ _ _ => (g_nm sc__law_machine.nd)) (fun _ _ _ _ _ => dts_nil) (fun _ _ _ _ _ => (u_mod (da_e (u_add (da_p (pv 12)) (da_p (pv 13)))) (da_p (pv 3)))))))) dss_nil)
      (dss_cons (ds_if (t_cmp (Cm.eq (hu64 hr)) (da_p (pv 4)) (da_e u_int0)) (dss_one (s_setLc [("_law_state", 12)] rfl sc__law_machine.nd tg_nm (v_r1 h.b_range (de_var (pv 3))) (blkOk_by (by kernel_rfl)) (fun _ _ _ _ _ => (g_nm sc__law_machine.nd)) (fun _ _ _ _ _ => dts_nil) (fun _ _ _ _ _ => (v_lc [("_law_goal", 13)] rfl sc__law_machine.nd tg_nm (di_own (pv 5)) (blkOk_by (by kernel_rfl)) (fun _ _ _ _ _ => (g_nm sc__law_machine.nd)) (fun _ _ _ _ _ => dts_nil) (fun _ _ _ _ _ => (u_max2 rfl h.b_max (da_p (pv 12)) (da_p (pv 13)))))))) dss_nil)
      (dss_cons (ds_if (t_cmp (Cm.eq (hu64 hr)) (da_p (pv 4)) (da_e u_int0)) (dss_one (s_setLc [("_law_state", 12)] rfl sc__law_machine.nd tg_nm (v_r1 h.b_range (de_var (pv 3))) (blkOk_by (by kernel_rfl)) (fun _ _ _ _ _ => (g_nm sc__law_machine.nd)) (fun _ _ _ _ _ => dts_nil) (fun _ _ _ _ _ => (de_var (pv 5))))) dss_nil)
      (dss_cons (ds_if (t_cmp (Cm.eq (hu64 hr)) (da_p (pv 4)) (da_e u_int0)) (dss_one (s_set sc__law_machine.nd (u_add (da_e (v_lst (v_Ds (de_var (pv 5)) dds_nil))) (da_e (v_lc [("_law_state", 12)] rfl sc__law_machine.nd tg_nm (v_r2 h.b_range u_int0 (de_var (pv 3))) (blkOk_by (by kernel_rfl)) (fun _ _ _ _ _ => (g_nm sc__law_machine.nd)) (fun _ _ _ _ _ => dts_nil) (fun _ _ _ _ _ => (u_mul (da_e (v_lst (v_Ds (de_var (pv 12)) dds_nil))) (da_p (pv 2))))))))) dss_nil)
      (dss_cons (s_unp rfl (v_tup (v_Ds (de_callC (tC (f := j__law_draw) T rfl) tk hgd hr (v_As (da_p (pv 0)) (v_As (da_e u_int0) das_nil))) (v_Ds (de_callC (tC (f := j__law_choose) T rfl) tk hgd hr (v_As (da_p (pv 0)) (v_As (da_e (v_lst (v_Ds u_str0 (v_Ds u_str0 dds_nil)))) das_nil))) dds_nil))) (g_cons sc__law_machine.nd (g_cons sc__law_machine.nd g_nil)))
      (dss_cons (s_setLc [("_law_state", 12)] rfl sc__law_machine.nd tg_nm (v_r1 h.b_range (de_var (pv 3))) (blkOk_by (by kernel_rfl)) (fun _ _ _ _ _ => (g_nm sc__law_machine.nd)) (fun _ _ _ _ _ => dts_nil) (fun _ _ _ _ _ => (u_mod (da_e (u_add (da_e (u_mul (da_e u_int0) (da_p (pv 12)))) (da_p (pv 7)))) (da_e u_int0))))
      (dss_cons (ds_if (t_cmp (Cm.eq (hu64 hr)) (da_e (de_callC (tC (f := j__law_draw) T rfl) tk hgd hr (v_As (da_p (pv 0)) (v_As (da_e u_int0) das_nil)))) (da_e u_int0)) (dss_one (s_setLc [("_law_state", 12)] rfl sc__law_machine.nd tg_nm (v_r1 h.b_range (de_var (pv 3))) (blkOk_by (by kernel_rfl)) (fun _ _ _ _ _ => (g_nm sc__law_machine.nd)) (fun _ _ _ _ _ => dts_nil) (fun _ _ _ _ _ => (de_callC (tC (f := j__law_draw) T rfl) tk0 hgd hr (v_As (da_p (pv 0)) (v_As (da_e u_int0) das_nil)))))) dss_nil)
      (dss_cons (s_set sc__law_machine.nd (de_ite (t_cmp (Cm.eq (hu64 hr)) (da_e (de_callC (tC (f := j__law_draw) T rfl) tk hgd hr (v_As (da_p (pv 0)) (v_As (da_e u_int0) das_nil)))) (da_e u_int0)) (de_callC (tC (f := j__law_draw) T rfl) tk hgd hr (v_As (da_p (pv 0)) (v_As (da_p (pv 3)) das_nil))) u_int0))
      (dss_one (ds_ret (v_tup (v_Ds (de_var (pv 2)) (v_Ds (de_var (pv 8)) (v_Ds (de_var (pv 10)) (v_Ds (u_tup h.b_tuple (da_e (v_lc [("_law_row", 14)] rfl sc__law_machine.nd tg_nm (di_own (pv 6)) (blkOk_by (by kernel_rfl)) (fun _ _ _ _ _ => (g_nm sc__law_machine.nd)) (fun _ _ _ _ _ => dts_nil) (fun _ _ _ _ _ => (u_tup h.b_tuple (da_p (pv 14))))))) (v_Ds (u_tup h.b_tuple (da_p (pv 9))) dds_nil)))))))))))))))))))
theorem sc__law_map : FnScope ["_law_machine_here", "_law_word", "_law_found", "_law_letter", "_law_state"] ["_law_machine_here", "_law_word"] (defScope st__law_map) := ⟨rfl, rfl, rfl, by decide +kernel, rfl, by decide +kernel, by decide +kernel⟩
theorem bd__law_map {fa : Addr} {fd : FuncData} (D : FnP K "_law_map" "_law_map" st__law_map fa fd) : Binds K fd ["_law_machine_here", "_law_word"] [] := D.bindsN fun _ _ _ _ _ _ us hl => match us, hl with | [_, _], _ => rfl
theorem f__law_map (T : TableX P WorldI.w K mg base xa fns tab n) (h : Fx mg) {fa : Addr} {fd : FuncData} (D : FnP K "_law_map" "_law_map" st__law_map fa fd) (hm : AtN K mg (.inl "_law_map") fa) : Callee P WorldI.w K mg base xa (callD fns (n + 1)) (2 * n + 2) 16 (.inl "_law_map") ["_law_machine_here", "_law_word"] :=
  def_ok (fn := ⟨2, 5, ir__law_map⟩) D hm sc__law_map rfl rfl rfl (bd__law_map D) fun cdv A outer s H E bo tk hgd hr1 hp => by
      have hr := hr1.mono (Nat.le_succ (2 * n))
      exact
      (dss_cons (s_set sc__law_map.nd (v_lisR rfl h.b_list (v_q1 h.b_range (u_len rfl h.b_len (da_e (u_idx rfl (hu16 hr) (da_p (pv 0)) (da_e u_int0)))))))
      (dss_cons (s_for hp rfl tg_nm (di_its (de_ite (t_cmp (Cm.eq (hu64 hr)) (da_e (u_idx rfl (hu16 hr) (da_p (pv 0)) (da_e u_int0))) (da_e u_str0)) (de_var (pv 1)) (de_rev (da_p (pv 1))))) (g_nm sc__law_map.nd)
      (dss_one (s_setLc [("_law_state", 4)] rfl sc__law_map.nd tg_nm (di_own (pv 2)) (blkOk_by (by kernel_rfl)) (fun _ _ _ _ _ => (g_nm sc__law_map.nd)) (fun _ _ _ _ _ => dts_nil) (fun _ _ _ _ _ => (u_idx rfl (hu16 hr) (da_e (u_idx rfl (hu16 hr) (da_e (u_idx rfl (hu16 hr) (da_p (pv 0)) (da_e u_int0))) (da_p (pv 4)))) (da_p (pv 3)))))))
      (dss_one (ds_ret (u_tup h.b_tuple (da_p (pv 2)))))))
theorem sc__law_reached : FnScope ["_law_machine_here", "_law_begun", "_law_many", "_law_found", "_law_turn", "_law_later", "_law_state", "_law_place"] ["_law_machine_here", "_law_begun", "_law_many"] (defScope st__law_reached) := ⟨rfl, rfl, rfl, by decide +kernel, rfl, by decide +kernel, by decide +kernel⟩
theorem bd__law_reached {fa : Addr} {fd : FuncData} (D : FnP K "_law_reached" "_law_reached" st__law_reached fa fd) : Binds K fd ["_law_machine_here", "_law_begun", "_law_many"] [] := D.bindsN fun _ _ _ _ _ _ us hl => match us, hl with | [_, _, _], _ => rfl
theorem f__law_reached (T : TableX P WorldI.w K mg base xa fns tab n) (h : Fx mg) {fa : Addr} {fd : FuncData} (D : FnP K "_law_reached" "_law_reached" st__law_reached fa fd) (hm : AtN K mg (.inl "_law_reached") fa) : Callee P WorldI.w K mg base xa (callD fns (n + 1)) (2 * n + 2) 17 (.inl "_law_reached") ["_law_machine_here", "_law_begun", "_law_many"] :=
  def_ok (fn := ⟨3, 8, ir__law_reached⟩) D hm sc__law_reached rfl rfl rfl (bd__law_reached D) fun cdv A outer s H E bo tk hgd hr1 hp => by
      have hr := hr1.mono (Nat.le_succ (2 * n))
      exact
      (dss_cons (s_set sc__law_reached.nd (u_lis h.b_list (da_p (pv 1))))
      (dss_cons (s_for hp rfl tg_nm (v_r1 h.b_range (de_var (pv 2))) (g_nm sc__law_reached.nd)
      (dss_cons (s_set sc__law_reached.nd (v_lst dds_nil))
      (dss_cons (s_for hp rfl tg_nm (di_own (pv 3)) (g_nm sc__law_reached.nd)
      (dss_one (s_set sc__law_reached.nd (u_add (da_p (pv 5)) (da_e (v_lc [("_law_place", 7)] rfl sc__law_reached.nd tg_nm (di_its (u_idx rfl (hu16 hr) (da_e (u_idx rfl (hu16 hr) (da_p (pv 0)) (da_e u_int0))) (da_p (pv 6)))) (blkOk_by (by kernel_rfl)) (fun _ _ _ _ _ => (g_nm sc__law_reached.nd)) (fun _ _ _ _ _ => (dts_one (t_cmp (Cm.notin rfl (hu66 hr)) (da_p (pv 7)) (da_p (pv 5))))) (fun _ _ _ _ _ => (de_var (pv 7)))))))))
      (dss_one (s_set sc__law_reached.nd (de_var (pv 5)))))))
      (dss_one (ds_rtv (pv 3)))))
theorem sc__law_has : FnScope ["_law_machine_here", "_law_word", "_law_many", "_law_value", "_law_own", "_law_last", "_law_state"] ["_law_machine_here", "_law_word", "_law_many", "_law_value"] (defScope st__law_has) := ⟨rfl, rfl, rfl, by decide +kernel, rfl, by decide +kernel, by decide +kernel⟩
theorem bd__law_has {fa : Addr} {fd : FuncData} (D : FnP K "_law_has" "_law_has" st__law_has fa fd) : Binds K fd ["_law_machine_here", "_law_word", "_law_many", "_law_value"] [] := D.bindsN fun _ _ _ _ _ _ us hl => match us, hl with | [_, _, _, _], _ => rfl
theorem f__law_has (T : TableX P WorldI.w K mg base xa fns tab n) (h : Fx mg) {fa : Addr} {fd : FuncData} (D : FnP K "_law_has" "_law_has" st__law_has fa fd) (hm : AtN K mg (.inl "_law_has") fa) : Callee P WorldI.w K mg base xa (callD fns (n + 1)) (2 * n + 2) 18 (.inl "_law_has") ["_law_machine_here", "_law_word", "_law_many", "_law_value"] :=
  def_ok (fn := ⟨4, 7, ir__law_has⟩) D hm sc__law_has rfl rfl rfl (bd__law_has D) fun cdv A outer s H E bo tk hgd hr1 hp => by
      have hr := hr1.mono (Nat.le_succ (2 * n))
      exact
      (dss_cons (s_set sc__law_has.nd (de_callC (tC (f := j__law_map) T rfl) tk hgd hr (v_As (da_p (pv 0)) (v_As (da_p (pv 1)) das_nil))))
      (dss_cons (ds_if (t_cmp (Cm.eq (hu64 hr)) (da_e (u_idx rfl (hu16 hr) (da_p (pv 0)) (da_e u_int0))) (da_e u_str0)) (dss_one (s_set sc__law_has.nd (de_callC (tC (f := j__law_reached) T rfl) tk hgd hr (v_As (da_p (pv 0)) (v_As (da_e (v_lst (v_Ds (u_idx rfl (hu16 hr) (da_p (pv 4)) (da_e (u_idx rfl (hu16 hr) (da_p (pv 0)) (da_e u_int0)))) dds_nil))) (v_As (da_p (pv 2)) das_nil)))))) (dss_one (s_setLc [("_law_state", 6)] rfl sc__law_has.nd tg_nm (di_its (de_callC (tC (f := j__law_reached) T rfl) tk hgd hr (v_As (da_p (pv 0)) (v_As (da_e (v_lst (v_Ds (u_idx rfl (hu16 hr) (da_p (pv 0)) (da_e u_int0)) dds_nil))) (v_As (da_p (pv 2)) das_nil))))) (blkOk_by (by kernel_rfl)) (fun _ _ _ _ _ => (g_nm sc__law_has.nd)) (fun _ _ _ _ _ => dts_nil) (fun _ _ _ _ _ => (u_idx rfl (hu16 hr) (da_p (pv 4)) (da_p (pv 6)))))))
      (dss_one (ds_ret (u_cmp (Cm.ne (hu64 hr)) (da_e (v_lc [("_law_state", 6)] rfl sc__law_has.nd tg_nm (di_own (pv 5)) (blkOk_by (by kernel_rfl)) (fun _ _ _ _ _ => (g_nm sc__law_has.nd)) (fun _ _ _ _ _ => (dts_one (t_cmp (Cm.eq (hu64 hr)) (da_e (u_idx rfl (hu16 hr) (da_e (u_idx rfl (hu16 hr) (da_p (pv 0)) (da_e u_int0))) (da_p (pv 6)))) (da_p (pv 3))))) (fun _ _ _ _ _ => u_int0))) (da_e (v_lst dds_nil)))))))
theorem sc__law_due : FnScope ["_law_machine_here", "_law_many", "_law_value", "_law_found", "_law_turn", "_law_able", "_law_one"] ["_law_machine_here", "_law_many", "_law_value"] (defScope st__law_due) := ⟨rfl, rfl, rfl, by decide +kernel, rfl, by decide +kernel, by decide +kernel⟩
theorem bd__law_due {fa : Addr} {fd : FuncData} (D : FnP K "_law_due" "_law_due" st__law_due fa fd) : Binds K fd ["_law_machine_here", "_law_many", "_law_value"] [] := D.bindsN fun _ _ _ _ _ _ us hl => match us, hl with | [_, _, _], _ => rfl
theorem f__law_due (T : TableX P WorldI.w K mg base xa fns tab n) (h : Fx mg) {fa : Addr} {fd : FuncData} (D : FnP K "_law_due" "_law_due" st__law_due fa fd) (hm : AtN K mg (.inl "_law_due") fa) : Callee P WorldI.w K mg base xa (callD fns (n + 1)) (2 * n + 2) 19 (.inl "_law_due") ["_law_machine_here", "_law_many", "_law_value"] :=
  def_ok (fn := ⟨3, 7, ir__law_due⟩) D hm sc__law_due rfl rfl rfl (bd__law_due D) fun cdv A outer s H E bo tk hgd hr1 hp => by
      have hr := hr1.mono (Nat.le_succ (2 * n))
      exact
      (dss_cons (ds_if (dt_no (t_val (da_e (de_callC (tC (f := j__law_has) T rfl) tk hgd hr (v_As (da_p (pv 0)) (v_As (da_e (v_tup dds_nil)) (v_As (da_p (pv 1)) (v_As (da_p (pv 2)) das_nil)))))))) (dss_one (ds_ret u_non0)) dss_nil)
      (dss_cons (s_set sc__law_due.nd (v_tup dds_nil))
      (dss_cons (s_for hp rfl tg_nm (v_r1 h.b_range (de_var (pv 1))) (g_nm sc__law_due.nd)
      (dss_cons (s_setLc [("_law_one", 6)] rfl sc__law_due.nd tg_nm (v_r1 h.b_range (u_idx rfl (hu16 hr) (da_p (pv 0)) (da_e u_int0))) (blkOk_by (by kernel_rfl)) (fun _ _ _ _ _ => (g_nm sc__law_due.nd)) (fun _ _ _ _ _ => (dts_one (t_val (da_e (de_callC (tC (f := j__law_has) T rfl) tk0 hgd hr (v_As (da_p (pv 0)) (v_As (da_e (u_add (da_p (pv 3)) (da_e (v_tup (v_Ds (de_var (pv 6)) dds_nil))))) (v_As (da_e (u_sub (da_e (u_sub (da_p (pv 1)) (da_p (pv 4)))) (da_e u_int0))) (v_As (da_p (pv 2)) das_nil))))))))) (fun _ _ _ _ _ => (de_var (pv 6))))
      (dss_one (s_set sc__law_due.nd (u_add (da_p (pv 3)) (da_e (v_tup (v_Ds (u_idx rfl (hu16 hr) (da_p (pv 5)) (da_e u_int0)) dds_nil))))))))
      (dss_one (ds_rtv (pv 3))))))
theorem sc_law : FnScope ["_law_script", "_law_k", "_law_supply", "_law_lap", "_law_machine_here", "_law_many", "_law_value", "_law_kept", "_law_due_here", "_law_told", "_law_turn"] ["_law_script"] (defScope st_law) := ⟨rfl, rfl, rfl, by decide +kernel, rfl, by decide +kernel, by decide +kernel⟩
theorem bd_law {fa : Addr} {fd : FuncData} (D : FnP K "law" "law" st_law fa fd) : Binds K fd ["_law_script"] [] := D.bindsN fun _ _ _ _ _ _ us hl => match us, hl with | [_], _ => rfl
theorem f_law (T : TableX P WorldI.w K mg base xa fns tab n) (h : Fx mg) {fa : Addr} {fd : FuncData} (D : FnP K "law" "law" st_law fa fd) (hm : AtN K mg (.inl "law") fa) : Callee P WorldI.w K mg base xa (callD fns (n + 1)) (2 * n + 2) 20 (.inl "law") ["_law_script"] :=
  def_ok (fn := ⟨1, 11, ir_law⟩) D hm sc_law rfl rfl rfl (bd_law D) fun cdv A outer s H E bo tk hgd hr1 hp => by
      have hr := hr1.mono (Nat.le_succ (2 * n))
      exact
      (dss_cons (s_for hp rfl tg_nm (v_r1 h.b_range (u_max2 rfl h.b_max (da_e u_int0) (da_e (u_min2 rfl (hu64 hr) h.b_min (da_e (u_len rfl h.b_len (da_p (pv 0)))) (da_e u_int0))))) (g_nm sc_law.nd)
      (dss_cons (s_set sc_law.nd (de_callC (tC (f := j__law_source) T rfl) tk hgd hr (v_As (da_e (de_callC (tC (f := j__law_cell) T rfl) tk hgd hr (v_As (da_p (pv 0)) (v_As (da_p (pv 1)) das_nil)))) das_nil)))
      (dss_one (s_for hp rfl tg_nm (v_r1 h.b_range u_int0) (g_nm sc_law.nd)
      (dss_cons (s_set sc_law.nd (de_callC (tC (f := j__law_machine) T rfl) tk hgd hr (v_As (da_p (pv 2)) (v_As (da_e u_int0) das_nil))))
      (dss_one (s_for hp rfl tg_nm (di_its (v_lst (v_Ds u_int0 (v_Ds u_int0 (v_Ds (de_callC (tC (f := j__law_draw) T rfl) tk hgd hr (v_As (da_p (pv 2)) (v_As (da_e u_int0) das_nil))) (v_Ds (u_idx rfl (hu16 hr) (da_e (v_lst (v_Ds (de_callC (tC (f := j__law_draw) T rfl) tk hgd hr (v_As (da_p (pv 2)) (v_As (da_e u_int0) das_nil))) (v_Ds u_int0 (v_Ds u_int0 dds_nil))))) (da_p (pv 3))) dds_nil)))))) (g_nm sc_law.nd)
      (dss_one (s_for hp rfl tg_nm (di_its (de_ite (t_cmp (Cm.lt (hu64 hr)) (da_p (pv 5)) (da_e u_int0)) (v_lisR rfl h.b_list (v_q1 h.b_range u_int0)) (u_idx rfl (hu16 hr) (da_p (pv 4)) (da_e u_int0)))) (g_nm sc_law.nd)
      (dss_cons (s_par2 rfl sc_law.nd (v_Ws (u_repr hgd hr h.b_repr (da_p (pv 4))) (v_Ws (de_callC (tC (f := j__law_due) T rfl) tk hgd hr (v_As (da_p (pv 4)) (v_As (da_p (pv 5)) (v_As (da_p (pv 6)) das_nil)))) dws_nil)))
      (dss_cons (s_setLc [("_law_turn", 10)] rfl sc_law.nd tg_nm (v_r1 h.b_range u_int0) (blkOk_by (by kernel_rfl)) (fun _ _ _ _ _ => (g_nm sc_law.nd)) (fun _ _ _ _ _ => dts_nil) (fun _ _ _ _ _ => (de_callC (tC (f := j_with_result) T rfl) tk0 hgd hr (v_As (da_p (pv 4)) (v_As (da_p (pv 5)) (v_As (da_p (pv 6)) das_nil))))))
      (dss_one (ds_if ((dw_or (dt_no (t_val (da_e (de_callC (tC (f := j__law_is_equal) T rfl) tk hgd hr (v_As (da_p (pv 9)) (v_As (da_e (v_lst (v_Ds (de_var (pv 8)) (v_Ds (de_var (pv 8)) dds_nil)))) das_nil)))))) (dw_or1 (t_cmp (Cm.ne (hu64 hr)) (da_e (u_repr hgd hr h.b_repr (da_p (pv 4)))) (da_p (pv 7)))))).pt (dss_one (ds_ret u_bl0)) dss_nil)))))))))))))
      (dss_one (ds_ret u_bl0)))
end
end Lk44

end

section
section
set_option maxRecDepth 100000
set_option maxHeartbeats 2000000
namespace Lk44
open PySem Sf
theorem ixN30 : L2.ixN 3 0 = some 0 := by decide
theorem ixN31 : L2.ixN 3 1 = some 1 := by decide
theorem ixN32 : L2.ixN 3 2 = some 2 := by decide
theorem mod_b (x m : Int) (h : 0 < m) (hm : m < 2 ^ 63) : (x % m).natAbs < 2 ^ 64 := by
  have := Int.emod_lt_of_pos x h
  have := Int.emod_nonneg x (Int.ne_of_gt h)
  omega
/-- a supply that may still be drawn from N times -/
def PenI (N : Nat) (p : List D) : Prop := ∃ a b c : Int, p = [.int a, .int b, .int c] ∧ 0 ≤ a ∧ 0 ≤ b ∧ b < 2 ^ 31 ∧ 0 ≤ c ∧ c + N < 2 ^ 50
theorem PenI.mono {N M : Nat} {p : List D} (h : PenI N p) (l : M ≤ N) : PenI M p := by
  obtain ⟨a, b, c, e, h1, h2, h3, h4, h5⟩ := h
  exact ⟨a, b, c, e, h1, h2, h3, h4, by omega⟩
theorem draw_ok (n : Nat) {N : Nat} {p : List D} {m : Int} (hp : PenI (N + 1) p) (hm : 1 ≤ m) (hm2 : m < 1073741824) :
    ∃ (d : Int) (p' : List D), callD fns (n + 1) j__law_draw [.ol p, .fz (.int m)] = .ret (.fz (.int d)) [.ol p', .fz (.int m)] ∧ PenI N p' ∧ 0 ≤ d ∧ d < m := by
  obtain ⟨a, b, c, rfl, ha, hb, hb2, hc, hc2⟩ := hp
  have hm0 : 0 < m := by omega
  rw [call_eq (fn := ⟨2, 4, ir__law_draw⟩) rfl rfl]
  by_cases h0 : 0 < a
  · refine ⟨a % m, [.int (a / m), .int b, .int c], ?_, ⟨a / m, b, c, rfl, Int.ediv_nonneg ha (by omega), hb, hb2, hc, by omega⟩, Int.emod_nonneg a (by omega), Int.emod_lt_of_pos a hm0⟩
    simp [ir__law_draw, ixN30, ixN31, ixN32, p_mod, p_fdiv, hm0, hm2, h0, stoS, endR]
  · have e0 : a = 0 := by omega
    subst e0
    have m1 : mulOk b 48271 = true := mulOk_r (by decide)
    have m2 : mulOk 1009 (c + 1) = true := mulOk_l (by decide)
    have m3 : ∀ x : Int, mulOk (x % 2147483647) (x % 2147483647) = true := fun x => mulOk_l (mod_b x _ (by decide) (by decide))
    have m4 : ∀ x : Int, mulOk 69621 x = true := fun x => mulOk_l (by decide)
    have m5 : ∀ x : Int, mulOk (x % 2147483629) (x % 2147483629) = true := fun x => mulOk_l (mod_b x _ (by decide) (by decide))
    have m6 : ∀ x : Int, mulOk 40014 x = true := fun x => mulOk_l (by decide)
    generalize hs : (b * 48271 + 1009 * (c + 1) + 7) % 2147483647 = s
    have hs1 : 0 ≤ s := by rw [← hs]; exact Int.emod_nonneg _ (by decide)
    have hs2 : s < 2147483647 := by rw [← hs]; exact Int.emod_lt_of_pos _ (by decide)
    have m3' : mulOk s s = true := by rw [← hs]; exact m3 _
    generalize ht : (s * s + 69621 * s + 11) % 2147483629 = t
    have m5' : mulOk t t = true := by rw [← ht]; exact m5 _
    refine ⟨((t * t + 40014 * t) % 2147483587 / 16) % m, [.int 0, .int s, .int (c + 1)], ?_, ⟨0, s, c + 1, rfl, by omega, hs1, by omega, by omega, by omega⟩, Int.emod_nonneg _ (by omega), Int.emod_lt_of_pos _ hm0⟩
    simp [ir__law_draw, ixN30, ixN31, ixN32, p_mod, p_fdiv, m1, m2, m4, m6, hm0, stoS, endR, hs, m3', ht, m5']
theorem rangeD_nat (k : Nat) (h : k ≤ 16777216) : rangeD 0 (k : Int) = some ((List.range k).map fun i => PyData.int (0 + (i : Nat))) := by
  unfold rangeD lineN
  rw [if_pos (by omega)]
  have : ((k : Int) - 0).toNat = k := by omega
  rw [this]
theorem cell_ok (n : Nat) (ns : List Int) (k : Nat) : ∃ c : Int, callD fns (n + 1) j__law_cell [.scr ns, .fz (.int k)] = .ret (.fz (.int c)) [.scr ns, .fz (.int k)] := by
  by_cases h : k < ns.length
  · refine ⟨ns[k], ?_⟩
    rw [call_eq (fn := ⟨2, 2, ir__law_cell⟩) rfl rfl]
    simp [ir__law_cell, endR, h, atD_nat]
  · refine ⟨0, ?_⟩
    rw [call_eq (fn := ⟨2, 2, ir__law_cell⟩) rfl rfl]
    simp [ir__law_cell, endR, h]
theorem p_pow10 : op2 .pow (.fz (.int 10)) (.fz (.int 18)) = some (.fz (.int 1000000000000000000)) := by kernel_rfl
theorem pen_ok (n : Nat) (c : Int) : ∃ p : List D, callD fns (n + 1) j__law_source [.fz (.int c)] = .ret (.ol p) [.fz (.int c)] ∧ PenI (2 ^ 49) p := by
  have h0 := Int.emod_nonneg c (show (2147483629 : Int) ≠ 0 by decide)
  have h1 := Int.emod_lt_of_pos c (show (0 : Int) < 2147483629 by decide)
  refine ⟨[.int (if c - 1000000000000000000 > 0 then c - 1000000000000000000 else 0), .int (c % 2147483629 + 1), .int 0], ?_, _, _, _, rfl, ?_, by omega, by omega, by omega, by decide⟩
  · rw [call_eq (fn := ⟨1, 1, ir__law_source⟩) rfl rfl]
    simp [ir__law_source, endR, p_pow10, p_mod]
  · split <;> omega
end Lk44

end

section
set_option maxRecDepth 100000
set_option maxHeartbeats 1000000
namespace Lk44
open PySem Sf
theorem stir_b (x m : Int) (h : 0 < m) (hm : m < 2 ^ 63) : (x % m).natAbs < 2 ^ 64 := by
  have := Int.emod_lt_of_pos x h
  have := Int.emod_nonneg x (Int.ne_of_gt h)
  omega
/-- a word -/
abbrev tI (l : List Int) : D := .tuple (l.map .int)
abbrev In (m : Int) (l : List Int) : Prop := ∀ x ∈ l, 0 ≤ x ∧ x < m
theorem word_loop (n : Nat) (m : Int) (b : Option W) (hm : 1 ≤ m) (hm2 : m < 1073741824) : ∀ (ds : List D) (N : Nat) (p : List D), PenI (N + ds.length) p →
    ∃ (l : List Int) (p' : List D), mapR (lcT (callD fns (n + 1)) (.call j__law_draw (.cons (.p 0) (.cons (.p 1) .nil))) (.nm 3) .tt) ds [some (.ol p), some (.fz (.int m)), b, none] = .ok (l.map .int) [some (.ol p'), some (.fz (.int m)), b, none] ∧ PenI N p' ∧ l.length = ds.length ∧ In m l
  | [], N, p, hp => ⟨[], p, rfl, hp, rfl, fun x h => by cases h⟩
  | d :: ds, N, p, hp => by
    obtain ⟨x, p1, e1, hp1, h0, h1⟩ := draw_ok n (N := N + ds.length) (p := p) (m := m) (hp.mono (by simp; omega)) hm hm2
    obtain ⟨l, p2, e2, hp2, hl, hi⟩ := word_loop n m b hm hm2 ds N p1 hp1
    refine ⟨x :: l, p2, ?_, hp2, by simp [hl], fun y hy => ?_⟩
    · rw [mapR]
      simp [lcT, callR, apart, back, e1, e2]
    · rcases List.mem_cons.mp hy with rfl | hy
      · exact ⟨h0, h1⟩
      · exact hi y hy
end Lk44

end

section
set_option maxRecDepth 100000
set_option maxHeartbeats 1000000
namespace Lk44
open PySem Sf
theorem set_back {T : Sto} {j : Nat} {w : W} (h : T[j]? = some none) : (setS T j w).set j none = T := by
  unfold setS
  rw [List.set_set]
  refine List.ext_getElem? fun i => ?_
  by_cases e : j = i
  · subst e
    rw [List.getElem?_set_self (List.getElem?_eq_some_iff.mp h).1, h]
  · rw [List.getElem?_set_ne e]
theorem getS_setS {T : Sto} {i j : Nat} {w : W} (h : i ≠ j) : getS (setS T j w) i = getS T i := by
  unfold getS setS
  rw [List.getElem?_set_ne fun e => h e.symm]
/-- [draw(pen, m) for v in ..] -/
theorem draws_var (n : Nat) (m : Int) (i j : Nat) (T : Sto) (hij : i ≠ j) (hi : getS T i = some (.fz (.int m))) (hj : T[j]? = some none) (hm : 1 ≤ m) (hm2 : m < 1073741824) : ∀ (ds : List D) (N : Nat) (p : List D), PenI (N + ds.length) p →
    ∃ (l : List Int) (p' : List D), mapR (lcT (callD fns (n + 1)) (.call j__law_draw (.cons (.p 0) (.cons (.p (i + 1)) .nil))) (.nm (j + 1)) .tt) ds (some (.ol p) :: T) = .ok (l.map .int) (some (.ol p') :: T) ∧ PenI N p' ∧ l.length = ds.length ∧ In m l
  | [], N, p, hp => ⟨[], p, rfl, hp, rfl, fun x h => by cases h⟩
  | d :: ds, N, p, hp => by
    obtain ⟨x, p1, e1, hp1, h0, h1⟩ := draw_ok n (N := N + ds.length) (p := p) (m := m) (hp.mono (by simp; omega)) hm hm2
    obtain ⟨l, p2, e2, hp2, hl, hx⟩ := draws_var n m i j T hij hi hj hm hm2 ds N p1 hp1
    refine ⟨x :: l, p2, ?_, hp2, by simp [hl], fun y hy => ?_⟩
    · rw [mapR]
      simp [lcT, callR, apart, back, e1, e2, getS_setS hij, hi, set_back hj]
    · rcases List.mem_cons.mp hy with rfl | hy
      · exact ⟨h0, h1⟩
      · exact hx y hy
theorem draws_con (n : Nat) (m : Int) (j : Nat) (T : Sto) (hj : T[j]? = some none) (hm : 1 ≤ m) (hm2 : m < 1073741824) : ∀ (ds : List D) (N : Nat) (p : List D), PenI (N + ds.length) p →
    ∃ (l : List Int) (p' : List D), mapR (lcT (callD fns (n + 1)) (.call j__law_draw (.cons (.p 0) (.cons (.e (.con (.int m))) .nil))) (.nm (j + 1)) .tt) ds (some (.ol p) :: T) = .ok (l.map .int) (some (.ol p') :: T) ∧ PenI N p' ∧ l.length = ds.length ∧ In m l
  | [], N, p, hp => ⟨[], p, rfl, hp, rfl, fun x h => by cases h⟩
  | d :: ds, N, p, hp => by
    obtain ⟨x, p1, e1, hp1, h0, h1⟩ := draw_ok n (N := N + ds.length) (p := p) (m := m) (hp.mono (by simp; omega)) hm hm2
    obtain ⟨l, p2, e2, hp2, hl, hx⟩ := draws_con n m j T hj hm hm2 ds N p1 hp1
    refine ⟨x :: l, p2, ?_, hp2, by simp [hl], fun y hy => ?_⟩
    · rw [mapR]
      simp [lcT, callR, apart, back, e1, e2, set_back hj]
    · rcases List.mem_cons.mp hy with rfl | hy
      · exact ⟨h0, h1⟩
      · exact hx y hy
/-- a machine -/
structure Mc where
  L : Int
  lf : Bool
  st : Int
  mv : List (List Int)
  out : List Int
abbrev sD (b : Bool) : D := .str (if b then "left" else "right")
abbrev mD (M : Mc) : D := .tuple [.int M.L, sD M.lf, .int M.st, .tuple (M.mv.map tI), tI M.out]
structure Mc.Ok (M : Mc) : Prop where
  L1 : M.L = 2 ∨ M.L = 3
  k1 : 1 ≤ M.mv.length
  k4 : M.mv.length ≤ 4
  so : M.out.length = M.mv.length
  s0 : 0 ≤ M.st
  s1 : M.st < M.mv.length
  rl : ∀ r ∈ M.mv, (r.length : Int) = M.L ∧ In M.mv.length r
  ro : In 10 M.out
theorem rows_loop (n : Nat) (L k : Int) (b : Option W) (hL : 2 ≤ L ∧ L ≤ 3) (hk : 1 ≤ k) (hk2 : k ≤ 4) : ∀ (ds : List D) (N : Nat) (p : List D), PenI (N + 3 * ds.length) p →
    ∃ (l : List (List Int)) (p' : List D), mapR (lcT (callD fns (n + 1)) (.o1 .tup (.e (.lc (.call j__law_draw (.cons (.p 0) (.cons (.p 3) .nil))) (.nm 7) (.r1 (.var 1)) .tt))) (.nm 6) .tt) ds [some (.ol p), some (.fz (.int L)), b, some (.fz (.int k)), none, none, none, none] = .ok (l.map tI) [some (.ol p'), some (.fz (.int L)), b, some (.fz (.int k)), none, none, none, none] ∧ PenI N p' ∧ l.length = ds.length ∧ ∀ r ∈ l, (r.length : Int) = L ∧ In k r
  | [], N, p, hp => ⟨[], p, rfl, hp, rfl, fun x h => by cases h⟩
  | d :: ds, N, p, hp => by
    obtain ⟨j, rfl⟩ := Int.eq_ofNat_of_zero_le (show 0 ≤ L by omega)
    obtain ⟨x, p1, e1, hp1, hl1, hx1⟩ := draws_var n k 2 6 [some (.fz (.int j)), b, some (.fz (.int k)), none, none, some (.fz d), none] (by decide) rfl rfl hk (by omega) ((List.range j).map fun i => PyData.int (0 + (i : Nat))) (N + 3 * ds.length) p (hp.mono (by simp; omega))
    obtain ⟨l, p2, e2, hp2, hl, hx⟩ := rows_loop n j k b hL hk hk2 ds N p1 hp1
    refine ⟨x :: l, p2, ?_, hp2, by simp [hl], fun y hy => ?_⟩
    · rw [mapR]
      simp at e1 e2
      simp [lcT, rangeD_nat j (by omega), e1, e2]
    · rcases List.mem_cons.mp hy with rfl | hy
      · exact ⟨by rw [hl1]; simp, hx1⟩
      · exact hx y hy
end Lk44

end

section
set_option maxRecDepth 100000
set_option maxHeartbeats 1000000
namespace Lk44
open PySem Sf
theorem mapR_ints (f : D → Sto → Res (Option D)) (g : Int → Int) (E : Sto) (l : List Int) (h : ∀ v ∈ l, f (.int v) E = .ok (some (.int (g v))) E) : mapR f (l.map .int) E = .ok ((l.map g).map .int) E := by
  rw [mapR_map f (fun d => match d with | .int v => .int (g v) | d => d) E _ fun d hd => ?_]
  · rw [List.map_map, List.map_map]
    rfl
  · obtain ⟨v, hv, rfl⟩ := List.mem_map.mp hd
    exact h v hv
section
variable {cl : Nat → List W → CRes} {p acc : List D} {L many s : Int} {way : Int} {sd : W} {vals : List Int} {y : Option W}
abbrev cE (p : List D) (L : Int) (sd : W) (way many : Int) (vals : List Int) (acc : List D) (x y : Option W) : Sto := [some (.ol p), some (.fz (.int L)), some sd, some (.fz (.int way)), some (.fz (.int many)), some (.fz (.list (vals.map .int))), some (.ol acc), x, y, none, none, none]
theorem comp0 (hm : 0 < many) : mapR (lcT cl (.o2 .mod (.e (.o2 .add (.p 7) (.p 11))) (.p 4)) (.nm 11) .tt) (vals.map .int) (cE p L sd way many vals acc (some (.fz (.int s))) y) = .ok ((vals.map fun v => (s + v) % many).map .int) (cE p L sd way many vals acc (some (.fz (.int s))) y) :=
  mapR_ints _ _ _ _ fun v _ => by simp [lcT, p_mod, hm]
theorem comp1 (hm : 0 < many - 1) : mapR (lcT cl (.o2 .add (.e (.con (.int 1))) (.e (.o2 .mod (.p 11) (.e (.o2 .sub (.p 4) (.e (.con (.int 1)))))))) (.nm 11) .tt) (vals.map .int) (cE p L sd way many vals acc (some (.fz (.int s))) y) = .ok ((vals.map fun v => 1 + v % (many - 1)).map .int) (cE p L sd way many vals acc (some (.fz (.int s))) y) :=
  mapR_ints _ _ _ _ fun v _ => by
    have e := p_mod v (many - 1) hm
    simp [lcT, e]
theorem comp2 (hm : 0 < many) : mapR (lcT cl (.o2 .max2 (.p 7) (.e (.o2 .mod (.p 11) (.p 4)))) (.nm 11) .tt) (vals.map .int) (cE p L sd way many vals acc (some (.fz (.int s))) y) = .ok ((vals.map fun v => if v % many > s then v % many else s).map .int) (cE p L sd way many vals acc (some (.fz (.int s))) y) :=
  mapR_ints _ _ _ _ fun v _ => by simp [lcT, p_mod, hm]
theorem comp3 : mapR (lcT cl (.o2 .min2 (.e (.o2 .sub (.p 4) (.e (.con (.int 1))))) (.e (.o2 .add (.p 7) (.p 11)))) (.nm 11) .tt) (vals.map .int) (cE p L sd way many vals acc (some (.fz (.int s))) y) = .ok ((vals.map fun v => if s + v < many - 1 then s + v else many - 1).map .int) (cE p L sd way many vals acc (some (.fz (.int s))) y) :=
  mapR_ints _ _ _ _ fun v _ => by simp [lcT]
end
abbrev cutBody : S := (.seq (.set 8 (.lc (.o2 .mod (.e (.o2 .add (.p 7) (.p 11))) (.p 4)) (.nm 11) (.own 5) .tt)) (.seq (.ifs (.v (.e (.o2 .eq (.p 3) (.e (.con (.int 1)))))) (.set 8 (.lc (.o2 .add (.e (.con (.int 1))) (.e (.o2 .mod (.p 11) (.e (.o2 .sub (.p 4) (.e (.con (.int 1)))))))) (.nm 11) (.own 5) .tt)) .skip) (.seq (.ifs (.v (.e (.o2 .eq (.p 3) (.e (.con (.int 2)))))) (.set 8 (.lc (.o2 .max2 (.p 7) (.e (.o2 .mod (.p 11) (.p 4)))) (.nm 11) (.own 5) .tt)) .skip) (.seq (.ifs (.v (.e (.o2 .eq (.p 3) (.e (.con (.int 3)))))) (.set 8 (.lc (.o2 .min2 (.e (.o2 .sub (.p 4) (.e (.con (.int 1))))) (.e (.o2 .add (.p 7) (.p 11)))) (.nm 11) (.own 5) .tt)) .skip) (.app 6 (.o1 .tup (.p 8)))))))
def cutRow (way many s : Int) (vals : List Int) : List Int :=
  if way = 1 then vals.map fun v => 1 + v % (many - 1) else if way = 2 then vals.map fun v => if v % many > s then v % many else s else if way = 3 then vals.map fun v => if s + v < many - 1 then s + v else many - 1 else vals.map fun v => (s + v) % many
theorem cutRow_ok {way many s : Int} {vals : List Int} (hm : 2 ≤ many) (hs : 0 ≤ s ∧ s < many) (hv : ∀ v ∈ vals, 0 ≤ v) : (cutRow way many s vals).length = vals.length ∧ In many (cutRow way many s vals) := by
  unfold cutRow
  have m0 : ∀ v : Int, 0 ≤ v % many ∧ v % many < many := fun v => ⟨Int.emod_nonneg v (by omega), Int.emod_lt_of_pos v (by omega)⟩
  have m1 : ∀ v : Int, 0 ≤ v % (many - 1) ∧ v % (many - 1) < many - 1 := fun v => ⟨Int.emod_nonneg v (by omega), Int.emod_lt_of_pos v (by omega)⟩
  split
  · refine ⟨List.length_map _, fun x hx => ?_⟩
    obtain ⟨v, _, rfl⟩ := List.mem_map.mp hx
    have := m1 v
    omega
  · split
    · refine ⟨List.length_map _, fun x hx => ?_⟩
      obtain ⟨v, _, rfl⟩ := List.mem_map.mp hx
      have := m0 v
      split <;> omega
    · split
      · refine ⟨List.length_map _, fun x hx => ?_⟩
        obtain ⟨v, h, rfl⟩ := List.mem_map.mp hx
        have := hv v h
        split <;> omega
      · refine ⟨List.length_map _, fun x hx => ?_⟩
        obtain ⟨v, _, rfl⟩ := List.mem_map.mp hx
        exact m0 _
theorem cut_turn (cl : Nat → List W → CRes) {p acc : List D} {L many s way : Int} {sd : W} {vals : List Int} {x y : Option W} (hm : 2 ≤ many) (ha : acc.length < 100) :
    forT cl [true, false, false] (.nm 7) cutBody (.int s) (cE p L sd way many vals acc x y) = .ok .next (cE p L sd way many vals (acc ++ [tI (cutRow way many s vals)]) (some (.fz (.int s))) (some (.ol ((cutRow way many s vals).map .int)))) := by
  have c0 := fun y => comp0 (cl := cl) (p := p) (acc := acc) (L := L) (sd := sd) (way := way) (vals := vals) (s := s) (y := y) (show 0 < many by omega)
  have c1 := fun y => comp1 (cl := cl) (p := p) (acc := acc) (L := L) (sd := sd) (way := way) (vals := vals) (s := s) (y := y) (show 0 < many - 1 by omega)
  have c2 := fun y => comp2 (cl := cl) (p := p) (acc := acc) (L := L) (sd := sd) (way := way) (vals := vals) (s := s) (y := y) (show 0 < many by omega)
  have c3 := fun y => comp3 (cl := cl) (p := p) (acc := acc) (L := L) (many := many) (sd := sd) (way := way) (vals := vals) (s := s) (y := y)
  have hl : acc.length < lineN := by unfold lineN; omega
  unfold cutRow
  by_cases h1 : way = 1
  · subst h1
    simp [forT, stoS, c0, c1, hl]
  · by_cases h2 : way = 2
    · subst h2
      simp [forT, stoS, c0, c2, hl]
    · by_cases h3 : way = 3
      · subst h3
        simp [forT, stoS, c0, c3, hl]
      · simp [forT, stoS, c0, h1, h2, h3, hl]
end Lk44

end

section
set_option maxRecDepth 100000
set_option maxHeartbeats 1000000
namespace Lk44
open PySem Sf
theorem cut_loop (cl : Nat → List W → CRes) {p : List D} {L many way : Int} {sd : W} {vals : List Int} (hm : 2 ≤ many) (hv : ∀ v ∈ vals, 0 ≤ v) : ∀ (ss : List Int) (acc : List D) (x y : Option W), acc.length + ss.length ≤ 100 → In many ss →
    ∃ (rows : List (List Int)) (x' y' : Option W), forR (forT cl [true, false, false] (.nm 7) cutBody) (ss.map .int) (cE p L sd way many vals acc x y) = .ok .next (cE p L sd way many vals (acc ++ rows.map tI) x' y') ∧ rows.length = ss.length ∧ ∀ r ∈ rows, r.length = vals.length ∧ In many r
  | [], acc, x, y, _, _ => ⟨[], x, y, by simp, rfl, fun r h => by cases h⟩
  | s :: ss, acc, x, y, hl, hi => by
    simp only [List.length_cons] at hl
    have hs := hi s (List.mem_cons_self ..)
    obtain ⟨rows, x', y', e, h1, h2⟩ := cut_loop cl hm hv ss (acc ++ [tI (cutRow way many s vals)]) (some (.fz (.int s))) (some (.ol ((cutRow way many s vals).map .int))) (by rw [List.length_append]; simp; omega) fun z hz => hi z (List.mem_cons_of_mem _ hz)
    refine ⟨cutRow way many s vals :: rows, x', y', ?_, by simp [h1], fun r hr => ?_⟩
    · rw [List.map_cons, forR, cut_turn cl hm (by omega)]
      show forR _ _ _ = _
      rw [e, List.append_assoc]
      rfl
    · rcases List.mem_cons.mp hr with rfl | hr
      · exact cutRow_ok hm hs hv
      · exact h2 r hr
theorem range_ints (k : Nat) : ((List.range k).map fun i => PyData.int (0 + (i : Nat))) = ((List.range k).map fun i => ((i : Nat) : Int)).map PyData.int := by
  rw [List.map_map]
  refine List.map_congr_left fun i _ => ?_
  show PyData.int (0 + (i : Nat)) = PyData.int ((i : Nat) : Int)
  rw [Int.zero_add]
theorem range_in (k : Nat) : In (k : Int) ((List.range k).map fun i => ((i : Nat) : Int)) := fun x hx => by
  obtain ⟨i, hi, rfl⟩ := List.mem_map.mp hx
  have := List.mem_range.mp hi
  omega
theorem cut_to (l : List D) (k : Nat) (h : k ≤ l.length) : cutD l none (some (k : Int)) = l.take k := by
  unfold cutD
  rw [HT.sIx_nat, HT.sIx_none, List.drop_zero, Nat.sub_zero, Nat.min_eq_left h]
theorem cut_from (l : List D) (k : Nat) (h : k ≤ l.length) : cutD l (some (k : Int)) none = l.drop k := by
  unfold cutD
  rw [HT.sIx_nat, HT.sIx_none, Nat.min_eq_left h]
  exact List.take_of_length_le (by rw [List.length_drop]; omega)
abbrev cutOuts : List (List Int) := [[0, 1, 2, 3], [3, 0, 9, 5], [4, 1, 0, 2]]
end Lk44

end

section
set_option maxRecDepth 100000
set_option maxHeartbeats 1000000
namespace Lk44
open PySem Sf
theorem addT (xs ys : List D) : addW (.tuple xs) (.tuple ys) = if xs.length + ys.length ≤ lineN then some (.fz (.tuple (xs ++ ys))) else none := rfl
theorem ixN_in {n : Nat} {j : Int} (h0 : 0 ≤ j) (h1 : j < n) : L2.ixN n j = some j.toNat := by
  unfold L2.ixN
  rw [if_pos h0, if_pos h1]
/-- one part otherwise -/
def swap1 {α : Type} (l : List α) (i : Nat) (a : α) : List α := l.take i ++ [a] ++ l.drop (i + 1)
theorem swap1_len {α : Type} {l : List α} {i : Nat} {a : α} (h : i < l.length) : (swap1 l i a).length = l.length := by
  unfold swap1
  simp
  omega
theorem swap1_mem {α : Type} {l : List α} {i : Nat} {a x : α} (h : x ∈ swap1 l i a) : x = a ∨ x ∈ l := by
  unfold swap1 at h
  simp only [List.mem_append, List.mem_singleton] at h
  rcases h with (h | h) | h
  · exact .inr (List.mem_of_mem_take h)
  · exact .inl h
  · exact .inr (List.mem_of_mem_drop h)
theorem join_ok (l : List D) (a : Nat) (h : a < l.length) (h2 : l.length ≤ 1000) : (∀ r : D, addW (.tuple (l.take a)) (.tuple [r]) = some (.fz (.tuple (l.take a ++ [r])))) ∧ ∀ r : D, addW (.tuple (l.take a ++ [r])) (.tuple (l.drop (a + 1))) = some (.fz (.tuple (l.take a ++ [r] ++ l.drop (a + 1)))) := by
  refine ⟨fun r => ?_, fun r => ?_⟩
  · rw [addT, if_pos]
    unfold lineN
    simp
    omega
  · rw [addT, if_pos]
    unfold lineN
    simp
    omega
end Lk44

end

section
set_option maxRecDepth 100000
set_option maxHeartbeats 1000000
namespace Lk44
open PySem Sf
theorem is_integer_ok (n : Nat) (d : D) : callD fns (n + 1) j_is_integer [.fz d] = .ret (.fz (.bool (match d with | .int _ => true | _ => false))) [.fz d] := by
  rw [call_eq (fn := ⟨1, 1, ir_is_integer⟩) rfl rfl]
  cases d <;> simp [ir_is_integer, endR]
theorem is_between_int (n : Nat) (i a b : Int) : callD fns (n + 2) j_is_between [.fz (.int i), .fz (.int a), .fz (.int b)] = .ret (.fz (.bool (decide (a ≤ i) && decide (i ≤ b)))) [.fz (.int i), .fz (.int a), .fz (.int b)] := by
  rw [call_eq (fn := ⟨3, 3, ir_is_between⟩) rfl rfl]
  by_cases h : a ≤ i
  · simp [ir_is_between, callR, apart, back, is_integer_ok, endR, h]
  · simp [ir_is_between, callR, apart, back, is_integer_ok, endR, h]
theorem is_between_no (n : Nat) (d : D) (h : (match d with | .int _ => true | _ => false) = false) (a b : W) (ha : a.own = false) (hb : b.own = false) : callD fns (n + 2) j_is_between [.fz d, a, b] = .ret (.fz (.bool false)) [.fz d, a, b] := by
  rw [call_eq (fn := ⟨3, 3, ir_is_between⟩) rfl rfl]
  simp [ir_is_between, callR, apart, back, is_integer_ok, endR, h, keep1, fin1, ha, hb]
theorem row_loop (n : Nat) (m : Int) (a b : Option W) : ∀ (l : List Int), In m l → mapR (lcT (callD fns (n + 2)) (.call j_is_between (.cons (.p 3) (.cons (.e (.con (.int 0))) (.cons (.e (.o2 .sub (.p 2) (.e (.con (.int 1))))) .nil)))) (.nm 3) .tt) (l.map .int) [a, b, some (.fz (.int m)), none] = .ok (l.map fun _ => .bool true) [a, b, some (.fz (.int m)), none]
  | [], _ => rfl
  | x :: l, h => by
    have hx := h x (List.mem_cons_self ..)
    have e := row_loop n m a b l fun y hy => h y (List.mem_cons_of_mem _ hy)
    rw [List.map_cons, mapR]
    simp [lcT, callR, apart, back, is_between_int, e]
    constructor <;> omega
theorem is_row_ok (n : Nat) (l : List Int) (k m : Int) (h : In m l) (hk : (l.length : Int) = k) : callD fns (n + 3) j_is_row [.fz (tI l), .fz (.int k), .fz (.int m)] = .ret (.fz (.bool true)) [.fz (tI l), .fz (.int k), .fz (.int m)] := by
  rw [call_eq (fn := ⟨3, 4, ir_is_row⟩) rfl rfl]
  have e := row_loop n m (some (.fz (tI l))) (some (.fz (.int k))) l h
  have b := bools_map (fun _ : Int => true) l
  simp [ir_is_row, callR, apart, back, e, b, endR, hk]
theorem rows_all (n : Nat) (L k : Int) (E0 : Sto) (E : Sto) (a b c d e g : Option W) : ∀ (rows : List (List Int)), (∀ r ∈ rows, (r.length : Int) = L ∧ In k r) → mapR (lcT (callD fns (n + 3)) (.call j_is_row (.cons (.p 7) (.cons (.p 1) (.cons (.p 6) .nil)))) (.nm 7) .tt) (rows.map tI) [a, some (.fz (.int L)), b, c, d, e, some (.fz (.int k)), none] = .ok (rows.map fun _ => .bool true) [a, some (.fz (.int L)), b, c, d, e, some (.fz (.int k)), none]
  | [], _ => rfl
  | x :: l, h => by
    obtain ⟨h1, h2⟩ := h x (List.mem_cons_self ..)
    have e2 := rows_all n L k E0 E a b c d e g l fun y hy => h y (List.mem_cons_of_mem _ hy)
    have e3 := is_row_ok n x L k h2 h1
    rw [List.map_cons, mapR]
    simp [lcT, callR, apart, back, e3, e2]
theorem side_in (lf : Bool) : inW true false (sD lf) [.str "left", .str "right"] = some (.fz (.bool false)) := by
  cases lf <;> kernel_rfl
theorem is_machine_ok (n : Nat) (M : Mc) (ok : M.Ok) : callD fns (n + 4) j_is_machine [.fz (mD M)] = .ret (.fz (.bool true)) [.fz (mD M)] := by
  rw [call_eq (fn := ⟨1, 8, ir_is_machine⟩) rfl rfl]
  have k1 := ok.k1
  have k4 := ok.k4
  have so := ok.so
  have s0 := ok.s0
  have s1 := ok.s1
  have b1 := is_between_int (n + 1) M.L 2 3
  have b2 := is_between_int (n + 1) M.st 0 ((M.mv.length : Int) - 1)
  have r1 := rows_all n M.L (M.mv.length : Int) [] [] (some (.fz (mD M))) (some (.fz (sD M.lf))) (some (.fz (.int M.st))) (some (.fz (.tuple (M.mv.map tI)))) (some (.fz (tI M.out))) none M.mv ok.rl
  have r2 := is_row_ok n M.out (M.mv.length : Int) 10 ok.ro (by rw [so])
  have r3 := bools_map (fun _ : List Int => true) M.mv
  have c1 : (decide ((2 : Int) ≤ M.L) && decide (M.L ≤ 3)) = true := by
    have := ok.L1
    simp
    omega
  have c2 : (decide ((0 : Int) ≤ M.st) && decide (M.st ≤ (M.mv.length : Int) - 1)) = true := by
    simp
    omega
  rw [c1] at b1
  rw [c2] at b2
  have c3 : (1 : Int) ≤ (M.mv.length : Int) := by omega
  have c4 : (M.mv.length : Int) ≤ 4 := by omega
  have si := side_in M.lf
  simp [ir_is_machine, callR, apart, back, stoS, unpS, b1, b2, r1, r2, r3, c3, c4, si, endR, W.within?]
end Lk44

end

section
set_option maxRecDepth 100000
set_option maxHeartbeats 1000000
namespace Lk44
open PySem Sf
def gx (l : List Int) (i : Int) : Int := (l[i.toNat]?).getD 0
theorem gx_at {l : List Int} {i : Int} (h0 : 0 ≤ i) (h1 : i < l.length) : atD (l.map PyData.int) i = some (.int (gx l i)) := by
  have h : i.toNat < l.length := by omega
  rw [atD_lit _ _ h0, List.getElem?_map, List.getElem?_eq_getElem h]
  unfold gx
  rw [List.getElem?_eq_getElem h]
  rfl
theorem gx_in {l : List Int} {m i : Int} (h : In m l) (h0 : 0 ≤ i) (h1 : i < l.length) : 0 ≤ gx l i ∧ gx l i < m := by
  have q : i.toNat < l.length := by omega
  unfold gx
  rw [List.getElem?_eq_getElem q]
  exact h _ (List.getElem_mem q)
theorem gx_map {f : Int → Int} {l : List Int} {i : Int} (h0 : 0 ≤ i) (h1 : i < l.length) : gx (l.map f) i = f (gx l i) := by
  have q : i.toNat < l.length := by omega
  unfold gx
  rw [List.getElem?_map, List.getElem?_eq_getElem q]
  rfl
def rowOf (M : Mc) (s : Int) : List Int := (M.mv[s.toNat]?).getD []
def nx (M : Mc) (s a : Int) : Int := gx (rowOf M s) a
def lmap (M : Mc) (a : Int) : List Int := M.mv.map fun r => gx r a
section
variable {M : Mc} (ok : M.Ok)
theorem row_at {s : Int} (h0 : 0 ≤ s) (h1 : s < M.mv.length) : atD (M.mv.map tI) s = some (tI (rowOf M s)) ∧ rowOf M s ∈ M.mv := by
  have h : s.toNat < M.mv.length := by omega
  unfold rowOf
  rw [atD_lit _ _ h0, List.getElem?_map, List.getElem?_eq_getElem h]
  exact ⟨rfl, List.getElem_mem h⟩
include ok in
theorem nx_in {s a : Int} (h0 : 0 ≤ s) (h1 : s < M.mv.length) (a0 : 0 ≤ a) (a1 : a < M.L) : 0 ≤ nx M s a ∧ nx M s a < M.mv.length := by
  obtain ⟨_, hr⟩ := row_at h0 h1
  obtain ⟨q1, q2⟩ := ok.rl _ hr
  exact gx_in q2 a0 (by rw [q1]; exact a1)
theorem gx_lmap {s a : Int} (h0 : 0 ≤ s) (h1 : s < M.mv.length) : gx (lmap M a) s = nx M s a := by
  have h : s.toNat < M.mv.length := by omega
  unfold lmap nx rowOf
  rw [List.getElem?_eq_getElem h]
  unfold gx
  rw [List.getElem?_map, List.getElem?_eq_getElem h]
  rfl
include ok in
theorem lmap_in {a : Int} (a0 : 0 ≤ a) (a1 : a < M.L) : (lmap M a).length = M.mv.length ∧ In M.mv.length (lmap M a) := by
  refine ⟨List.length_map _, fun x hx => ?_⟩
  obtain ⟨r, hr, rfl⟩ := List.mem_map.mp hx
  obtain ⟨q1, q2⟩ := ok.rl r hr
  exact gx_in q2 a0 (by rw [q1]; exact a1)
theorem lm_loop (cl : Nat → List W → CRes) (a L : Int) (b : Option W) (a0 : 0 ≤ a) (a1 : a < L) : ∀ rows : List (List Int), (∀ r ∈ rows, (r.length : Int) = L) → mapR (lcT cl (.o2 .idx (.p 2) (.p 1)) (.nm 2) .tt) (rows.map tI) [b, some (.fz (.int a)), none] = .ok ((rows.map fun r => gx r a).map .int) [b, some (.fz (.int a)), none]
  | [], _ => rfl
  | r :: rows, h => by
    have e := lm_loop cl a L b a0 a1 rows fun q hq => h q (List.mem_cons_of_mem _ hq)
    have g := gx_at (l := r) a0 (by rw [h r (List.mem_cons_self ..)]; exact a1)
    rw [List.map_cons, mapR]
    simp at e
    simp [lcT, g, e]
def step (M : Mc) (f : List Int) (a : Int) : List Int := if M.lf then f.map (gx (lmap M a)) else (lmap M a).map (gx f)
theorem side_eq (lf : Bool) : op2 .eq (.fz (sD lf)) (.fz (.str "left")) = some (.fz (.bool lf)) := by
  cases lf <;> kernel_rfl
end
end Lk44

end

section
set_option maxRecDepth 100000
set_option maxHeartbeats 1000000
namespace Lk44
open PySem Sf
section
variable {M : Mc} (ok : M.Ok)
abbrev ids (k : Nat) : List Int := (List.range k).map fun i => ((i : Nat) : Int)
def mapOf (M : Mc) (w : List Int) : List Int := w.foldl (step M) (ids M.mv.length)
def runW (M : Mc) (w : List Int) : Int := (if M.lf then w else w.reverse).foldl (nx M) M.st
theorem gx_ids {k : Nat} {s : Int} (h0 : 0 ≤ s) (h1 : s < k) : gx (ids k) s = s := by
  have h : s.toNat < (ids k).length := by simp [ids]; omega
  unfold gx
  rw [List.getElem?_eq_getElem h]
  simp [ids]
  omega
include ok in
theorem run_in : ∀ (w : List Int) (s : Int), 0 ≤ s ∧ s < M.mv.length → In M.L w → 0 ≤ w.foldl (nx M) s ∧ w.foldl (nx M) s < M.mv.length
  | [], s, h, _ => h
  | a :: w, s, h, hw => run_in w _ (nx_in ok h.1 h.2 (hw a (List.mem_cons_self ..)).1 (hw a (List.mem_cons_self ..)).2) fun y hy => hw y (List.mem_cons_of_mem _ hy)
def resW (M : Mc) (w : List Int) : Int := gx M.out (runW M w)
include ok in
theorem runW_in {w : List Int} (hw : In M.L w) : 0 ≤ runW M w ∧ runW M w < M.mv.length := by
  unfold runW
  split
  · exact run_in ok w M.st ⟨ok.s0, ok.s1⟩ hw
  · exact run_in ok w.reverse M.st ⟨ok.s0, ok.s1⟩ fun y hy => hw y (List.mem_reverse.mp hy)
include ok in
theorem last_loop (cl : Nat → List W → CRes) (b : Option W) : ∀ (w : List Int) (s : Int) (x : Option W), 0 ≤ s → s < M.mv.length → In M.L w →
    ∃ x', forR (forT cl [false, false, false] (.nm 3) (.set 1 (.o2 .idx (.e (.o2 .idx (.e (.o2 .idx (.p 0) (.e (.con (.int 3))))) (.p 1))) (.p 3)))) (w.map .int) [some (.fz (mD M)), some (.fz (.int s)), b, x] = .ok .next [some (.fz (mD M)), some (.fz (.int (w.foldl (nx M) s))), b, x']
  | [], s, x, _, _, _ => ⟨x, rfl⟩
  | a :: w, s, x, h0, h1, hw => by
    have ha := hw a (List.mem_cons_self ..)
    have q := nx_in ok h0 h1 ha.1 ha.2
    obtain ⟨r1, r2⟩ := row_at h0 h1
    have g := gx_at (l := rowOf M s) ha.1 (by rw [(ok.rl _ r2).1]; exact ha.2)
    obtain ⟨x', e⟩ := last_loop cl b w (nx M s a) (some (.fz (.int a))) q.1 q.2 fun y hy => hw y (List.mem_cons_of_mem _ hy)
    refine ⟨x', ?_⟩
    rw [List.map_cons, forR]
    simp [forT, stoS, r1, g]
    exact e
end
end Lk44

end

section
set_option maxRecDepth 100000
set_option maxHeartbeats 1000000
namespace Lk44
open PySem Sf
theorem p_eqS (x y : Str) : op2 .eq (.fz (.str x)) (.fz (.str y)) = some (.fz (.bool (decide (x = y)))) := by
  show some (W.fz (.bool (PyData.eqv (.str x) (.str y)))) = _
  rw [PyData.eqv, Bool.beq_eq_decide_eq]
theorem p_neS (x y : Str) : op2 .ne (.fz (.str x)) (.fz (.str y)) = some (.fz (.bool (!decide (x = y)))) := by
  show some (W.fz (.bool (!PyData.eqv (.str x) (.str y)))) = _
  rw [PyData.eqv, Bool.beq_eq_decide_eq]
theorem repr_eq {w : W} {d : D} (h : w.look = some d) (r : reprOk d = true) : op1 .repr w = some (.fz (.str d.shown)) := by
  have e : op1 .repr w = (w.look.bind fun d => if reprOk d then some (.fz (.str d.shown)) else none) := by
    cases w <;> rfl
  rw [e, h]
  exact if_pos r
theorem int_short {i : Int} (h0 : 0 ≤ i) (h1 : i < 1000) : (PyData.int i).shown.length ≤ 13 := by
  rw [PyData.shown_int]
  exact Nat.le_trans (PyProof.Rows.toString_length_le h0 (k := 3) (by decide) (by omega)) (by decide)
theorem int_log {i : Int} (h0 : 0 ≤ i) (h1 : i < 1000) : i.natAbs.log2 ≤ 9 := by
  have : i.natAbs < 2 ^ 10 := by omega
  by_cases h : i.natAbs = 0
  · rw [h]
    decide
  · have := (Nat.log2_lt h).mpr this
    omega
theorem int_weight {i : Int} (h0 : 0 ≤ i) (h1 : i < 1000) : (PyData.int i).weight ≤ 10 := by
  have := int_log h0 h1
  simp only [PyData.weight]
  split <;> omega
theorem ints_tame : ∀ l : List Int, In 1000 l → PyData.intsShortAll 13 (l.map .int) = true ∧ PyData.showableAll (l.map .int) = true ∧ PyData.canLayAll0 (l.map .int) = true ∧ PyData.depthAll (l.map .int) = 0 ∧ PyData.weightAll (l.map .int) ≤ 12 * l.length
  | [], _ => ⟨rfl, rfl, rfl, rfl, Nat.le_refl _⟩
  | x :: l, h => by
    obtain ⟨h1, h2, h3, h4, h5⟩ := ints_tame l fun y hy => h y (List.mem_cons_of_mem _ hy)
    obtain ⟨x0, x1⟩ := h x (List.mem_cons_self ..)
    have s := int_short x0 x1
    have g := int_log x0 x1
    rw [List.map_cons]
    refine ⟨?_, ?_, ?_, ?_, ?_⟩
    · simp [PyData.intsShortAll, PyData.intsShort, h1, s]
    · simp [PyData.showableAll, PyData.showable, h2]
      omega
    · simp [PyData.canLayAll0, PyData.canLay0, h3]
    · simp [PyData.depthAll, PyData.depth, h4]
    · simp only [PyData.weightAll, PyData.weight, List.length_cons]
      split <;> omega
theorem rows_tame : ∀ l : List (List Int), (∀ r ∈ l, r.length ≤ 3 ∧ In 1000 r) → PyData.intsShortAll 13 (l.map tI) = true ∧ PyData.showableAll (l.map tI) = true ∧ PyData.canLayAll0 (l.map tI) = true ∧ PyData.depthAll (l.map tI) ≤ 1 ∧ PyData.weightAll (l.map tI) ≤ 40 * l.length
  | [], _ => ⟨rfl, rfl, rfl, Nat.zero_le _, Nat.le_refl _⟩
  | x :: l, h => by
    obtain ⟨h1, h2, h3, h4, h5⟩ := rows_tame l fun y hy => h y (List.mem_cons_of_mem _ hy)
    obtain ⟨x0, x1⟩ := h x (List.mem_cons_self ..)
    obtain ⟨g1, g2, g3, g4, g5⟩ := ints_tame x x1
    rw [List.map_cons]
    refine ⟨?_, ?_, ?_, ?_, ?_⟩
    · simp [PyData.intsShortAll, PyData.intsShort, h1, g1]
    · simp [PyData.showableAll, PyData.showable, h2, g2]
    · simp [PyData.canLayAll0, PyData.canLay0, h3, g3]
    · simp [PyData.depthAll, PyData.depth, g4]
      omega
    · simp only [PyData.weightAll, PyData.weight, List.length_cons]
      omega
theorem side_tame (lf : Bool) : (sD lf).canLay0 = true ∧ (sD lf).weight ≤ 5 ∧ (sD lf).depth = 0 ∧ (sD lf).showable = true ∧ (sD lf).intsShort 13 = true := by
  cases lf
  · exact ⟨by kernel_rfl, by show Str.length _ ≤ 5; decide, rfl, rfl, rfl⟩
  · exact ⟨by kernel_rfl, by show Str.length _ ≤ 5; decide, rfl, rfl, rfl⟩
theorem mach_repr (M : Mc) (ok : M.Ok) {w : List Int} (hw : In 1000 w) (hl : w.length ≤ 1000) : reprOk (.tuple [mD M, tI w]) = true := by
  have L1 := ok.L1
  have k4 := ok.k4
  have so := ok.so
  have s0 := ok.s0
  have s1 := ok.s1
  obtain ⟨a1, a2, a3, a4, a5⟩ := ints_tame w hw
  obtain ⟨b1, b2, b3, b4, b5⟩ := ints_tame M.out fun y hy => by
    have := ok.ro y hy
    omega
  obtain ⟨c1, c2, c3, c4, c5⟩ := rows_tame M.mv fun r hr => by
    obtain ⟨q1, q2⟩ := ok.rl r hr
    refine ⟨by omega, fun y hy => ?_⟩
    have := q2 y hy
    omega
  obtain ⟨d1, d2, d3, d4, d5⟩ := side_tame M.lf
  have e1 := int_short (i := M.L) (by omega) (by omega)
  have f1 := int_short (i := M.st) (by omega) (by omega)
  have e2 := int_log (i := M.L) (by omega) (by omega)
  have f2 := int_log (i := M.st) (by omega) (by omega)
  have e5 := int_weight (i := M.L) (by omega) (by omega)
  have f5 := int_weight (i := M.st) (by omega) (by omega)
  have hwt : (PyData.tuple [mD M, tI w]).weight = ((PyData.int M.L).weight + 1 + ((sD M.lf).weight + 1 + ((PyData.int M.st).weight + 1 + (PyData.weightAll (M.mv.map tI) + 1 + (PyData.weightAll (M.out.map .int) + 1 + 0))))) + 1 + (PyData.weightAll (w.map .int) + 1 + 0) := rfl
  have hdp : (PyData.tuple [mD M, tI w]).depth ≤ 64 := by
    simp [PyData.depth, PyData.depthAll, a4, b4, d3]
    omega
  have hcl : (PyData.tuple [mD M, tI w]).canLay0 = true := by
    simp [PyData.canLay0, PyData.canLayAll0, a3, b3, c3]
    exact d1
  refine reprOk_of ?_ ?_ ?_
  · unfold PyData.layable0
    rw [hcl, decide_eq_true hdp, decide_eq_true (by rw [hwt]; omega)]
    rfl
  · simp [PyData.intsShort, PyData.intsShortAll, a1, b1, c1, e1, f1]
  · simp [PyData.showable, PyData.showableAll, a2, b2, c2]
    omega
theorem pair_repr {a b : Int} (ha : 0 ≤ a ∧ a < 10) (hb : 0 ≤ b ∧ b < 10) : reprOk (.list [.int a, .int b]) = true := by
  obtain ⟨a1, a2, a3, a4, a5⟩ := ints_tame [a, b] fun y hy => by
    simp at hy
    omega
  refine reprOk_of ?_ a1 a2
  have hwt : (PyData.list [.int a, .int b]).weight ≤ 2 ^ 20 := Nat.le_trans a5 (by show 24 ≤ 2 ^ 20; decide)
  have hdp : (PyData.list [.int a, .int b]).depth ≤ 64 := by
    show PyData.depthAll _ + 1 ≤ 64
    have : PyData.depthAll [PyData.int a, .int b] = 0 := a4
    omega
  unfold PyData.layable0
  rw [decide_eq_true hdp, decide_eq_true hwt, show (PyData.list [.int a, .int b]).canLay0 = true from a3]
  rfl
end Lk44

end

end

section
set_option maxRecDepth 100000
set_option maxHeartbeats 4000000
namespace Lk44
open PySem Sf
abbrev lI (l : List Int) : D := .list (l.map .int)
theorem choose_ok (n : Nat) {N : Nat} {p ds : List D} (h1 : ds ≠ []) (h2 : ds.length < 1000) (hp : PenI (N + 1) p) :
    ∃ (d : D) (p' : List D), callD fns (n + 2) j__law_choose [.ol p, .ol ds] = .ret (.fz d) [.ol p', .ol ds] ∧ PenI N p' ∧ d ∈ ds := by
  have hl : 0 < ds.length := List.length_pos_iff.mpr h1
  obtain ⟨x, p1, e1, hp1, h3, h4⟩ := draw_ok n (N := N) (p := p) (m := (ds.length : Int)) hp (by omega) (by omega)
  have hx : x.toNat < ds.length := by omega
  refine ⟨ds[x.toNat], p1, ?_, hp1, List.getElem_mem hx⟩
  rw [call_eq (fn := ⟨2, 2, ir__law_choose⟩) rfl rfl]
  simp [ir__law_choose, callR, apart, back, e1, atD_lit _ _ h3, List.getElem?_eq_getElem hx, endR]
abbrev mE (p : List D) (most L k way : Int) (g m : Option W) : Sto := [some (.ol p), some (.fz (.int most)), some (.fz (.int L)), some (.fz (.int k)), some (.fz (.int way)), g, m, none, none, none, none, none, none, none, none]
theorem moves_loop (n : Nat) (most L k way : Int) (g : Option W) (hL : 2 ≤ L ∧ L ≤ 3) (hk : 1 ≤ k) (hk2 : k ≤ 4) : ∀ (ds : List D) (N : Nat) (p : List D), PenI (N + 3 * ds.length) p →
    ∃ (l : List (List Int)) (p' : List D), mapR (lcT (callD fns (n + 1)) (.lc (.call j__law_draw (.cons (.p 0) (.cons (.p 3) .nil))) (.nm 11) (.r1 (.var 2)) .tt) (.nm 12) .tt) ds (mE p most L k way g none) = .ok (l.map lI) (mE p' most L k way g none) ∧ PenI N p' ∧ l.length = ds.length ∧ ∀ r ∈ l, (r.length : Int) = L ∧ In k r
  | [], N, p, hp => ⟨[], p, rfl, hp, rfl, fun x h => by cases h⟩
  | d :: ds, N, p, hp => by
    obtain ⟨j, rfl⟩ := Int.eq_ofNat_of_zero_le (show 0 ≤ L by omega)
    obtain ⟨x, p1, e1, hp1, hl1, hx1⟩ := draws_var n k 2 10 [some (.fz (.int most)), some (.fz (.int j)), some (.fz (.int k)), some (.fz (.int way)), g, none, none, none, none, none, none, some (.fz d), none, none] (by decide) rfl rfl hk (by omega) ((List.range j).map fun i => PyData.int (0 + (i : Nat))) (N + 3 * ds.length) p (hp.mono (by simp; omega))
    obtain ⟨l, p2, e2, hp2, hl, hx⟩ := moves_loop n most j k way g hL hk hk2 ds N p1 hp1
    refine ⟨x :: l, p2, ?_, hp2, by simp [hl], fun y hy => ?_⟩
    · rw [mapR]
      simp at e1 e2
      simp [lcT, rangeD_nat j (by omega), e1, e2]
    · rcases List.mem_cons.mp hy with rfl | hy
      · exact ⟨by rw [hl1]; simp, hx1⟩
      · exact hx y hy
abbrev w0 : S := .ifs (.v (.e (.o2 .eq (.p 4) (.e (.con (.int 0)))))) (.set 6 (.lc (.lc (.o2 .mod (.e (.o2 .add (.p 12) (.p 13))) (.p 3)) (.nm 13) (.own 5) .tt) (.nm 12) (.r1 (.var 3)) .tt)) .skip
abbrev w1 : S := .ifs (.v (.e (.o2 .eq (.p 4) (.e (.con (.int 1)))))) (.set 6 (.lc (.lc (.o2 .max2 (.p 12) (.p 13)) (.nm 13) (.own 5) .tt) (.nm 12) (.r1 (.var 3)) .tt)) .skip
abbrev w2 : S := .ifs (.v (.e (.o2 .eq (.p 4) (.e (.con (.int 2)))))) (.set 6 (.lc (.var 5) (.nm 12) (.r1 (.var 3)) .tt)) .skip
abbrev w3 : S := .ifs (.v (.e (.o2 .eq (.p 4) (.e (.con (.int 3)))))) (.set 6 (.o2 .add (.e (.dsp false (.cons (.var 5) .nil))) (.e (.lc (.o2 .mul (.e (.dsp false (.cons (.var 12) .nil))) (.p 2)) (.nm 12) (.r2 (.con (.int 1)) (.var 3)) .tt)))) .skip
theorem mapR_rows (f : D → Sto → Res (Option D)) (g : Int → List Int) (E : Sto) (l : List Int) (h : ∀ v ∈ l, f (.int v) E = .ok (some (lI (g v))) E) : mapR f (l.map .int) E = .ok ((l.map g).map lI) E := by
  have := mapR_of PyData.int f (fun x => lI (g x)) E l h
  rw [this, List.map_map]
  rfl
theorem rangeD_one (k : Nat) (h : k ≤ 16777216) (h1 : 1 ≤ k) : rangeD 1 (k : Int) = some (((List.range (k - 1)).map fun i => (1 + (i : Nat) : Int)).map .int) := by
  unfold rangeD lineN
  rw [if_pos (by omega), List.map_map]
  have : ((k : Int) - 1).toNat = k - 1 := by omega
  rw [this]
  rfl
section
variable {cl : Nat → List W → CRes} {p : List D} {most way : Int} {L k : Nat} {goals : List Int} {m : Option W}
theorem way0_ok (hk : 1 ≤ k) (s : Int) : lcT cl (.lc (.o2 .mod (.e (.o2 .add (.p 12) (.p 13))) (.p 3)) (.nm 13) (.own 5) .tt) (.nm 12) .tt (.int s) (mE p most L k way (some (.ol (goals.map .int))) m) = .ok (some (lI (goals.map fun v => (s + v) % (k : Int)))) (mE p most L k way (some (.ol (goals.map .int))) m) := by
  have c := mapR_ints (lcT cl (.o2 .mod (.e (.o2 .add (.p 12) (.p 13))) (.p 3)) (.nm 13) .tt) (fun v => (s + v) % (k : Int)) [some (.ol p), some (.fz (.int most)), some (.fz (.int L)), some (.fz (.int k)), some (.fz (.int way)), some (.lk (goals.map .int)), m, none, none, none, none, none, some (.fz (.int s)), none, none] goals fun v _ => by
    have := p_mod (s + v) (k : Int) (by omega)
    simp [lcT, this]
  simp [lcT, c]
theorem way1_ok (s : Int) : lcT cl (.lc (.o2 .max2 (.p 12) (.p 13)) (.nm 13) (.own 5) .tt) (.nm 12) .tt (.int s) (mE p most L k way (some (.ol (goals.map .int))) m) = .ok (some (lI (goals.map fun v => if v > s then v else s))) (mE p most L k way (some (.ol (goals.map .int))) m) := by
  have c := mapR_ints (lcT cl (.o2 .max2 (.p 12) (.p 13)) (.nm 13) .tt) (fun v => if v > s then v else s) [some (.ol p), some (.fz (.int most)), some (.fz (.int L)), some (.fz (.int k)), some (.fz (.int way)), some (.lk (goals.map .int)), m, none, none, none, none, none, some (.fz (.int s)), none, none] goals fun v _ => by
    simp [lcT]
  simp [lcT, c]
theorem way2_ok (l : List Int) : ∃ g', mapR (lcT cl (.var 5) (.nm 12) .tt) (l.map .int) (mE p most L k way (some (.ol (goals.map .int))) m) = .ok ((l.map fun _ => goals).map lI) (mE p most L k way (some g') m) := by
  obtain ⟨E', e, h⟩ := mapR_inv PyData.int (lcT cl (.var 5) (.nm 12) .tt) (fun _ => lI goals) (fun E => E = mE p most L k way (some (.ol (goals.map .int))) m ∨ E = mE p most L k way (some (.fz (lI goals))) m) l (fun x _ E h => ⟨mE p most L k way (some (.fz (lI goals))) m, by rcases h with rfl | rfl <;> simp [lcT], .inr rfl⟩) _ (.inl rfl)
  rw [e]
  rcases h with rfl | rfl
  · exact ⟨_, by rw [List.map_map]; rfl⟩
  · exact ⟨_, by rw [List.map_map]; rfl⟩
theorem way3_ok (hL : L = 2 ∨ L = 3) (g : Option W) (s : Int) : lcT cl (.o2 .mul (.e (.dsp false (.cons (.var 12) .nil))) (.p 2)) (.nm 12) .tt (.int s) (mE p most L k way g m) = .ok (some (lI (List.replicate L s))) (mE p most L k way g m) := by
  rcases hL with rfl | rfl
  · simp [lcT, mulW, lineN, List.replicate]
  · simp [lcT, mulW, lineN, List.replicate]
theorem ways_ok (rest : S) {rows : List (List Int)} (hL : L = 2 ∨ L = 3) (hk : 1 ≤ k ∧ k ≤ 4) (hg : goals.length = L ∧ In k goals) (hr : rows.length = k ∧ ∀ r ∈ rows, r.length = L ∧ In k r) :
    ∃ (g' : Option W) (rows' : List (List Int)), evS cl [true, false] (.seq w0 (.seq w1 (.seq w2 (.seq w3 rest)))) (mE p most L k way (some (.ol (goals.map .int))) (some (.ol (rows.map lI)))) = evS cl [true, false] rest (mE p most L k way g' (some (.ol (rows'.map lI)))) ∧ rows'.length = k ∧ ∀ r ∈ rows', r.length = L ∧ In k r := by
  have rk := rangeD_nat k (by omega)
  rw [range_ints] at rk
  have rk1 := rangeD_one k (by omega) hk.1
  by_cases h0 : way = 0
  · subst h0
    have c := mapR_rows _ _ _ (ids k) (fun v _ => way0_ok (cl := cl) (p := p) (most := most) (way := 0) (L := L) (goals := goals) (m := some (.ol (rows.map lI))) hk.1 v)
    refine ⟨some (.ol (goals.map .int)), (ids k).map fun s => goals.map fun v => (s + v) % (k : Int), ?_, by simp, fun r h => ?_⟩
    · simp at c rk
      simp [stoS, rk, c]
    · obtain ⟨s, _, rfl⟩ := List.mem_map.mp h
      refine ⟨by simp [hg.1], fun x hx => ?_⟩
      obtain ⟨v, _, rfl⟩ := List.mem_map.mp hx
      exact ⟨Int.emod_nonneg _ (by omega), Int.emod_lt_of_pos _ (by omega)⟩
  by_cases h1 : way = 1
  · subst h1
    have c := mapR_rows _ _ _ (ids k) (fun v _ => way1_ok (cl := cl) (p := p) (most := most) (way := 1) (L := L) (k := k) (goals := goals) (m := some (.ol (rows.map lI))) v)
    refine ⟨some (.ol (goals.map .int)), (ids k).map fun s => goals.map fun v => if v > s then v else s, ?_, by simp, fun r h => ?_⟩
    · simp at c rk
      simp [stoS, rk, c]
    · obtain ⟨s, hs, rfl⟩ := List.mem_map.mp h
      have := range_in k s hs
      refine ⟨by simp [hg.1], fun x hx => ?_⟩
      obtain ⟨v, hv, rfl⟩ := List.mem_map.mp hx
      have := hg.2 v hv
      split <;> omega
  by_cases h2 : way = 2
  · subst h2
    obtain ⟨g', c⟩ := way2_ok (cl := cl) (p := p) (most := most) (way := 2) (L := L) (k := k) (goals := goals) (m := some (.ol (rows.map lI))) (ids k)
    refine ⟨some g', (ids k).map fun _ => goals, ?_, by simp, fun r h => ?_⟩
    · simp at c rk
      simp [stoS, rk, c]
    · obtain ⟨s, hs, rfl⟩ := List.mem_map.mp h
      exact hg
  by_cases h3 : way = 3
  · subst h3
    have c := mapR_rows _ _ _ ((List.range (k - 1)).map fun i => (1 + (i : Nat) : Int)) (fun v _ => way3_ok (cl := cl) (p := p) (most := most) (way := 3) (L := L) (k := k) (m := some (.ol (rows.map lI))) hL (some (.fz (lI goals))) v)
    refine ⟨some (.fz (lI goals)), goals :: ((List.range (k - 1)).map fun i => (1 + (i : Nat) : Int)).map fun s => List.replicate L s, ?_, by simp; omega, fun r h => ?_⟩
    · have hl : 1 + (k - 1) ≤ lineN := by unfold lineN; omega
      simp at c rk1
      simp [stoS, rk1, c, addW, hl]
    · rcases List.mem_cons.mp h with rfl | h
      · exact hg
      · obtain ⟨s, hs, rfl⟩ := List.mem_map.mp h
        obtain ⟨i, hi, rfl⟩ := List.mem_map.mp hs
        have := List.mem_range.mp hi
        refine ⟨by simp, fun x hx => ?_⟩
        have := (List.mem_replicate.mp hx).2
        omega
  · exact ⟨some (.ol (goals.map .int)), rows, by simp [h0, h1, h2, h3], hr⟩
end
theorem tup_loop (cl : Nat → List W → CRes) (E : Sto) (hE : ∃ a b, E = a :: b) (rows : List (List Int)) (h14 : E.length = 15) (hn : E[14]? = some none) : mapR (lcT cl (.o1 .tup (.p 14)) (.nm 14) .tt) (rows.map lI) E = .ok (rows.map tI) E := by
  refine mapR_of lI _ tI E rows fun r _ => ?_
  obtain ⟨a, b, rfl⟩ := hE
  have h : getS (setS (a :: b) 14 (.fz (lI r))) 14 = some (.fz (lI r)) := by
    unfold getS setS
    rw [List.getElem?_set_self (by omega)]
    rfl
  have h2 : (setS (a :: b) 14 (.fz (lI r))).set 14 none = a :: b := set_back hn
  simp at h h2
  simp [lcT, h, h2, op1, W.lst?]
end Lk44

end

section
set_option maxRecDepth 100000
set_option maxHeartbeats 4000000
namespace Lk44
open PySem Sf
abbrev nE (p : List D) (most L k way : Int) (g m a b c d : Option W) : Sto := [some (.ol p), some (.fz (.int most)), some (.fz (.int L)), some (.fz (.int k)), some (.fz (.int way)), g, m, a, b, c, d, none, none, none, none]
abbrev fS : S := .ret (.dsp true (.cons (.var 2) (.cons (.var 8) (.cons (.var 10) (.cons (.o1 .tup (.e (.lc (.o1 .tup (.p 14)) (.nm 14) (.own 6) .tt))) (.cons (.o1 .tup (.p 9)) .nil))))))
abbrev sS : S := .set 10 (.ite (.v (.e (.o2 .eq (.e (.call j__law_draw (.cons (.p 0) (.cons (.e (.con (.int 3))) .nil)))) (.e (.con (.int 0)))))) (.call j__law_draw (.cons (.p 0) (.cons (.p 3) .nil))) (.con (.int 0)))
abbrev oS : S := .ifs (.v (.e (.o2 .eq (.e (.call j__law_draw (.cons (.p 0) (.cons (.e (.con (.int 3))) .nil)))) (.e (.con (.int 0)))))) (.set 9 (.lc (.call j__law_draw (.cons (.p 0) (.cons (.e (.con (.int 3))) .nil))) (.nm 12) (.r1 (.var 3)) .tt)) .skip
abbrev o0S : S := .set 9 (.lc (.o2 .mod (.e (.o2 .add (.e (.o2 .mul (.e (.con (.int 7))) (.p 12))) (.p 7))) (.e (.con (.int 10)))) (.nm 12) (.r1 (.var 3)) .tt)
abbrev uS : S := .unp [7, 8] (.dsp true (.cons (.call j__law_draw (.cons (.p 0) (.cons (.e (.con (.int 10))) .nil))) (.cons (.call j__law_choose (.cons (.p 0) (.cons (.e (.dsp false (.cons (.con (.str "left")) (.cons (.con (.str "right")) .nil)))) .nil))) .nil)))
abbrev restS : S := .seq uS (.seq o0S (.seq oS (.seq sS fS)))
theorem fS_ok (cl : Nat → List W → CRes) (p : List D) (most L k way st x7 : Int) (g : Option W) (rows : List (List Int)) (out : List Int) (sd : D) :
    evS cl [true, false] fS (nE p most L k way g (some (.ol (rows.map lI))) (some (.fz (.int x7))) (some (.fz sd)) (some (.ol (out.map .int))) (some (.fz (.int st)))) = .ok (.ret (.fz (.tuple [.int L, sd, .int st, .tuple (rows.map tI), tI out]))) (nE p most L k way g (some (.ol (rows.map lI))) (some (.fz (.int x7))) (some (.fz sd)) (some (.ol (out.map .int))) (some (.fz (.int st)))) := by
  have t := tup_loop cl (nE p most L k way g (some (.lk (rows.map lI))) (some (.fz (.int x7))) (some (.fz sd)) (some (.ol (out.map .int))) (some (.fz (.int st)))) ⟨_, _, rfl⟩ rows rfl rfl
  simp [t]
theorem sS_ok (n : Nat) {N : Nat} {p : List D} (most L way x7 : Int) (k : Nat) (g m c : Option W) (sd : D) (hk : 1 ≤ k ∧ k ≤ 4) (hp : PenI (N + 2) p) :
    ∃ (st : Int) (p' : List D), evS (callD fns (n + 1)) [true, false] sS (nE p most L k way g m (some (.fz (.int x7))) (some (.fz sd)) c none) = .ok .next (nE p' most L k way g m (some (.fz (.int x7))) (some (.fz sd)) c (some (.fz (.int st)))) ∧ PenI N p' ∧ 0 ≤ st ∧ st < k := by
  obtain ⟨z, p1, e1, hp1, z0, z1⟩ := draw_ok n (N := N + 1) (p := p) (m := 3) hp (by decide) (by decide)
  by_cases h : z = 0
  · subst h
    obtain ⟨st, p2, e2, hp2, s0, s1⟩ := draw_ok n (N := N) (p := p1) (m := (k : Int)) hp1 (by omega) (by omega)
    exact ⟨st, p2, by simp [callR, apart, back, stoS, e1, e2], hp2, s0, s1⟩
  · exact ⟨0, p1, by simp [callR, apart, back, stoS, e1, h], hp1.mono (by omega), by omega, by omega⟩
theorem outs_ok (n : Nat) {N : Nat} {p : List D} (most L way x7 : Int) (k : Nat) (g m : Option W) (sd : D) (hk : 1 ≤ k ∧ k ≤ 4) (h7 : 0 ≤ x7 ∧ x7 < 10) (hp : PenI (N + 5) p) (rest : S) :
    ∃ (out : List Int) (p' : List D), evS (callD fns (n + 1)) [true, false] (.seq o0S (.seq oS rest)) (nE p most L k way g m (some (.fz (.int x7))) (some (.fz sd)) none none) = evS (callD fns (n + 1)) [true, false] rest (nE p' most L k way g m (some (.fz (.int x7))) (some (.fz sd)) (some (.ol (out.map .int))) none) ∧ PenI N p' ∧ out.length = k ∧ In 10 out := by
  have rk := rangeD_nat k (by omega)
  rw [range_ints] at rk
  have c := mapR_ints (lcT (callD fns (n + 1)) (.o2 .mod (.e (.o2 .add (.e (.o2 .mul (.e (.con (.int 7))) (.p 12))) (.p 7))) (.e (.con (.int 10)))) (.nm 12) .tt) (fun s => (7 * s + x7) % 10) (nE p most L k way g m (some (.fz (.int x7))) (some (.fz sd)) none none) (ids k) fun v _ => by
    have := p_mod (7 * v + x7) 10 (by decide)
    have h2 : mulOk 7 v = true := mulOk_l (by decide)
    simp [lcT, this, h2]
  obtain ⟨z, p1, e1, hp1, z0, z1⟩ := draw_ok n (N := N + 4) (p := p) (m := 3) hp (by decide) (by decide)
  by_cases h : z = 0
  · subst h
    obtain ⟨out, p2, e2, hp2, hl, ho⟩ := draws_con n 3 11 [some (.fz (.int most)), some (.fz (.int L)), some (.fz (.int k)), some (.fz (.int way)), g, m, some (.fz (.int x7)), some (.fz sd), some (.ol (((ids k).map fun s => (7 * s + x7) % 10).map .int)), none, none, none, none, none] rfl (by decide) (by decide) ((List.range k).map fun i => PyData.int (0 + (i : Nat))) N p1 (hp1.mono (by simp; omega))
    refine ⟨out, p2, ?_, hp2, by rw [hl]; simp, fun y hy => ?_⟩
    · rw [range_ints] at e2
      simp at c rk e2
      simp [callR, apart, back, stoS, rk, c, e1, e2]
    · have := ho y hy
      omega
  · refine ⟨(ids k).map fun s => (7 * s + x7) % 10, p1, ?_, hp1.mono (by omega), by simp, fun y hy => ?_⟩
    · simp at c rk
      simp [callR, apart, back, stoS, rk, c, e1, h]
    · obtain ⟨s, _, rfl⟩ := List.mem_map.mp hy
      exact ⟨Int.emod_nonneg _ (by decide), Int.emod_lt_of_pos _ (by decide)⟩
theorem rest_ok (n : Nat) {N : Nat} {p : List D} (most way : Int) (L k : Nat) (g : Option W) (rows : List (List Int)) (hL : L = 2 ∨ L = 3) (hk : 1 ≤ k ∧ k ≤ 4) (hr : rows.length = k ∧ ∀ r ∈ rows, r.length = L ∧ In k r) (hp : PenI (N + 9) p) :
    ∃ (M : Mc) (p' : List D) (T : Sto), evS (callD fns (n + 2)) [true, false] restS (mE p most L k way g (some (.ol (rows.map lI)))) = .ok (.ret (.fz (mD M))) (some (.ol p') :: some (.fz (.int most)) :: T) ∧ PenI N p' ∧ M.Ok ∧ M.mv.length = k := by
  obtain ⟨x7, p1, e1, hp1, h70, h71⟩ := draw_ok (n + 1) (N := N + 8) (p := p) (m := 10) hp (by decide) (by decide)
  obtain ⟨d, p2, e2, hp2, hd⟩ := choose_ok n (N := N + 7) (p := p1) (ds := [.str "left", .str "right"]) (by simp) (by simp) hp1
  obtain ⟨lf, rfl⟩ : ∃ lf : Bool, d = sD lf := by
    simp only [List.mem_cons, List.not_mem_nil, or_false] at hd
    rcases hd with h | h
    · exact ⟨true, h⟩
    · exact ⟨false, h⟩
  obtain ⟨out, p3, e3, hp3, ho, ho2⟩ := outs_ok (n + 1) (N := N + 2) (p := p2) most L way x7 k g (some (.ol (rows.map lI))) (sD lf) hk ⟨h70, h71⟩ hp2 (.seq sS fS)
  obtain ⟨st, p4, e4, hp4, s0, s1⟩ := sS_ok (n + 1) (N := N) (p := p3) most L way x7 k g (some (.ol (rows.map lI))) (some (.ol (out.map .int))) (sD lf) hk hp3
  have e5 := fS_ok (callD fns (n + 2)) p4 most L k way st x7 g rows out (sD lf)
  have hu : evS (callD fns (n + 2)) [true, false] uS (mE p most L k way g (some (.ol (rows.map lI)))) = .ok .next (nE p2 most L k way g (some (.ol (rows.map lI))) (some (.fz (.int x7))) (some (.fz (sD lf))) none none) := by
    simp [callR, apart, back, stoS, unpS, e1, e2]
  have hs : evS (callD fns (n + 2)) [true, false] (.seq sS fS) (nE p3 most L k way g (some (.ol (rows.map lI))) (some (.fz (.int x7))) (some (.fz (sD lf))) (some (.ol (out.map .int))) none) = .ok (.ret (.fz (mD ⟨L, lf, st, rows, out⟩))) (nE p4 most L k way g (some (.ol (rows.map lI))) (some (.fz (.int x7))) (some (.fz (sD lf))) (some (.ol (out.map .int))) (some (.fz (.int st)))) := by
    rw [z_seq, e4]
    exact e5
  refine ⟨⟨L, lf, st, rows, out⟩, p4, [some (.fz (.int L)), some (.fz (.int k)), some (.fz (.int way)), g, some (.ol (rows.map lI)), some (.fz (.int x7)), some (.fz (sD lf)), some (.ol (out.map .int)), some (.fz (.int st)), none, none, none, none], ?_, hp4, ⟨by show (L : Int) = 2 ∨ (L : Int) = 3; omega, by show 1 ≤ rows.length; omega, by show rows.length ≤ 4; omega, by show out.length = rows.length; omega, s0, by show st < (rows.length : Int); omega, fun r h => ?_, ho2⟩, hr.1⟩
  · show evS _ _ (.seq uS (.seq o0S (.seq oS (.seq sS fS)))) _ = _
    rw [z_seq, hu]
    exact e3.trans hs
  · obtain ⟨q1, q2⟩ := hr.2 r h
    refine ⟨by show (r.length : Int) = (L : Int); rw [q1], fun y hy => ?_⟩
    have := q2 y hy
    show 0 ≤ y ∧ y < (rows.length : Int)
    rw [hr.1]
    exact this
abbrev u0S : S := .unp [2, 3, 4] (.dsp true (.cons (.call j__law_choose (.cons (.p 0) (.cons (.e (.dsp false (.cons (.con (.int 2)) (.cons (.con (.int 2)) (.cons (.con (.int 3)) .nil))))) .nil))) (.cons (.o2 .add (.e (.con (.int 1))) (.e (.call j__law_draw (.cons (.p 0) (.cons (.p 1) .nil))))) (.cons (.call j__law_draw (.cons (.p 0) (.cons (.e (.con (.int 6))) .nil))) .nil))))
abbrev g0S : S := .set 5 (.lc (.call j__law_draw (.cons (.p 0) (.cons (.p 3) .nil))) (.nm 11) (.r1 (.var 2)) .tt)
abbrev m0S : S := .set 6 (.lc (.lc (.call j__law_draw (.cons (.p 0) (.cons (.p 3) .nil))) (.nm 11) (.r1 (.var 2)) .tt) (.nm 12) (.r1 (.var 3)) .tt)
theorem machine_ok (n : Nat) {N : Nat} {p : List D} {most : Int} (hm : 1 ≤ most ∧ most ≤ 4) (hp : PenI (N + 30) p) :
    ∃ (M : Mc) (p' : List D), callD fns (n + 3) j__law_machine [.ol p, .fz (.int most)] = .ret (.fz (mD M)) [.ol p', .fz (.int most)] ∧ PenI N p' ∧ M.Ok ∧ (M.mv.length : Int) ≤ most := by
  obtain ⟨d, p1, e1, hp1, hd⟩ := choose_ok n (N := N + 29) (p := p) (ds := [.int 2, .int 2, .int 3]) (by simp) (by simp) hp
  obtain ⟨L, rfl, hL⟩ : ∃ L : Nat, d = .int L ∧ (L = 2 ∨ L = 3) := by
    simp only [List.mem_cons, List.not_mem_nil, or_false] at hd
    rcases hd with h | h | h
    · exact ⟨2, h, .inl rfl⟩
    · exact ⟨2, h, .inl rfl⟩
    · exact ⟨3, h, .inr rfl⟩
  obtain ⟨x, p2, e2, hp2, x0, x1⟩ := draw_ok (n + 1) (N := N + 28) (p := p1) (m := most) hp1 hm.1 (by omega)
  obtain ⟨x, rfl⟩ := Int.eq_ofNat_of_zero_le x0
  have ek : (1 + (x : Int)) = ((1 + x : Nat) : Int) := by omega
  obtain ⟨way, p3, e3, hp3, _, _⟩ := draw_ok (n + 1) (N := N + 27) (p := p2) (m := 6) hp2 (by decide) (by decide)
  obtain ⟨goals, p4, e4, hp4, hl4, hi4⟩ := draws_var (n + 1) ((1 + x : Nat) : Int) 2 10 [some (.fz (.int most)), some (.fz (.int L)), some (.fz (.int ((1 + x : Nat) : Int))), some (.fz (.int way)), none, none, none, none, none, none, none, none, none, none] (by decide) rfl rfl (by omega) (by omega) ((List.range L).map fun i => PyData.int (0 + (i : Nat))) (N + 24) p3 (hp3.mono (by simp; omega))
  obtain ⟨rows, p5, e5, hp5, hl5, hr5⟩ := moves_loop (n + 1) most L ((1 + x : Nat) : Int) way (some (.ol (goals.map .int))) (by omega) (by omega) (by omega) ((List.range (1 + x)).map fun i => PyData.int (0 + (i : Nat))) (N + 12) p4 (hp4.mono (by simp; omega))
  have lr : rows.length = 1 + x := by rw [hl5]; simp
  obtain ⟨g', rows', e6, hl6, hr6⟩ := ways_ok (cl := callD fns (n + 2)) (p := p5) (most := most) (way := way) (L := L) (k := 1 + x) (goals := goals) restS (rows := rows) hL (by omega) ⟨by rw [hl4]; simp, hi4⟩ ⟨lr, fun r h => ⟨by have := (hr5 r h).1; omega, (hr5 r h).2⟩⟩
  obtain ⟨M, p7, T, e7, hp7, ok, hk⟩ := rest_ok n (N := N + 3) (p := p5) most way L (1 + x) g' rows' hL (by omega) ⟨hl6, hr6⟩ hp5
  refine ⟨M, p7, ?_, hp7.mono (by omega), ok, by rw [hk]; omega⟩
  have rk := rangeD_nat (1 + x) (by omega)
  have rl := rangeD_nat L (by omega)
  have b0 : evS (callD fns (n + 2)) [true, false] u0S [some (.ol p), some (.fz (.int most)), none, none, none, none, none, none, none, none, none, none, none, none, none] = .ok .next (mE p3 most L ((1 + x : Nat) : Int) way none none) := by
    simp [callR, apart, back, stoS, unpS, e1, e2, e3]
  have b1 : evS (callD fns (n + 2)) [true, false] g0S (mE p3 most L ((1 + x : Nat) : Int) way none none) = .ok .next (mE p4 most L ((1 + x : Nat) : Int) way (some (.ol (goals.map .int))) none) := by
    simp at e4 rl
    simp [stoS, rl, e4]
  have b2 : evS (callD fns (n + 2)) [true, false] m0S (mE p4 most L ((1 + x : Nat) : Int) way (some (.ol (goals.map .int))) none) = .ok .next (mE p5 most L ((1 + x : Nat) : Int) way (some (.ol (goals.map .int))) (some (.ol (rows.map lI)))) := by
    simp at e5 rk
    simp [stoS, rk, e5]
  rw [call_eq (fn := ⟨2, 15, ir__law_machine⟩) rfl rfl]
  show endR _ (evS (callD fns (n + 2)) [true, false] (.seq u0S (.seq g0S (.seq m0S (.seq w0 (.seq w1 (.seq w2 (.seq w3 restS))))))) [some (.ol p), some (.fz (.int most)), none, none, none, none, none, none, none, none, none, none, none, none, none]) = _
  rw [z_seq, b0]
  show endR _ (evS (callD fns (n + 2)) [true, false] (.seq g0S (.seq m0S (.seq w0 (.seq w1 (.seq w2 (.seq w3 restS)))))) (mE p3 most L ((1 + x : Nat) : Int) way none none)) = _
  rw [z_seq, b1]
  show endR _ (evS (callD fns (n + 2)) [true, false] (.seq m0S (.seq w0 (.seq w1 (.seq w2 (.seq w3 restS))))) (mE p4 most L ((1 + x : Nat) : Int) way (some (.ol (goals.map .int))) none)) = _
  rw [z_seq, b2]
  show endR _ (evS (callD fns (n + 2)) [true, false] (.seq w0 (.seq w1 (.seq w2 (.seq w3 restS)))) (mE p5 most L ((1 + x : Nat) : Int) way (some (.ol (goals.map .int))) (some (.ol (rows.map lI))))) = _
  rw [e6, e7]
  simp [endR]
end Lk44

end

section
set_option maxRecDepth 100000
set_option maxHeartbeats 1000000
namespace Lk44
open PySem Sf
/-- what is come to by so many letters -/
def rl (M : Mc) : Nat → List Int → List Int
  | 0, b => b
  | t + 1, b => rl M t (b.flatMap (rowOf M))
theorem rl_snoc (M : Mc) : ∀ (t : Nat) (b : List Int), rl M (t + 1) b = (rl M t b).flatMap (rowOf M)
  | 0, _ => rfl
  | t + 1, b => by
    show rl M (t + 1) (b.flatMap (rowOf M)) = (rl M t (b.flatMap (rowOf M))).flatMap (rowOf M)
    rw [rl_snoc M t]
theorem rl_mem (M : Mc) (x : Int) : ∀ (t : Nat) (b : List Int), x ∈ rl M t b ↔ ∃ s ∈ b, x ∈ rl M t [s]
  | 0, b => by simp [rl]
  | t + 1, b => by
    show x ∈ rl M t (b.flatMap (rowOf M)) ↔ ∃ s ∈ b, x ∈ rl M t ([s].flatMap (rowOf M))
    rw [rl_mem M x t]
    constructor
    · rintro ⟨y, hy, hx⟩
      obtain ⟨s, hs, h⟩ := List.mem_flatMap.mp hy
      refine ⟨s, hs, (rl_mem M x t _).mpr ⟨y, ?_, hx⟩⟩
      simpa using h
    · rintro ⟨s, hs, h⟩
      obtain ⟨y, hy, hx⟩ := (rl_mem M x t _).mp h
      refine ⟨y, List.mem_flatMap.mpr ⟨s, hs, ?_⟩, hx⟩
      simpa using hy
section
variable {M : Mc} (ok : M.Ok)
include ok in
theorem row_mem {s x : Int} (h0 : 0 ≤ s) (h1 : s < M.mv.length) : x ∈ rowOf M s ↔ ∃ a, 0 ≤ a ∧ a < M.L ∧ x = nx M s a := by
  obtain ⟨_, hr⟩ := row_at h0 h1
  obtain ⟨q1, q2⟩ := ok.rl _ hr
  constructor
  · intro h
    obtain ⟨i, hi, e⟩ := List.mem_iff_getElem.mp h
    refine ⟨(i : Int), by omega, by omega, ?_⟩
    unfold nx gx
    rw [← e, show ((i : Int)).toNat = i from rfl, List.getElem?_eq_getElem hi]
    rfl
  · rintro ⟨a, a0, a1, rfl⟩
    have h : a.toNat < (rowOf M s).length := by omega
    unfold nx gx
    rw [List.getElem?_eq_getElem h]
    exact List.getElem_mem h
include ok in
theorem rl_in : ∀ (t : Nat) (b : List Int), In M.mv.length b → In M.mv.length (rl M t b)
  | 0, b, h => h
  | t + 1, b, h => rl_in t _ fun x hx => by
    obtain ⟨s, hs, hx⟩ := List.mem_flatMap.mp hx
    have hs := h s hs
    obtain ⟨_, hr⟩ := row_at hs.1 hs.2
    exact (ok.rl _ hr).2 x hx
/-- has the result -/
def okV (M : Mc) (v s : Int) : Bool := gx M.out s == v
def hasB (M : Mc) (v : Int) (w : List Int) (t : Nat) : Bool := if M.lf then (rl M t [w.foldl (nx M) M.st]).any (okV M v) else (rl M t [M.st]).any fun s => okV M v (w.reverse.foldl (nx M) s)
def nextF (M : Mc) (v : Int) (w : List Int) (t : Nat) : List Int := (ids M.L.toNat).filter fun a => hasB M v (w ++ [a]) t
def dueF (M : Mc) (v : Int) : Nat → List Int → List Int
  | 0, w => w
  | t + 1, w => dueF M v t (w ++ [(nextF M v w t).headD 0])
def dueD (M : Mc) (v : Int) (m : Nat) : D := if hasB M v [] m then tI (dueF M v m []) else .none
include ok in
theorem ids_mem {a : Int} : a ∈ ids M.L.toNat ↔ 0 ≤ a ∧ a < M.L := by
  have := ok.L1
  constructor
  · intro h
    obtain ⟨i, hi, rfl⟩ := List.mem_map.mp h
    have := List.mem_range.mp hi
    omega
  · rintro ⟨h0, h1⟩
    exact List.mem_map.mpr ⟨a.toNat, List.mem_range.mpr (by omega), by omega⟩
include ok in
theorem has_step {v : Int} {w : List Int} {t : Nat} (hw : In M.L w) (h : hasB M v w (t + 1) = true) : ∃ a, a ∈ ids M.L.toNat ∧ hasB M v (w ++ [a]) t = true := by
  unfold hasB at h ⊢
  by_cases hl : M.lf = true
  · rw [if_pos hl] at h
    obtain ⟨x, hx, hv⟩ := List.any_eq_true.mp h
    have hx : x ∈ rl M t ([w.foldl (nx M) M.st].flatMap (rowOf M)) := hx
    obtain ⟨y, hy, hx⟩ := (rl_mem M x t _).mp hx
    have g := run_in ok w M.st ⟨ok.s0, ok.s1⟩ hw
    obtain ⟨a, a0, a1, rfl⟩ := (row_mem ok g.1 g.2).mp (by simpa using hy)
    refine ⟨a, (ids_mem ok).mpr ⟨a0, a1⟩, ?_⟩
    rw [if_pos hl, List.foldl_append]
    exact List.any_eq_true.mpr ⟨x, hx, hv⟩
  · rw [if_neg hl, rl_snoc] at h
    obtain ⟨x, hx, hv⟩ := List.any_eq_true.mp h
    obtain ⟨y, hy, hx⟩ := List.mem_flatMap.mp hx
    have g := rl_in ok t [M.st] (fun z hz => by rw [List.mem_singleton.mp hz]; exact ⟨ok.s0, ok.s1⟩) y hy
    obtain ⟨a, a0, a1, rfl⟩ := (row_mem ok g.1 g.2).mp hx
    refine ⟨a, (ids_mem ok).mpr ⟨a0, a1⟩, ?_⟩
    rw [if_neg hl]
    refine List.any_eq_true.mpr ⟨y, hy, ?_⟩
    rw [List.reverse_append]
    exact hv
include ok in
theorem next_ok {v : Int} {w : List Int} {t : Nat} (hw : In M.L w) (h : hasB M v w (t + 1) = true) : ∃ a r, nextF M v w t = a :: r ∧ 0 ≤ a ∧ a < M.L ∧ hasB M v (w ++ [a]) t = true ∧ In M.L (w ++ [a]) := by
  obtain ⟨a, ha, hb⟩ := has_step ok hw h
  have hm : a ∈ nextF M v w t := List.mem_filter.mpr ⟨ha, hb⟩
  cases e : nextF M v w t with
  | nil => rw [e] at hm; cases hm
  | cons b r =>
    have hb : b ∈ nextF M v w t := by rw [e]; exact List.mem_cons_self ..
    obtain ⟨h1, h2⟩ := List.mem_filter.mp hb
    have h3 := (ids_mem ok).mp h1
    refine ⟨b, r, rfl, h3.1, h3.2, h2, fun y hy => ?_⟩
    rcases List.mem_append.mp hy with hy | hy
    · exact hw y hy
    · rw [List.mem_singleton.mp hy]
      exact h3
include ok in
theorem due_len {v : Int} : ∀ (t : Nat) (w : List Int), In M.L w → hasB M v w t = true → (dueF M v t w).length = w.length + t ∧ In M.L (dueF M v t w)
  | 0, w, hw, _ => ⟨rfl, hw⟩
  | t + 1, w, hw, h => by
    obtain ⟨a, r, e, _, _, h2, h3⟩ := next_ok ok hw h
    unfold dueF
    rw [e]
    obtain ⟨q1, q2⟩ := due_len t (w ++ [a]) h3 h2
    exact ⟨by show (dueF M v t (w ++ [a])).length = _; rw [q1]; simp; omega, q2⟩
end
theorem eqv_int (a b : Int) : PyData.eqv (.int a) (.int b) = (a == b) := by
  simp [PyData.eqv]
theorem in_ints (b c : Bool) (x : Int) (l : List Int) : inW b c (.int x) (l.map .int) = some (.fz (.bool (if b then !(l.any (· == x)) else l.any (· == x)))) := by
  have h : (l.map PyData.int).all flatD = true := by simp [flatD]
  have h2 : ((l.map PyData.int).any fun y => PyData.eqv y (.int x)) = l.any (· == x) := by
    rw [List.any_map]
    exact congrArg (fun g => l.any g) (funext fun y => eqv_int y x)
  unfold inW
  rw [h, h2]
  cases b <;> simp [flatD]
theorem any_mem (l : List Int) (x : Int) : l.any (· == x) = decide (x ∈ l) := by
  rw [Bool.eq_iff_iff]
  simp
/-- some later states, the new ones added -/
def growF (M : Mc) (later : List Int) (s : Int) : List Int := later ++ (rowOf M s).filter fun x => !(later.any (· == x))
theorem grow_mem (M : Mc) (x : Int) : ∀ (l acc : List Int), x ∈ l.foldl (growF M) acc ↔ x ∈ acc ∨ ∃ s ∈ l, x ∈ rowOf M s
  | [], acc => by simp
  | s :: l, acc => by
    rw [List.foldl_cons, grow_mem M x l]
    unfold growF
    rw [List.mem_append, List.mem_filter, any_mem]
    by_cases h : x ∈ acc <;> simp [h]
theorem grow_count {M : Mc} (ok : M.Ok) {l acc : List Int} (hl : In M.mv.length l) (h : ∀ x, acc.count x ≤ 3) : ∀ x, (l.foldl (growF M) acc).count x ≤ 3 := by
  induction l generalizing acc with
  | nil => exact h
  | cons s l ih =>
    rw [List.foldl_cons]
    refine ih (fun y hy => hl y (List.mem_cons_of_mem _ hy)) fun x => ?_
    unfold growF
    rw [List.count_append]
    have hs := hl s (List.mem_cons_self ..)
    obtain ⟨_, hr⟩ := row_at hs.1 hs.2
    have q := (ok.rl _ hr).1
    have L1 := ok.L1
    by_cases hx : x ∈ acc
    · have : ((rowOf M s).filter fun x => !(acc.any (· == x))).count x = 0 := by
        refine List.count_eq_zero.mpr fun hm => ?_
        have := (List.mem_filter.mp hm).2
        rw [any_mem, decide_eq_true hx] at this
        cases this
      have := h x
      omega
    · have h0 : acc.count x = 0 := List.count_eq_zero.mpr hx
      have h1 : ((rowOf M s).filter fun x => !(acc.any (· == x))).count x ≤ (rowOf M s).length := Nat.le_trans List.count_le_length (List.length_filter_le ..)
      omega
theorem len_four : ∀ l : List Int, In 4 l → l.length = l.count 0 + l.count 1 + l.count 2 + l.count 3
  | [], _ => rfl
  | x :: l, h => by
    have ih := len_four l fun y hy => h y (List.mem_cons_of_mem _ hy)
    have hx := h x (List.mem_cons_self ..)
    have : x = 0 ∨ x = 1 ∨ x = 2 ∨ x = 3 := by omega
    rcases this with rfl | rfl | rfl | rfl <;> simp [List.count_cons] <;> omega
end Lk44

end

section
set_option maxRecDepth 100000
set_option maxHeartbeats 2000000
namespace Lk44
open PySem Sf
section
variable {M : Mc} (ok : M.Ok)
abbrev mapB : S := .set 2 (.lc (.o2 .idx (.e (.o2 .idx (.e (.o2 .idx (.p 0) (.e (.con (.int 3))))) (.p 4))) (.p 3)) (.nm 4) (.own 2) .tt)
include ok in
theorem lmap_loop (cl : Nat → List W → CRes) (b : Option W) : ∀ (w f : List Int) (x : Option W), In M.mv.length f → In M.L w →
    ∃ x', forR (forT cl [false, false] (.nm 3) mapB) (w.map .int) [some (.fz (mD M)), b, some (.ol (f.map .int)), x, none] = .ok .next [some (.fz (mD M)), b, some (.ol ((f.map fun s => w.foldl (nx M) s).map .int)), x', none]
  | [], f, x, _, _ => ⟨x, by simp⟩
  | a :: w, f, x, hf, hw => by
    have ha := hw a (List.mem_cons_self ..)
    have c := mapR_ints (lcT cl (.o2 .idx (.e (.o2 .idx (.e (.o2 .idx (.p 0) (.e (.con (.int 3))))) (.p 4))) (.p 3)) (.nm 4) .tt) (fun s => nx M s a) [some (.fz (mD M)), b, some (.lk (f.map .int)), some (.fz (.int a)), none] f fun s hs => by
      have hs := hf s hs
      obtain ⟨r1, r2⟩ := row_at hs.1 hs.2
      have g := gx_at (l := rowOf M s) ha.1 (by rw [(ok.rl _ r2).1]; exact ha.2)
      simp [lcT, r1, g, nx]
    obtain ⟨x', e⟩ := lmap_loop cl b w (f.map fun s => nx M s a) (some (.fz (.int a))) (fun y hy => by
      obtain ⟨s, hs, rfl⟩ := List.mem_map.mp hy
      have hs := hf s hs
      exact nx_in ok hs.1 hs.2 ha.1 ha.2) fun y hy => hw y (List.mem_cons_of_mem _ hy)
    refine ⟨x', ?_⟩
    rw [List.map_cons, forR]
    simp at c e
    simp [forT, stoS, c, e]
/-- the law's map of a word -/
def lwm (M : Mc) (w : List Int) : List Int := (ids M.mv.length).map fun s => (if M.lf then w else w.reverse).foldl (nx M) s
include ok in
theorem law_map_ok (n : Nat) {w : List Int} (hw : In M.L w) : callD fns (n + 1) j__law_map [.fz (mD M), .fz (tI w)] = .ret (.fz (tI (lwm M w))) [.fz (mD M), .fz (tI w)] := by
  have k4 := ok.k4
  have rk := rangeD_nat M.mv.length (by omega)
  rw [range_ints] at rk
  have se := side_eq M.lf
  rw [call_eq (fn := ⟨2, 5, ir__law_map⟩) rfl rfl]
  cases h : M.lf with
  | true =>
    obtain ⟨x', e⟩ := lmap_loop ok (callD fns n) (some (.fz (tI w))) w (ids M.mv.length) none (range_in _) hw
    rw [h] at se
    simp [h] at e rk
    simp [ir__law_map, h, se, stoS, rk, e, endR, lwm]
  | false =>
    obtain ⟨x', e⟩ := lmap_loop ok (callD fns n) (some (.fz (tI w))) w.reverse (ids M.mv.length) none (range_in _) fun y hy => hw y (List.mem_reverse.mp hy)
    rw [h] at se
    simp [h] at e rk
    simp [ir__law_map, h, se, stoS, rk, e, endR, lwm]
/-- a list, whoever holds it -/
def LW (l : List Int) (w : W) : Prop := w = .ol (l.map .int) ∨ w = .fz (lI l) ∨ w = .lk (l.map .int)
abbrev growB : S := .set 5 (.o2 .add (.p 5) (.e (.lc (.var 7) (.nm 7) (.its (.o2 .idx (.e (.o2 .idx (.p 0) (.e (.con (.int 3))))) (.p 6))) (.v (.e (.o2 .notin (.p 7) (.p 5)))))))
include ok in
theorem grow_loop (cl : Nat → List W → CRes) (b c g x4 : Option W) : ∀ (l acc : List Int) (x : Option W), In M.mv.length l → In M.mv.length acc → (∀ x, acc.count x ≤ 3) →
    ∃ x', forR (forT cl [false, true, false] (.nm 6) growB) (l.map .int) [some (.fz (mD M)), b, c, g, x4, some (.ol (acc.map .int)), x, none] = .ok .next [some (.fz (mD M)), b, c, g, x4, some (.ol ((l.foldl (growF M) acc).map .int)), x', none]
  | [], acc, x, _, _, _ => ⟨x, rfl⟩
  | s :: l, acc, x, hl, ha, hc => by
    have k4 := ok.k4
    have hs := hl s (List.mem_cons_self ..)
    obtain ⟨r1, r2⟩ := row_at hs.1 hs.2
    have hr := ok.rl _ r2
    have L1 := ok.L1
    have hi : In M.mv.length (growF M acc s) := fun y hy => by
      unfold growF at hy
      rcases List.mem_append.mp hy with hy | hy
      · exact ha y hy
      · exact hr.2 y (List.mem_filter.mp hy).1
    have ca := mapR_if PyData.int (lcT cl (.var 7) (.nm 7) (.v (.e (.o2 .notin (.p 7) (.p 5))))) (fun y => !(acc.any (· == y))) PyData.int [some (.fz (mD M)), b, c, g, x4, some (.ol (acc.map .int)), some (.fz (.int s)), none] (rowOf M s) fun y _ => by
      cases h : acc.any (· == y) <;> simp [lcT, in_ints, h]
    have la := len_four acc fun y hy => by
      have := ha y hy
      omega
    have c0 := hc 0
    have c1 := hc 1
    have c2 := hc 2
    have c3 := hc 3
    have lf := List.length_filter_le (fun y => !(acc.any (· == y))) (rowOf M s)
    have ln : acc.length + ((rowOf M s).filter fun y => !(acc.any (· == y))).length ≤ lineN := by
      unfold lineN
      omega
    obtain ⟨x', e⟩ := grow_loop cl b c g x4 l (growF M acc s) (some (.fz (.int s))) (fun y hy => hl y (List.mem_cons_of_mem _ hy)) hi (grow_count ok (l := [s]) (fun y hy => by rw [List.mem_singleton.mp hy]; exact hs) hc)
    refine ⟨x', ?_⟩
    rw [List.map_cons, forR]
    have st : forT cl [false, true, false] (.nm 6) growB (.int s) [some (.fz (mD M)), b, c, g, x4, some (.ol (acc.map .int)), x, none] = .ok .next [some (.fz (mD M)), b, c, g, x4, some (.ol ((growF M acc s).map .int)), some (.fz (.int s)), none] := by
      unfold growF
      simp [forT, stoS, r1, ca, addW, ln]
    rw [st]
    exact e
abbrev reachB : S := .seq (.set 5 (.dsp false .nil)) (.seq (.for_ (.nm 6) (.own 3) growB) (.set 3 (.var 5)))
include ok in
theorem reach_loop (cl : Nat → List W → CRes) (b c : Option W) (b0 : List Int) : ∀ (ds : List D) (l : List Int) (t : Nat) (w : W) (x4 x5 x6 : Option W), (w = .ol (l.map .int) ∨ w = .fz (lI l)) → In M.mv.length l → (∀ x, x ∈ l ↔ x ∈ rl M t b0) →
    ∃ l' w' y4 y5 y6, forR (forT cl [false, true, false] (.nm 4) reachB) ds [some (.fz (mD M)), b, c, some w, x4, x5, x6, none] = .ok .next [some (.fz (mD M)), b, c, some w', y4, y5, y6, none] ∧ (w' = .ol (l'.map .int) ∨ w' = .fz (lI l')) ∧ In M.mv.length l' ∧ ∀ x, x ∈ l' ↔ x ∈ rl M (t + ds.length) b0
  | [], l, t, w, x4, x5, x6, hw, hi, hm => ⟨l, w, x4, x5, x6, rfl, hw, hi, hm⟩
  | d :: ds, l, t, w, x4, x5, x6, hw, hi, hm => by
    have hm2 : ∀ x, x ∈ l.foldl (growF M) [] ↔ x ∈ rl M (t + 1) b0 := fun x => by
      rw [grow_mem, rl_snoc, List.mem_flatMap]
      constructor
      · rintro (h | ⟨s, hs, hx⟩)
        · cases h
        · exact ⟨s, (hm s).mp hs, hx⟩
      · rintro ⟨s, hs, hx⟩
        exact .inr ⟨s, (hm s).mpr hs, hx⟩
    have hi2 : In M.mv.length (l.foldl (growF M) []) := fun x hx => by
      rcases (grow_mem M x l []).mp hx with h | ⟨s, hs, hx⟩
      · cases h
      · have hs := hi s hs
        obtain ⟨_, r2⟩ := row_at hs.1 hs.2
        exact (ok.rl _ r2).2 x hx
    obtain ⟨x', e⟩ := grow_loop ok cl b c (some (.lk (l.map .int))) (some (.fz d)) l [] x6 hi (fun y hy => by cases hy) (fun x => by simp)
    obtain ⟨x2, e2⟩ := grow_loop ok cl b c (some (.fz (lI l))) (some (.fz d)) l [] x6 hi (fun y hy => by cases hy) (fun x => by simp)
    have ln : ∀ x, x ∈ rl M (t + 1 + ds.length) b0 ↔ x ∈ rl M (t + (d :: ds).length) b0 := fun x => by
      rw [show t + 1 + ds.length = t + (d :: ds).length by simp; omega]
    have ih := fun x6 => reach_loop cl b c b0 ds (l.foldl (growF M) []) (t + 1) (.fz (lI (l.foldl (growF M) []))) (some (.fz d)) (some (.fz (lI (l.foldl (growF M) [])))) x6 (.inr rfl) hi2 hm2
    rcases hw with rfl | rfl
    · have st : forT cl [false, true, false] (.nm 4) reachB d [some (.fz (mD M)), b, c, some (.ol (l.map .int)), x4, x5, x6, none] = .ok .next [some (.fz (mD M)), b, c, some (.fz (lI (l.foldl (growF M) []))), some (.fz d), some (.fz (lI (l.foldl (growF M) []))), x', none] := by
        simp at e
        simp [forT, stoS, e]
      obtain ⟨l', w', y4, y5, y6, e3, q1, q2, q3⟩ := ih x'
      refine ⟨l', w', y4, y5, y6, ?_, q1, q2, fun x => (q3 x).trans (ln x)⟩
      rw [forR, st]
      exact e3
    · have st : forT cl [false, true, false] (.nm 4) reachB d [some (.fz (mD M)), b, c, some (.fz (lI l)), x4, x5, x6, none] = .ok .next [some (.fz (mD M)), b, c, some (.fz (lI (l.foldl (growF M) []))), some (.fz d), some (.fz (lI (l.foldl (growF M) []))), x2, none] := by
        simp at e2
        simp [forT, stoS, e2]
      obtain ⟨l', w', y4, y5, y6, e3, q1, q2, q3⟩ := ih x2
      refine ⟨l', w', y4, y5, y6, ?_, q1, q2, fun x => (q3 x).trans (ln x)⟩
      rw [forR, st]
      exact e3
include ok in
theorem reached_ok (n : Nat) {b0 : List Int} {t : Nat} (ht : t ≤ 1000) (hb : In M.mv.length b0) : ∃ (l : List Int) (w : W), callD fns (n + 1) j__law_reached [.fz (mD M), .ol (b0.map .int), .fz (.int t)] = .ret w [.fz (mD M), .ol (b0.map .int), .fz (.int t)] ∧ (w = .ol (l.map .int) ∨ w = .fz (lI l)) ∧ In M.mv.length l ∧ ∀ x, x ∈ l ↔ x ∈ rl M t b0 := by
  have rt := rangeD_nat t (by omega)
  obtain ⟨l, w, y4, y5, y6, e, h1, h2, h3⟩ := reach_loop ok (callD fns n) (some (.ol (b0.map .int))) (some (.fz (.int t))) b0 ((List.range t).map fun i => PyData.int (0 + (i : Nat))) b0 0 (.ol (b0.map .int)) none none none (.inl rfl) hb fun x => Iff.rfl
  refine ⟨l, w, ?_, h1, h2, fun x => by rw [h3 x]; simp⟩
  rw [call_eq (fn := ⟨3, 8, ir__law_reached⟩) rfl rfl]
  have l0 : op1 .lis (.ol (b0.map .int)) = some (.ol (b0.map .int)) := rfl
  simp at e rt
  rcases h1 with rfl | rfl <;> simp [ir__law_reached, l0, stoS, rt, e, endR]
end
end Lk44

end

section
set_option maxRecDepth 100000
set_option maxHeartbeats 2000000
namespace Lk44
open PySem Sf
theorem ne_nil (l : List Int) (h : In 1000 l) : op2 .ne (.ol (l.map .int)) (.ol []) = some (.fz (.bool (!l.isEmpty))) := by
  obtain ⟨a1, a2, a3, a4, a5⟩ := ints_tame l h
  have s1 : SeqAt.shaped (.list (l.map .int)) = true := by simp [SeqAt.shaped, PyData.canLay0, PyData.depth, a3, a4]
  have s2 : SeqAt.shaped (.list []) = true := by kernel_rfl
  show ((if eqOk (.list (l.map .int)) (.list []) then some (PyData.bool (!PyData.eqv (.list (l.map .int)) (.list []))) else none).map W.fz) = _
  have e : eqOk (.list (l.map .int)) (.list []) = true := by
    unfold eqOk
    rw [s1, s2]
    rfl
  rw [if_pos e]
  cases l with
  | nil => simp [PyData.eqv, PyData.eqvAll]
  | cons x r => simp [PyData.eqv, PyData.eqvAll]
section
variable {M : Mc} (ok : M.Ok)
theorem lwm_at (w : List Int) {s : Int} (h0 : 0 ≤ s) (h1 : s < M.mv.length) : gx (lwm M w) s = (if M.lf then w else w.reverse).foldl (nx M) s := by
  unfold lwm
  rw [gx_map h0 (by simp; omega), gx_ids h0 h1]
theorem lwm_len (w : List Int) : (lwm M w).length = M.mv.length := by simp [lwm]
include ok in
theorem lwm_in {w : List Int} (hw : In M.L w) : In M.mv.length (lwm M w) := fun x hx => by
  unfold lwm at hx
  obtain ⟨s, hs, rfl⟩ := List.mem_map.mp hx
  have hs := range_in _ s hs
  split
  · exact run_in ok w s hs hw
  · exact run_in ok w.reverse s hs fun y hy => hw y (List.mem_reverse.mp hy)
include ok in
theorem ones_loop (cl : Nat → List W → CRes) (v : Int) (a c d : Option W) (l : List Int) (hl : In M.mv.length l) (x : Option W) : mapR (lcT cl (.con (.int 1)) (.nm 6) (.v (.e (.o2 .eq (.e (.o2 .idx (.e (.o2 .idx (.p 0) (.e (.con (.int 4))))) (.p 6))) (.p 3))))) (l.map .int) [some (.fz (mD M)), a, c, some (.fz (.int v)), d, x, none] = .ok (((l.filter (okV M v)).map fun _ => (1 : Int)).map .int) [some (.fz (mD M)), a, c, some (.fz (.int v)), d, x, none] := by
  rw [mapR_if PyData.int _ (okV M v) (fun _ => .int 1) _ l fun s hs => ?_, List.map_map]
  · rfl
  · have hs := hl s hs
    have g := gx_at (l := M.out) hs.1 (by rw [ok.so]; exact hs.2)
    unfold okV
    by_cases h : gx M.out s = v
    · simp [lcT, g, h]
    · simp [lcT, g, h]
theorem some_any (l : List Int) (p : Int → Bool) : (!((l.filter p).map fun _ => (1 : Int)).isEmpty) = l.any p := by
  rw [List.isEmpty_map, Bool.eq_iff_iff]
  simp [List.isEmpty_iff, List.filter_eq_nil_iff]
theorem any_ext {l l' : List Int} (p : Int → Bool) (h : ∀ x, x ∈ l ↔ x ∈ l') : l.any p = l'.any p := by
  rw [Bool.eq_iff_iff, List.any_eq_true, List.any_eq_true]
  exact ⟨fun ⟨x, hx, q⟩ => ⟨x, (h x).mp hx, q⟩, fun ⟨x, hx, q⟩ => ⟨x, (h x).mpr hx, q⟩⟩
include ok in
theorem has_ok (n : Nat) {w : List Int} {t : Nat} (v : Int) (ht : t ≤ 1000) (hw : In M.L w) : callD fns (n + 2) j__law_has [.fz (mD M), .fz (tI w), .fz (.int t), .fz (.int v)] = .ret (.fz (.bool (hasB M v w t))) [.fz (mD M), .fz (tI w), .fz (.int t), .fz (.int v)] := by
  have e1 := law_map_ok ok n hw
  have se := side_eq M.lf
  have g1 := gx_at (l := lwm M w) ok.s0 (by rw [lwm_len]; exact ok.s1)
  have st1 : In M.mv.length [M.st] := fun y hy => by rw [List.mem_singleton.mp hy]; exact ⟨ok.s0, ok.s1⟩
  have one : ∀ l : List Int, In 1000 ((l.filter (okV M v)).map fun _ => (1 : Int)) := fun l x hx => by
    obtain ⟨_, _, rfl⟩ := List.mem_map.mp hx
    omega
  rw [call_eq (fn := ⟨4, 7, ir__law_has⟩) rfl rfl]
  cases hf : M.lf with
  | true =>
    have la := lwm_at (M := M) w ok.s0 ok.s1
    rw [hf, if_pos rfl] at la
    rw [la] at g1
    have r := run_in ok w M.st ⟨ok.s0, ok.s1⟩ hw
    obtain ⟨l, u, e2, hu, hi, hm⟩ := reached_ok ok n (b0 := [w.foldl (nx M) M.st]) ht fun y hy => by rw [List.mem_singleton.mp hy]; exact r
    have hb : hasB M v w t = l.any (okV M v) := by
      unfold hasB
      rw [if_pos hf]
      exact any_ext _ fun x => (hm x).symm
    have q := ne_nil _ (one l)
    rw [some_any] at q
    have lo1 := ones_loop ok (callD fns (n + 1)) v (some (.fz (tI w))) (some (.fz (.int t))) (some (.fz (tI (lwm M w)))) l hi (some (.lk (l.map .int)))
    have lo2 := ones_loop ok (callD fns (n + 1)) v (some (.fz (tI w))) (some (.fz (.int t))) (some (.fz (tI (lwm M w)))) l hi (some (.fz (lI l)))
    rw [hf] at se
    rcases hu with rfl | rfl
    · simp [hf] at e1 e2 lo1 q
      simp [ir__law_has, hf, callR, apart, back, stoS, e1, se, g1, e2, lo1, q, endR, hb]
    · simp [hf] at e1 e2 lo2 q
      simp [ir__law_has, hf, callR, apart, back, stoS, e1, se, g1, e2, lo2, q, endR, hb]
  | false =>
    obtain ⟨l, u, e2, hu, hi, hm⟩ := reached_ok ok n (b0 := [M.st]) ht st1
    have hb : hasB M v w t = (l.map (gx (lwm M w))).any (okV M v) := by
      unfold hasB
      rw [if_neg (by rw [hf]; exact Bool.false_ne_true), List.any_map]
      rw [any_ext (l' := rl M t [M.st]) _ hm, Bool.eq_iff_iff, List.any_eq_true, List.any_eq_true]
      have q : ∀ x ∈ rl M t [M.st], gx (lwm M w) x = w.reverse.foldl (nx M) x := fun x hx => by
        have := rl_in ok t _ st1 x hx
        rw [lwm_at w this.1 this.2, hf, if_neg Bool.false_ne_true]
      exact ⟨fun ⟨x, hx, h⟩ => ⟨x, hx, by show okV M v (gx (lwm M w) x) = true; rw [q x hx]; exact h⟩, fun ⟨x, hx, h⟩ => ⟨x, hx, by rw [← q x hx]; exact h⟩⟩
    have hi2 : In M.mv.length (l.map (gx (lwm M w))) := fun y hy => by
      obtain ⟨x, hx, rfl⟩ := List.mem_map.mp hy
      have := hi x hx
      exact gx_in (lwm_in ok hw) this.1 (by rw [lwm_len]; exact this.2)
    have q := ne_nil _ (one (l.map (gx (lwm M w))))
    rw [some_any] at q
    have lo1 := ones_loop ok (callD fns (n + 1)) v (some (.fz (tI w))) (some (.fz (.int t))) (some (.fz (tI (lwm M w)))) (l.map (gx (lwm M w))) hi2 (some (.lk ((l.map (gx (lwm M w))).map .int)))
    have lo0 := mapR_I (f := lcT (callD fns (n + 1)) (.o2 .idx (.p 4) (.p 6)) (.nm 6) .tt) (gx (lwm M w)) [some (.fz (mD M)), some (.fz (tI w)), some (.fz (.int t)), some (.fz (.int v)), some (.fz (tI (lwm M w))), none, none] l fun x hx => by
      have := hi x hx
      have g := gx_at (l := lwm M w) this.1 (by rw [lwm_len]; exact this.2)
      simp [lcT, g]
    rw [hf] at se
    simp [hf] at e1 e2 lo1 lo0 q
    rcases hu with rfl | rfl <;> simp [ir__law_has, hf, callR, apart, back, stoS, e1, se, e2, lo0, lo1, q, endR, hb]
end
end Lk44

end

section
set_option maxRecDepth 100000
set_option maxHeartbeats 2000000
namespace Lk44
open PySem Sf
theorem rangeL {M : Mc} (ok : M.Ok) : rangeD 0 M.L = some ((ids M.L.toNat).map .int) := by
  have L1 := ok.L1
  have := rangeD_nat M.L.toNat (by omega)
  rw [range_ints, show ((M.L.toNat : Nat) : Int) = M.L by omega] at this
  exact this
theorem rangeD_r (k : Nat) (h : k ≤ 16777216) : rangeD 0 (k : Int) = some ((List.range' 0 k).map fun i => PyData.int (i : Nat)) := by
  rw [rangeD_up k h, List.range_eq_range']
theorem addT1 {w : List Int} {a : Int} (h : w.length ≤ 1000) : addW (tI w) (.tuple [.int a]) = some (.fz (tI (w ++ [a]))) := by
  rw [addT, if_pos (by unfold lineN; simp; omega)]
  show _ = some (W.fz (.tuple ((w ++ [a]).map .int)))
  rw [List.map_append]
  rfl
section
variable {M : Mc} (ok : M.Ok)
abbrev dueB : S := .seq (.set 5 (.lc (.var 6) (.nm 6) (.r1 (.o2 .idx (.p 0) (.e (.con (.int 0))))) (.v (.e (.call j__law_has (.cons (.p 0) (.cons (.e (.o2 .add (.p 3) (.e (.dsp true (.cons (.var 6) .nil))))) (.cons (.e (.o2 .sub (.e (.o2 .sub (.p 1) (.p 4))) (.e (.con (.int 1))))) (.cons (.p 2) .nil))))))))) (.set 3 (.o2 .add (.p 3) (.e (.dsp true (.cons (.o2 .idx (.p 5) (.e (.con (.int 0)))) .nil)))))
include ok in
theorem due_loop (n : Nat) (v : Int) (m : Nat) (hm : m ≤ 100) : ∀ (t i : Nat) (w : List Int) (x4 x5 : Option W), i + t = m → w.length ≤ 100 + i → In M.L w → hasB M v w t = true →
    ∃ y4 y5, forR (forT (callD fns (n + 2)) [false, false, false] (.nm 4) dueB) ((List.range' i t).map fun i => PyData.int (i : Nat)) [some (.fz (mD M)), some (.fz (.int m)), some (.fz (.int v)), some (.fz (tI w)), x4, x5, none] = .ok .next [some (.fz (mD M)), some (.fz (.int m)), some (.fz (.int v)), some (.fz (tI (dueF M v t w))), y4, y5, none]
  | 0, i, w, x4, x5, _, _, _, _ => ⟨x4, x5, rfl⟩
  | t + 1, i, w, x4, x5, hi, hl, hw, hh => by
    obtain ⟨a, r, e, a0, a1, hb, hw2⟩ := next_ok ok hw hh
    have rL := rangeL ok
    have c := mapR_if PyData.int (lcT (callD fns (n + 2)) (.var 6) (.nm 6) (.v (.e (.call j__law_has (.cons (.p 0) (.cons (.e (.o2 .add (.p 3) (.e (.dsp true (.cons (.var 6) .nil))))) (.cons (.e (.o2 .sub (.e (.o2 .sub (.p 1) (.p 4))) (.e (.con (.int 1))))) (.cons (.p 2) .nil)))))))) (fun a => hasB M v (w ++ [a]) t) PyData.int [some (.fz (mD M)), some (.fz (.int m)), some (.fz (.int v)), some (.fz (tI w)), some (.fz (.int i)), x5, none] (ids M.L.toNat) fun b hb => by
      have hb := (ids_mem ok).mp hb
      have q := has_ok ok n (w := w ++ [b]) (t := t) v (by omega) fun y hy => by
        rcases List.mem_append.mp hy with hy | hy
        · exact hw y hy
        · rw [List.mem_singleton.mp hy]
          exact hb
      have ad := addT1 (w := w) (a := b) (by omega)
      have em : (m : Int) - (i : Int) - 1 = (t : Int) := by omega
      cases h : hasB M v (w ++ [b]) t <;> simp [lcT, callR, apart, back, ad, em, q, h]
    have c' : mapR (lcT (callD fns (n + 2)) (.var 6) (.nm 6) (.v (.e (.call j__law_has (.cons (.p 0) (.cons (.e (.o2 .add (.p 3) (.e (.dsp true (.cons (.var 6) .nil))))) (.cons (.e (.o2 .sub (.e (.o2 .sub (.p 1) (.p 4))) (.e (.con (.int 1))))) (.cons (.p 2) .nil)))))))) ((ids M.L.toNat).map .int) [some (.fz (mD M)), some (.fz (.int m)), some (.fz (.int v)), some (.fz (tI w)), some (.fz (.int i)), x5, none] = .ok (.int a :: r.map .int) [some (.fz (mD M)), some (.fz (.int m)), some (.fz (.int v)), some (.fz (tI w)), some (.fz (.int i)), x5, none] := by
      rw [c]
      show Res.ok ((nextF M v w t).map PyData.int) _ = _
      rw [e]
      rfl
    have ad := addT1 (w := w) (a := a) (by omega)
    obtain ⟨y4, y5, e2⟩ := due_loop n v m hm t (i + 1) (w ++ [a]) (some (.fz (.int i))) (some (.ol (.int a :: r.map .int))) (by omega) (by rw [List.length_append]; simp; omega) hw2 hb
    refine ⟨y4, y5, ?_⟩
    have st : forT (callD fns (n + 2)) [false, false, false] (.nm 4) dueB (.int (i : Nat)) [some (.fz (mD M)), some (.fz (.int m)), some (.fz (.int v)), some (.fz (tI w)), x4, x5, none] = .ok .next [some (.fz (mD M)), some (.fz (.int m)), some (.fz (.int v)), some (.fz (tI (w ++ [a]))), some (.fz (.int i)), some (.ol (.int a :: r.map .int)), none] := by
      simp at c' rL
      simp [forT, stoS, rL, c', ad]
    rw [List.range'_succ, List.map_cons, forR, st]
    show forR _ _ _ = _
    rw [e2, show dueF M v (t + 1) w = dueF M v t (w ++ [a]) by show dueF M v t (w ++ [(nextF M v w t).headD 0]) = _; rw [e]; rfl]
include ok in
theorem due_ok (n : Nat) (v : Int) {m : Nat} (hm : m ≤ 100) : callD fns (n + 3) j__law_due [.fz (mD M), .fz (.int m), .fz (.int v)] = .ret (.fz (dueD M v m)) [.fz (mD M), .fz (.int m), .fz (.int v)] := by
  have e0 := has_ok ok n (w := []) (t := m) v (by omega) fun y hy => by cases hy
  have rm := rangeD_r m (by omega)
  rw [call_eq (fn := ⟨3, 7, ir__law_due⟩) rfl rfl]
  unfold dueD
  cases h : hasB M v [] m with
  | false =>
    rw [h, show tI [] = .tuple [] from rfl] at e0
    simp [ir__law_due, callR, apart, back, e0, endR]
  | true =>
    rw [h, show tI [] = .tuple [] from rfl] at e0
    obtain ⟨y4, y5, e⟩ := due_loop ok n v m hm m 0 [] none none (by omega) (by simp) (fun y hy => by cases hy) h
    rw [show tI [] = .tuple [] from rfl] at e
    simp [ir__law_due, callR, apart, back, stoS, e0, rm, e, endR]
end
theorem enum_of {α : Type} (f : α → D) (l : List α) : enumD (l.map f) = (List.range l.length).map fun i => .tuple [.int (i : Nat), ((l[i]?).map f).getD .none] := by
  unfold enumD
  refine List.ext_getElem (by simp) fun i h1 h2 => ?_
  have h : i < l.length := by simpa using h2
  simp [h]
theorem enum_ints (l : List Int) : enumD (l.map .int) = (ids l.length).map fun s => .tuple [.int s, .int (gx l s)] := by
  rw [enum_of, List.map_map]
  refine List.map_congr_left fun i hi => ?_
  have h : i < l.length := List.mem_range.mp hi
  simp [gx, h]
theorem enum_rows (M : Mc) : enumD (M.mv.map tI) = (ids M.mv.length).map fun s => .tuple [.int s, tI (rowOf M s)] := by
  rw [enum_of, List.map_map]
  refine List.map_congr_left fun i hi => ?_
  have h : i < M.mv.length := List.mem_range.mp hi
  simp [rowOf, h]
theorem atD_last {α : Type} (xs : List α) (x : α) : atD (xs ++ [x]) (-1) = some x := by
  unfold atD
  rw [if_neg (by decide), if_pos (by simp; omega), show ((-1 : Int) + ((xs ++ [x]).length : Int)).toNat = xs.length by simp; omega]
  simp
theorem any_bools {α : Type} (f : α → Bool) (l : List α) : op1 .any (.ol (l.map fun x => .bool (f x))) = some (.fz (.bool (l.any f))) := by
  show (bools? (l.map fun x => .bool (f x))).map (fun bs => W.fz (.bool (bs.any id))) = _
  rw [bools_map]
  show some (W.fz (.bool ((l.map f).any id))) = _
  rw [List.any_map]
  rfl
end Lk44

end

section
set_option maxRecDepth 100000
set_option maxHeartbeats 2000000
namespace Lk44
open PySem Sf
@[simp] theorem unl_enumC (x : IE) (E E1 : Sto) : (IR.enum x).unlock E E1 = E1 := rfl
section
variable {M : Mc} (ok : M.Ok)
/-- the states from which so many letters lead to the result -/
def gL (M : Mc) (v : Int) (t : Nat) : List Int := (ids M.mv.length).filter fun s => (rl M t [s]).any (okV M v)
theorem ids_k {k : Nat} {s : Int} : s ∈ ids k ↔ 0 ≤ s ∧ s < k := by
  constructor
  · exact range_in k s
  · rintro ⟨h0, h1⟩
    exact List.mem_map.mpr ⟨s.toNat, List.mem_range.mpr (by omega), by omega⟩
theorem gL_mem {v : Int} {t : Nat} {s : Int} (h0 : 0 ≤ s) (h1 : s < M.mv.length) : (gL M v t).any (· == s) = (rl M t [s]).any (okV M v) := by
  rw [any_mem]
  unfold gL
  cases h : (rl M t [s]).any (okV M v) with
  | true => exact decide_eq_true (List.mem_filter.mpr ⟨ids_k.mpr ⟨h0, h1⟩, h⟩)
  | false =>
    refine decide_eq_false fun hm => ?_
    have := (List.mem_filter.mp hm).2
    rw [h] at this
    cases this
include ok in
theorem gL_step {v : Int} {t : Nat} : ((ids M.mv.length).filter fun s => (rowOf M s).any fun y => (gL M v t).any (· == y)) = gL M v (t + 1) := by
  unfold gL
  refine List.filter_congr fun s hs => ?_
  have hs := ids_k.mp hs
  obtain ⟨_, r2⟩ := row_at hs.1 hs.2
  have hr := (ok.rl _ r2).2
  rw [Bool.eq_iff_iff, List.any_eq_true, List.any_eq_true]
  constructor
  · rintro ⟨y, hy, h⟩
    have q := hr y hy
    have h' : (rl M t [y]).any (okV M v) = true := by rw [← gL_mem q.1 q.2]; exact h
    obtain ⟨x, hx, hv⟩ := List.any_eq_true.mp h'
    refine ⟨x, (rl_mem M x t _).mpr ⟨y, ?_, hx⟩, hv⟩
    simpa using hy
  · rintro ⟨x, hx, hv⟩
    obtain ⟨y, hy, hx⟩ := (rl_mem M x t _).mp (show x ∈ rl M t ([s].flatMap (rowOf M)) from hx)
    have hy : y ∈ rowOf M s := by simpa using hy
    have q := hr y hy
    refine ⟨y, hy, ?_⟩
    have := gL_mem (M := M) (v := v) (t := t) q.1 q.2
    unfold gL at this
    rw [this]
    exact List.any_eq_true.mpr ⟨x, hx, hv⟩
include ok in
theorem good_ok (n : Nat) (v : Int) : callD fns (n + 1) j_good_states [.fz (mD M), .fz (.int v)] = .ret (.ol ((gL M v 0).map .int)) [.fz (mD M), .fz (.int v)] := by
  rw [call_eq (fn := ⟨2, 4, ir_good_states⟩) rfl rfl]
  have c := mapR_if (fun s : Int => PyData.tuple [.int s, .int (gx M.out s)]) (lcT (callD fns n) (.var 3) (.tp [3, 2]) (.v (.e (.o2 .eq (.p 2) (.p 1))))) (okV M v) PyData.int [some (.fz (mD M)), some (.fz (.int v)), none, none] (ids M.out.length) fun s _ => by
    unfold okV
    by_cases h : gx M.out s = v
    · simp [lcT, h]
    · simp [lcT, h]
  have g0 : ((ids M.out.length).filter (okV M v)) = gL M v 0 := by
    unfold gL
    rw [ok.so]
    exact List.filter_congr fun s _ => by simp [rl]
  rw [g0] at c
  have en := enum_ints M.out
  simp [ir_good_states]
  rw [en]
  rw [c]
  simp [endR]
abbrev GL (M : Mc) (v : Int) (t : Nat) : List D := (List.range t).map fun i => lI (gL M v i)
theorem GL_snoc (M : Mc) (v : Int) (t : Nat) : GL M v (t + 1) = GL M v t ++ [lI (gL M v t)] := by
  unfold GL
  rw [List.range_succ, List.map_append]
  rfl
abbrev goalB : S := .app 3 (.lc (.var 5) (.tp [5, 9]) (.enum (.o2 .idx (.p 0) (.e (.con (.int 3))))) (.v (.e (.o1 .any (.e (.lc (.o2 .isin (.p 10) (.e (.o2 .idx (.p 3) (.e (.o1 .neg (.e (.con (.int 1)))))))) (.nm 10) (.own 9) .tt))))))
include ok in
theorem goal_loop (cl : Nat → List W → CRes) (v : Int) (m : Option W) : ∀ (ds : List D) (t : Nat) (x4 : Option W), t + ds.length ≤ 1000 →
    ∃ y4, forR (forT cl [false, false, false] (.nm 4) goalB) ds [some (.fz (mD M)), m, some (.fz (.int v)), some (.ol (GL M v (t + 1))), x4, none, none, none, none, none, none, none] = .ok .next [some (.fz (mD M)), m, some (.fz (.int v)), some (.ol (GL M v (t + ds.length + 1))), y4, none, none, none, none, none, none, none]
  | [], t, x4, _ => ⟨x4, rfl⟩
  | d :: ds, t, x4, hl => by
    simp only [List.length_cons] at hl
    obtain ⟨y4, e⟩ := goal_loop cl v m ds (t + 1) (some (.fz d)) (by omega)
    refine ⟨y4, ?_⟩
    have inner : ∀ s : Int, mapR (lcT cl (.o2 .isin (.p 10) (.e (.o2 .idx (.p 3) (.e (.o1 .neg (.e (.con (.int 1)))))))) (.nm 10) .tt) ((rowOf M s).map .int) [some (.fz (mD M)), m, some (.fz (.int v)), some (.ol (GL M v (t + 1))), some (.fz d), some (.fz (.int s)), none, none, none, some (.fz (tI (rowOf M s))), none, none] = .ok ((rowOf M s).map fun y => .bool ((gL M v t).any (· == y))) [some (.fz (mD M)), m, some (.fz (.int v)), some (.ol (GL M v (t + 1))), some (.fz d), some (.fz (.int s)), none, none, none, some (.fz (tI (rowOf M s))), none, none] := fun s => by
      refine mapR_of PyData.int _ (fun y => .bool ((gL M v t).any (· == y))) _ _ fun y _ => ?_
      have la := atD_last (GL M v t) (lI (gL M v t))
      rw [← GL_snoc] at la
      simp [lcT, la, in_ints]
    have c := mapR_if (fun s : Int => PyData.tuple [.int s, tI (rowOf M s)]) (lcT cl (.var 5) (.tp [5, 9]) (.v (.e (.o1 .any (.e (.lc (.o2 .isin (.p 10) (.e (.o2 .idx (.p 3) (.e (.o1 .neg (.e (.con (.int 1)))))))) (.nm 10) (.own 9) .tt)))))) (fun s => (rowOf M s).any fun y => (gL M v t).any (· == y)) PyData.int [some (.fz (mD M)), m, some (.fz (.int v)), some (.ol (GL M v (t + 1))), some (.fz d), none, none, none, none, none, none, none] (ids M.mv.length) fun s _ => by
      have i := inner s
      have ab := any_bools (fun y => (gL M v t).any (· == y)) (rowOf M s)
      cases h : (rowOf M s).any fun y => (gL M v t).any (· == y) with
      | true =>
        rw [h] at ab
        simp [lcT, i, ab]
      | false =>
        rw [h] at ab
        simp [lcT, i, ab]
    rw [gL_step ok] at c
    have en := enum_rows M
    have st : forT cl [false, false, false] (.nm 4) goalB d [some (.fz (mD M)), m, some (.fz (.int v)), some (.ol (GL M v (t + 1))), x4, none, none, none, none, none, none, none] = .ok .next [some (.fz (mD M)), m, some (.fz (.int v)), some (.ol (GL M v (t + 1 + 1))), some (.fz d), none, none, none, none, none, none, none] := by
      rw [GL_snoc M v (t + 1)]
      have ln : (GL M v (t + 1)).length < lineN := by
        unfold lineN
        simp
        omega
      have ln2 : t + 1 < lineN := by unfold lineN; omega
      generalize ids M.mv.length = I at c en
      simp [forT, en, c, ln2]
    rw [forR, st]
    show forR _ _ _ = _
    rw [e, show t + 1 + ds.length + 1 = t + (d :: ds).length + 1 by simp; omega]
/-- the goals from behind -/
def dn (f : Nat → D) : Nat → List D
  | 0 => []
  | t + 1 => f t :: dn f t
theorem dn_eq (f : Nat → D) : ∀ t, ((List.range (t + 1)).map f).dropLast.reverse = dn f t := by
  have q : ∀ t, ((List.range t).map f).reverse = dn f t := fun t => by
    induction t with
    | zero => rfl
    | succ t ih =>
      rw [List.range_succ, List.map_append, List.reverse_append, ih]
      rfl
  intro t
  rw [← q, List.range_succ, List.map_append]
  simp
abbrev walkB : S := .seq (.set 8 (.o2 .idx (.e (.lc (.var 11) (.tp [11, 10]) (.enum (.o2 .idx (.e (.o2 .idx (.p 0) (.e (.con (.int 3))))) (.p 5))) (.v (.e (.o2 .isin (.p 10) (.p 7)))))) (.e (.con (.int 0))))) (.par [5, 6] (.cons (.o2 .idx (.e (.o2 .idx (.e (.o2 .idx (.p 0) (.e (.con (.int 3))))) (.p 5))) (.p 8)) (.cons (.o2 .add (.p 6) (.e (.dsp true (.cons (.var 8) .nil)))) .nil)))
include ok in
theorem walk_loop (hf : M.lf = true) (cl : Nat → List W → CRes) (v : Int) (m g x4 : Option W) : ∀ (t : Nat) (w : List Int) (x7 x8 : Option W), w.length + t ≤ 100 → In M.L w → hasB M v w t = true →
    ∃ y5 y7 y8, forR (forT cl [false, false, false] (.nm 7) walkB) (dn (fun i => lI (gL M v i)) t) [some (.fz (mD M)), m, some (.fz (.int v)), g, x4, some (.fz (.int (w.foldl (nx M) M.st))), some (.fz (tI w)), x7, x8, none, none, none] = .ok .next [some (.fz (mD M)), m, some (.fz (.int v)), g, x4, y5, some (.fz (tI (dueF M v t w))), y7, y8, none, none, none]
  | 0, w, x7, x8, _, _, _ => ⟨_, x7, x8, rfl⟩
  | t + 1, w, x7, x8, hl, hw, hh => by
    obtain ⟨a, r, e, a0, a1, hb, hw2⟩ := next_ok ok hw hh
    have hs := run_in ok w M.st ⟨ok.s0, ok.s1⟩ hw
    obtain ⟨y5, y7, y8, e2⟩ := walk_loop hf cl v m g x4 t (w ++ [a]) (some (.fz (lI (gL M v t)))) (some (.fz (.int a))) (by rw [List.length_append]; simp; omega) hw2 hb
    refine ⟨y5, y7, y8, ?_⟩
    generalize hS : w.foldl (nx M) M.st = s at hs
    obtain ⟨r1, r2⟩ := row_at hs.1 hs.2
    have hr := ok.rl _ r2
    have en := enum_ints (rowOf M s)
    have rlen : (rowOf M s).length = M.L.toNat := by omega
    rw [rlen] at en
    have c := mapR_if (fun b : Int => PyData.tuple [.int b, .int (gx (rowOf M s) b)]) (lcT cl (.var 11) (.tp [11, 10]) (.v (.e (.o2 .isin (.p 10) (.p 7))))) (fun b => hasB M v (w ++ [b]) t) PyData.int [some (.fz (mD M)), m, some (.fz (.int v)), g, x4, some (.fz (.int s)), some (.fz (tI w)), some (.fz (lI (gL M v t))), x8, none, none, none] (ids M.L.toNat) fun b hb => by
      have hb := (ids_mem ok).mp hb
      have n1 := nx_in ok hs.1 hs.2 hb.1 hb.2
      have q : (gL M v t).any (· == gx (rowOf M s) b) = hasB M v (w ++ [b]) t := by
        rw [show gx (rowOf M s) b = nx M s b from rfl, gL_mem n1.1 n1.2]
        unfold hasB
        rw [if_pos hf, List.foldl_append, hS]
        rfl
      cases h : hasB M v (w ++ [b]) t with
      | true =>
        rw [h] at q
        simp [lcT, in_ints, q]
      | false =>
        rw [h] at q
        simp [lcT, in_ints, q]
    have c' : mapR (lcT cl (.var 11) (.tp [11, 10]) (.v (.e (.o2 .isin (.p 10) (.p 7))))) ((ids M.L.toNat).map fun b : Int => PyData.tuple [.int b, .int (gx (rowOf M s) b)]) [some (.fz (mD M)), m, some (.fz (.int v)), g, x4, some (.fz (.int s)), some (.fz (tI w)), some (.fz (lI (gL M v t))), x8, none, none, none] = .ok (.int a :: r.map .int) [some (.fz (mD M)), m, some (.fz (.int v)), g, x4, some (.fz (.int s)), some (.fz (tI w)), some (.fz (lI (gL M v t))), x8, none, none, none] := by
      rw [c]
      show Res.ok ((nextF M v w t).map PyData.int) _ = _
      rw [e]
      rfl
    have g1 := gx_at (l := rowOf M s) a0 (by rw [hr.1]; exact a1)
    have ad := addT1 (w := w) (a := a) (by omega)
    have st : forT cl [false, false, false] (.nm 7) walkB (lI (gL M v t)) [some (.fz (mD M)), m, some (.fz (.int v)), g, x4, some (.fz (.int s)), some (.fz (tI w)), x7, x8, none, none, none] = .ok .next [some (.fz (mD M)), m, some (.fz (.int v)), g, x4, some (.fz (.int (nx M s a))), some (.fz (tI (w ++ [a]))), some (.fz (lI (gL M v t))), some (.fz (.int a)), none, none, none] := by
      generalize ids M.L.toNat = I at c' en
      simp [forT, stoS, unpS, r1, en, c', g1, ad]
      rfl
    rw [dn, forR, st]
    show forR _ _ _ = _
    rw [List.foldl_append, hS] at e2
    rw [show dueF M v (t + 1) w = dueF M v t (w ++ [a]) by show dueF M v t (w ++ [(nextF M v w t).headD 0]) = _; rw [e]; rfl]
    exact e2
include ok in
theorem from_left_ok (hf : M.lf = true) (n : Nat) (v : Int) {m : Nat} (hm : m ≤ 100) : callD fns (n + 2) j_from_left [.fz (mD M), .fz (.int m), .fz (.int v)] = .ret (.fz (dueD M v m)) [.fz (mD M), .fz (.int m), .fz (.int v)] := by
  have e0 := good_ok ok n v
  have rm := rangeD_r m (by omega)
  obtain ⟨y4, e1⟩ := goal_loop ok (callD fns (n + 1)) v (some (.fz (.int m))) ((List.range' 0 m).map fun i => PyData.int (i : Nat)) 0 none (by simp; omega)
  have la := atD_last (GL M v m) (lI (gL M v m))
  rw [← GL_snoc] at la
  have sm := gL_mem (M := M) (v := v) (t := m) ok.s0 ok.s1
  have hb : hasB M v [] m = (gL M v m).any (· == M.st) := by
    unfold hasB
    rw [if_pos hf, sm]
    rfl
  have g1 : GL M v 1 = [lI (gL M v 0)] := rfl
  rw [show 0 + ((List.range' 0 m).map fun i => PyData.int (i : Nat)).length + 1 = m + 1 by simp, g1] at e1
  rw [call_eq (fn := ⟨3, 12, ir_from_left⟩) rfl rfl]
  unfold dueD
  cases h : hasB M v [] m with
  | false =>
    rw [h] at hb
    simp [ir_from_left, callR, apart, back, stoS, unpS, e0, rm, e1, la, in_ints, ← hb, endR]
  | true =>
    obtain ⟨y5, y7, y8, e2⟩ := walk_loop ok hf (callD fns (n + 1)) v (some (.fz (.int m))) (some (.ol (GL M v (m + 1)))) y4 m [] none none (by simp; omega) (fun y hy => by cases hy) h
    rw [h] at hb
    rw [show tI [] = .tuple [] from rfl, show ([] : List Int).foldl (nx M) M.st = M.st from rfl] at e2
    have dq := dn_eq (fun i => lI (gL M v i)) m
    simp [ir_from_left, callR, apart, back, stoS, unpS, e0, rm, e1, la, in_ints, ← hb, dq, e2, endR]
end
end Lk44

end

section
set_option maxRecDepth 100000
set_option maxHeartbeats 2000000
namespace Lk44
open PySem Sf
theorem insU_mem (x z : Int) (l : List Int) : z ∈ insU x l ↔ z = x ∨ z ∈ l := by
  have h := sortU_mem
  induction l with
  | nil => simp [insU]
  | cons y r ih =>
    unfold insU
    split
    · simp
    · split
      · simp_all
      · simp [ih]
        constructor
        · rintro (h | h | h) <;> simp [h]
        · rintro (h | h | h) <;> simp [h]
theorem sset_intsL (l : List Int) (h : l.length < 64) : op1 .sset (.ol (l.map .int)) = some (.ol ((sortU l).map .int)) := by
  show ((ints? (l.map .int)).bind fun ns => if ns.length < 64 then some (W.ol ((sortU ns).map .int)) else none) = _
  rw [ints_map]
  show (if l.length < 64 then _ else _) = _
  rw [if_pos h]
theorem mapL_ints (f : D → Sto → Res (List D)) (g : Int → List Int) (E : Sto) : ∀ l : List Int, (∀ v ∈ l, f (.int v) E = .ok ((g v).map .int) E) → mapL f (l.map .int) E = .ok ((l.flatMap g).map .int) E
  | [], _ => rfl
  | x :: l, h => by
    rw [List.map_cons, mapL, h x (List.mem_cons_self ..), Res.bind_ok, mapL_ints f g E l fun v hv => h v (List.mem_cons_of_mem _ hv), Res.bind_ok, List.flatMap_cons, List.map_append]
/-- what is come to, sorted -/
def bG (M : Mc) : Nat → List Int
  | 0 => [M.st]
  | t + 1 => sortU ((bG M t).flatMap (rowOf M))
abbrev BL (M : Mc) (t : Nat) : List D := (List.range t).map fun i => lI (bG M i)
theorem BL_snoc (M : Mc) (t : Nat) : BL M (t + 1) = BL M t ++ [lI (bG M t)] := by
  unfold BL
  rw [List.range_succ, List.map_append]
  rfl
section
variable {M : Mc} (ok : M.Ok)
theorem bG_mem (x : Int) : ∀ t : Nat, x ∈ bG M t ↔ x ∈ rl M t [M.st]
  | 0 => Iff.rfl
  | t + 1 => by
    unfold bG
    rw [sortU_mem, rl_snoc, List.mem_flatMap, List.mem_flatMap]
    exact ⟨fun ⟨s, hs, h⟩ => ⟨s, (bG_mem s t).mp hs, h⟩, fun ⟨s, hs, h⟩ => ⟨s, (bG_mem s t).mpr hs, h⟩⟩
include ok in
theorem bG_in (t : Nat) : In M.mv.length (bG M t) := fun x hx => rl_in ok t [M.st] (fun y hy => by rw [List.mem_singleton.mp hy]; exact ⟨ok.s0, ok.s1⟩) x ((bG_mem x t).mp hx)
include ok in
theorem bG_len (t : Nat) : (bG M t).length ≤ 4 := by
  have hn : (bG M t).Nodup := by
    cases t with
    | zero => simp [bG]
    | succ t => exact (sortU_sorted _).imp fun h => Int.ne_of_lt h
  have k4 := ok.k4
  have l4 := len_four (bG M t) fun y hy => by
    have := bG_in ok t y hy
    omega
  have c := fun x => List.nodup_iff_count.mp hn x
  have := c 0
  have := c 1
  have := c 2
  have := c 3
  omega
include ok in
theorem flat_len : ∀ l : List Int, In M.mv.length l → (l.flatMap (rowOf M)).length ≤ 3 * l.length
  | [], _ => Nat.le_refl _
  | s :: l, h => by
    have ih := flat_len l fun y hy => h y (List.mem_cons_of_mem _ hy)
    have hs := h s (List.mem_cons_self ..)
    obtain ⟨_, r2⟩ := row_at hs.1 hs.2
    have := (ok.rl _ r2).1
    have := ok.L1
    rw [List.flatMap_cons, List.length_append, List.length_cons]
    omega
abbrev begB : S := .app 3 (.o1 .sset (.e (.lc2 (.var 9) (.nm 10) (.its (.o2 .idx (.p 3) (.e (.o1 .neg (.e (.con (.int 1))))))) (.nm 9) (.its (.o2 .idx (.e (.o2 .idx (.p 0) (.e (.con (.int 3))))) (.p 10))) .tt)))
include ok in
theorem beg_loop (cl : Nat → List W → CRes) (v m : Option W) : ∀ (ds : List D) (t : Nat) (x4 : Option W), t + ds.length ≤ 1000 →
    ∃ y4, forR (forT cl [false, false, false] (.nm 4) begB) ds [some (.fz (mD M)), m, v, some (.ol (BL M (t + 1))), x4, none, none, none, none, none, none, none] = .ok .next [some (.fz (mD M)), m, v, some (.ol (BL M (t + ds.length + 1))), y4, none, none, none, none, none, none, none]
  | [], t, x4, _ => ⟨x4, rfl⟩
  | d :: ds, t, x4, hl => by
    simp only [List.length_cons] at hl
    obtain ⟨y4, e⟩ := beg_loop cl v m ds (t + 1) (some (.fz d)) (by omega)
    refine ⟨y4, ?_⟩
    have la := atD_last (BL M t) (lI (bG M t))
    rw [← BL_snoc] at la
    have inner : ∀ s ∈ bG M t, lc2T cl (.var 9) (.nm 10) (.nm 9) (.its (.o2 .idx (.e (.o2 .idx (.p 0) (.e (.con (.int 3))))) (.p 10))) .tt (.int s) [some (.fz (mD M)), m, v, some (.ol (BL M (t + 1))), some (.fz d), none, none, none, none, none, none, none] = .ok ((rowOf M s).map .int) [some (.fz (mD M)), m, v, some (.ol (BL M (t + 1))), some (.fz d), none, none, none, none, none, none, none] := fun s hs => by
      have hs := bG_in ok t s hs
      obtain ⟨r1, _⟩ := row_at hs.1 hs.2
      have c := mapR_of PyData.int (lcT cl (.var 9) (.nm 9) .tt) PyData.int [some (.fz (mD M)), m, v, some (.ol (BL M (t + 1))), some (.fz d), none, none, none, none, none, some (.fz (.int s)), none] (rowOf M s) fun y _ => by
        simp [lcT]
      simp [lc2T, r1, c]
    have c := mapL_ints _ (rowOf M) _ (bG M t) inner
    have fl := flat_len ok _ (bG_in ok t)
    have bl := bG_len ok t
    have so := sset_intsL ((bG M t).flatMap (rowOf M)) (by omega)
    have st : forT cl [false, false, false] (.nm 4) begB d [some (.fz (mD M)), m, v, some (.ol (BL M (t + 1))), x4, none, none, none, none, none, none, none] = .ok .next [some (.fz (mD M)), m, v, some (.ol (BL M (t + 1 + 1))), some (.fz d), none, none, none, none, none, none, none] := by
      rw [BL_snoc M (t + 1)]
      have ln2 : t + 1 < lineN := by unfold lineN; omega
      have ln3 : ((bG M t).flatMap (rowOf M)).length ≤ lineN := by unfold lineN; omega
      have sb : sortU ((bG M t).flatMap (rowOf M)) = bG M (t + 1) := rfl
      rw [sb] at so
      generalize (bG M t).flatMap (rowOf M) = F at c so ln3
      simp [forT, la, c, ln2, ln3, so]
    rw [forR, st]
    show forR _ _ _ = _
    rw [e, show t + 1 + ds.length + 1 = t + (d :: ds).length + 1 by simp; omega]
theorem any_map_ext (l : List Int) (p q : Int → Bool) (h : ∀ x ∈ l, p x = q x) : l.any p = l.any q := by
  rw [Bool.eq_iff_iff, List.any_eq_true, List.any_eq_true]
  exact ⟨fun ⟨x, hx, e⟩ => ⟨x, hx, by rw [← h x hx]; exact e⟩, fun ⟨x, hx, e⟩ => ⟨x, hx, by rw [h x hx]; exact e⟩⟩
/-- the goals are good for what has been chosen -/
def RgI (M : Mc) (v : Int) (w : List Int) (t : Nat) (G : List Int) : Prop := ∀ s ∈ bG M t, G.any (· == s) = okV M v (w.reverse.foldl (nx M) s)
theorem has_right (hf : M.lf = false) (v : Int) (w : List Int) (t : Nat) : hasB M v w t = (bG M t).any fun s => okV M v (w.reverse.foldl (nx M) s) := by
  unfold hasB
  rw [if_neg (by rw [hf]; exact Bool.false_ne_true)]
  exact any_ext _ fun x => (bG_mem x t).symm
include ok in
theorem rg_nx {v : Int} {w : List Int} {t : Nat} {G : List Int} (h : RgI M v w (t + 1) G) {s a : Int} (hs : s ∈ bG M t) (a0 : 0 ≤ a) (a1 : a < M.L) : G.any (· == nx M s a) = okV M v ((w ++ [a]).reverse.foldl (nx M) s) := by
  have q := bG_in ok t s hs
  rw [h (nx M s a) ?_, List.reverse_append]
  · rfl
  · unfold bG
    rw [sortU_mem]
    exact List.mem_flatMap.mpr ⟨s, hs, (row_mem ok q.1 q.2).mpr ⟨a, a0, a1, rfl⟩⟩
theorem filter_any (l : List Int) (p : Int → Bool) {s : Int} (hs : s ∈ l) : (l.filter p).any (· == s) = p s := by
  rw [any_mem]
  cases h : p s with
  | true => exact decide_eq_true (List.mem_filter.mpr ⟨hs, h⟩)
  | false =>
    refine decide_eq_false fun hm => ?_
    have := (List.mem_filter.mp hm).2
    rw [h] at this
    cases this
abbrev e1A : IE := .o2 .isin (.e (.o2 .idx (.e (.o2 .idx (.e (.o2 .idx (.p 0) (.e (.con (.int 3))))) (.p 10))) (.p 11))) (.p 5)
abbrev e2A : IE := .o2 .isin (.e (.o2 .idx (.e (.o2 .idx (.e (.o2 .idx (.p 0) (.e (.con (.int 3))))) (.p 10))) (.e (.o2 .idx (.p 8) (.e (.con (.int 0))))))) (.p 5)
abbrev rwB : S := .seq (.set 8 (.lc (.var 11) (.nm 11) (.r1 (.o2 .idx (.p 0) (.e (.con (.int 0))))) (.v (.e (.o1 .any (.e (.lc e1A (.nm 10) (.own 7) .tt))))))) (.unp [5, 6] (.dsp true (.cons (.lc (.var 10) (.nm 10) (.own 7) (.v (.e e2A))) (.cons (.o2 .add (.p 6) (.e (.dsp true (.cons (.o2 .idx (.p 8) (.e (.con (.int 0)))) .nil)))) .nil))))
include ok in
theorem rwalk_loop (hf : M.lf = false) (cl : Nat → List W → CRes) (v : Int) (m va g x4 : Option W) : ∀ (t : Nat) (w G : List Int) (x7 x8 : Option W), w.length + t ≤ 100 → In M.L w → hasB M v w t = true → RgI M v w t G →
    ∃ y5 y7 y8, forR (forT cl [false, false, false] (.nm 7) rwB) (dn (fun i => lI (bG M i)) t) [some (.fz (mD M)), m, va, g, x4, some (.fz (lI G)), some (.fz (tI w)), x7, x8, none, none, none] = .ok .next [some (.fz (mD M)), m, va, g, x4, y5, some (.fz (tI (dueF M v t w))), y7, y8, none, none, none]
  | 0, w, G, x7, x8, _, _, _, _ => ⟨_, x7, x8, rfl⟩
  | t + 1, w, G, x7, x8, hl, hw, hh, hG => by
    obtain ⟨a, r, e, a0, a1, hb, hw2⟩ := next_ok ok hw hh
    obtain ⟨y5, y7, y8, e2⟩ := rwalk_loop hf cl v m va g x4 t (w ++ [a]) ((bG M t).filter fun s => G.any (· == nx M s a)) (some (.fz (lI (bG M t)))) (some (.ol (.int a :: r.map .int))) (by rw [List.length_append]; simp; omega) hw2 hb fun s hs => by
      rw [filter_any _ _ hs]
      exact rg_nx ok hG hs a0 a1
    refine ⟨y5, y7, y8, ?_⟩
    have rL := rangeL ok
    have c1 : ∀ b : Int, 0 ≤ b → b < M.L → mapR (lcT cl e1A (.nm 10) .tt) ((bG M t).map .int) [some (.fz (mD M)), m, va, g, x4, some (.fz (lI G)), some (.fz (tI w)), some (.fz (lI (bG M t))), x8, none, none, some (.fz (.int b))] = .ok ((bG M t).map fun s => .bool (G.any (· == nx M s b))) [some (.fz (mD M)), m, va, g, x4, some (.fz (lI G)), some (.fz (tI w)), some (.fz (lI (bG M t))), x8, none, none, some (.fz (.int b))] := fun b b0 b1 => by
      refine mapR_of PyData.int _ (fun s => .bool (G.any (· == nx M s b))) _ _ fun s hs => ?_
      have q := bG_in ok t s hs
      obtain ⟨r1, r2⟩ := row_at q.1 q.2
      have g1 := gx_at (l := rowOf M s) b0 (by rw [(ok.rl _ r2).1]; exact b1)
      simp [lcT, r1, g1, in_ints, nx]
    have c := mapR_if PyData.int (lcT cl (.var 11) (.nm 11) (.v (.e (.o1 .any (.e (.lc e1A (.nm 10) (.own 7) .tt)))))) (fun b => hasB M v (w ++ [b]) t) PyData.int [some (.fz (mD M)), m, va, g, x4, some (.fz (lI G)), some (.fz (tI w)), some (.fz (lI (bG M t))), x8, none, none, none] (ids M.L.toNat) fun b hb => by
      have hb := (ids_mem ok).mp hb
      have i := c1 b hb.1 hb.2
      have ab := any_bools (fun s => G.any (· == nx M s b)) (bG M t)
      have q : ((bG M t).any fun s => G.any (· == nx M s b)) = hasB M v (w ++ [b]) t := by
        rw [has_right hf]
        exact any_map_ext _ _ _ fun s hs => rg_nx ok hG hs hb.1 hb.2
      rw [q] at ab
      cases h : hasB M v (w ++ [b]) t with
      | true =>
        rw [h] at ab
        simp only [e1A] at i
        simp [lcT, i, ab]
      | false =>
        rw [h] at ab
        simp only [e1A] at i
        simp [lcT, i, ab]
    have c' : mapR (lcT cl (.var 11) (.nm 11) (.v (.e (.o1 .any (.e (.lc e1A (.nm 10) (.own 7) .tt)))))) ((ids M.L.toNat).map .int) [some (.fz (mD M)), m, va, g, x4, some (.fz (lI G)), some (.fz (tI w)), some (.fz (lI (bG M t))), x8, none, none, none] = .ok (.int a :: r.map .int) [some (.fz (mD M)), m, va, g, x4, some (.fz (lI G)), some (.fz (tI w)), some (.fz (lI (bG M t))), x8, none, none, none] := by
      rw [c]
      show Res.ok ((nextF M v w t).map PyData.int) _ = _
      rw [e]
      rfl
    have c2 := mapR_if PyData.int (lcT cl (.var 10) (.nm 10) (.v (.e e2A))) (fun s => G.any (· == nx M s a)) PyData.int [some (.fz (mD M)), m, va, g, x4, some (.fz (lI G)), some (.fz (tI w)), some (.fz (lI (bG M t))), some (.ol (.int a :: r.map .int)), none, none, none] (bG M t) fun s hs => by
      have q := bG_in ok t s hs
      obtain ⟨r1, r2⟩ := row_at q.1 q.2
      have g1 := gx_at (l := rowOf M s) a0 (by rw [(ok.rl _ r2).1]; exact a1)
      have g2 : gx (rowOf M s) a = nx M s a := rfl
      rw [g2] at g1
      cases h : G.any (· == nx M s a) <;> simp [lcT, r1, g1, in_ints, h]
    have ad := addT1 (w := w) (a := a) (by omega)
    have st : forT cl [false, false, false] (.nm 7) rwB (lI (bG M t)) [some (.fz (mD M)), m, va, g, x4, some (.fz (lI G)), some (.fz (tI w)), x7, x8, none, none, none] = .ok .next [some (.fz (mD M)), m, va, g, x4, some (.fz (lI ((bG M t).filter fun s => G.any (· == nx M s a)))), some (.fz (tI (w ++ [a]))), some (.fz (lI (bG M t))), some (.ol (.int a :: r.map .int)), none, none, none] := by
      generalize ids M.L.toNat = I at c' rL
      simp [forT, stoS, unpS, rL, c', c2, ad]
    rw [dn, forR, st]
    show forR _ _ _ = _
    rw [show dueF M v (t + 1) w = dueF M v t (w ++ [a]) by show dueF M v t (w ++ [(nextF M v w t).headD 0]) = _; rw [e]; rfl]
    exact e2
include ok in
theorem from_right_ok (hf : M.lf = false) (n : Nat) (v : Int) {m : Nat} (hm : m ≤ 100) : callD fns (n + 2) j_from_right [.fz (mD M), .fz (.int m), .fz (.int v)] = .ret (.fz (dueD M v m)) [.fz (mD M), .fz (.int m), .fz (.int v)] := by
  have e0 := good_ok ok n v
  have rm := rangeD_r m (by omega)
  obtain ⟨y4, e1⟩ := beg_loop ok (callD fns (n + 1)) (some (.fz (.int v))) (some (.fz (.int m))) ((List.range' 0 m).map fun i => PyData.int (i : Nat)) 0 none (by simp; omega)
  have la := atD_last (BL M m) (lI (bG M m))
  rw [← BL_snoc] at la
  have g1 : BL M 1 = [.list [.int M.st]] := rfl
  rw [show 0 + ((List.range' 0 m).map fun i => PyData.int (i : Nat)).length + 1 = m + 1 by simp, g1] at e1
  have hG : ∀ t, RgI M v [] t (gL M v 0) := fun t s hs => by
    have q := bG_in ok t s hs
    rw [gL_mem q.1 q.2]
    simp [rl]
  have hb : hasB M v [] m = (bG M m).any fun s => (gL M v 0).any (· == s) := by
    rw [has_right hf]
    exact any_map_ext _ _ _ fun s hs => (hG m s hs).symm
  have ab := any_bools (fun s => (gL M v 0).any (· == s)) (bG M m)
  rw [← hb] at ab
  have c := mapR_of PyData.int (lcT (callD fns (n + 1)) (.o2 .isin (.p 10) (.p 5)) (.nm 10) .tt) (fun s => .bool ((gL M v 0).any (· == s))) [some (.fz (mD M)), some (.fz (.int m)), some (.fz (.int v)), some (.ol (BL M (m + 1))), y4, some (.fz (lI (gL M v 0))), some (.fz (.tuple [])), none, none, none, none, none] (bG M m) fun s _ => by
    simp [lcT, in_ints]
  rw [call_eq (fn := ⟨3, 12, ir_from_right⟩) rfl rfl]
  unfold dueD
  cases h : hasB M v [] m with
  | false =>
    rw [h] at ab
    simp [ir_from_right, callR, apart, back, stoS, unpS, e0, rm, e1, la, c, ab, endR]
  | true =>
    obtain ⟨y5, y7, y8, e2⟩ := rwalk_loop ok hf (callD fns (n + 1)) v (some (.fz (.int m))) (some (.fz (.int v))) (some (.ol (BL M (m + 1)))) y4 m [] (gL M v 0) none none (by simp; omega) (fun y hy => by cases hy) h (hG m)
    rw [h] at ab
    rw [show tI [] = .tuple [] from rfl] at e2
    have dq := dn_eq (fun i => lI (bG M i)) m
    simp [ir_from_right, callR, apart, back, stoS, unpS, e0, rm, e1, la, c, ab, dq, e2, endR]
end
end Lk44

end

section
set_option maxRecDepth 100000
set_option maxHeartbeats 2000000
namespace Lk44
open PySem Sf
theorem tm_sideS (b : Bool) : Sml (sD b) 0 50 := by
  cases b
  · exact tm_str (by decide +kernel) (by decide +kernel)
  · exact tm_str (by decide +kernel) (by decide +kernel)
section
variable {M : Mc} (ok : M.Ok)
include ok in
theorem tm_mach : Sml (mD M) 3 3000 := by
  have L1 := ok.L1
  have k4 := ok.k4
  have so := ok.so
  have s0 := ok.s0
  have s1 := ok.s1
  have to : Sml (tI M.out) 1 204 := (tm_word fun x hx => by have := ok.ro x hx; omega).mono (Nat.le_refl _) (by omega)
  have tr : Smls (M.mv.map tI) 1 (4 * (153 + 1)) := tms_le (fun d hd => by
    obtain ⟨r, hr, rfl⟩ := List.mem_map.mp hd
    obtain ⟨q1, q2⟩ := ok.rl r hr
    exact (tm_word fun x hx => by have := q2 x hx; omega).mono (Nat.le_refl _) (by omega)) (by rw [List.length_map]; exact k4)
  have i1 : Sml (.int M.L) 2 50 := (tm_int (by omega) (by omega)).mono (by decide) (Nat.le_refl _)
  have i2 : Sml (.int M.st) 2 50 := (tm_int (by omega) (by omega)).mono (by decide) (Nat.le_refl _)
  have := tm_tup (tms_cons i1 (tms_cons ((tm_sideS M.lf).mono (by decide) (Nat.le_refl _)) (tms_cons i2 (tms_cons (tm_tup tr) (tms_cons (to.mono (by decide) (Nat.le_refl _)) (tms_nil (w := 0)))))))
  exact this.mono (Nat.le_refl _) (by decide)
include ok in
theorem tm_due (v : Int) {m : Nat} (hm : m ≤ 100) : Sml (dueD M v m) 1 5100 := by
  unfold dueD
  cases h : hasB M v [] m with
  | false => exact tm_none.mono (by decide) (by decide)
  | true =>
    obtain ⟨q1, q2⟩ := due_len ok m [] (fun y hy => by cases hy) h
    have L1 := ok.L1
    refine (tm_word fun x hx => ?_).mono (Nat.le_refl _) ?_
    · have := q2 x hx
      omega
    · rw [q1]
      simp
      omega
include ok in
theorem with_result_ok (n : Nat) {v : Int} (hv : 0 ≤ v ∧ v < 10) {m : Nat} (hm : m ≤ 40) : callD fns (n + 6) j_with_result [.fz (mD M), .fz (.int m), .fz (.int v)] = .ret (.fz (dueD M v m)) [.fz (mD M), .fz (.int m), .fz (.int v)] := by
  have e4 : callD fns (n + 5) j_need_machine [.fz (mD M)] = .ret (.fz .none) [.fz (mD M)] := by
    rw [call_eq (fn := ⟨1, 1, ir_need_machine⟩) rfl rfl]
    have q := is_machine_ok n M ok
    simp [ir_need_machine, callR, apart, back, q, endR]
  have e5 : callD fns (n + 5) j_need_number [.fz (.int m), .fz (.int 40)] = .ret (.fz .none) [.fz (.int m), .fz (.int 40)] := by
    rw [call_eq (fn := ⟨2, 2, ir_need_number⟩) rfl rfl]
    have q := is_between_int (n + 2) (m : Int) 0 40
    rw [show (decide ((0 : Int) ≤ m) && decide ((m : Int) ≤ 40)) = true by simp; omega] at q
    simp [ir_need_number, callR, apart, back, q, endR]
  have e6 := is_between_int (n + 3) v 0 9
  rw [show (decide ((0 : Int) ≤ v) && decide (v ≤ 9)) = true by simp; omega] at e6
  have se := side_eq M.lf
  rw [call_eq (fn := ⟨3, 3, ir_with_result⟩) rfl rfl]
  cases hf : M.lf with
  | true =>
    have e7 := from_left_ok ok hf (n + 3) v (m := m) (by omega)
    rw [hf] at se
    simp [ir_with_result, hf, callR, apart, back, stoS, e4, e5, e6, se, e7, endR]
  | false =>
    have e7 := from_right_ok ok hf (n + 3) v (m := m) (by omega)
    rw [hf] at se
    simp [ir_with_result, hf, callR, apart, back, stoS, e4, e5, e6, se, e7, endR]
theorem is_equal_ok (n : Nat) {d : D} (h : Sml d 1 5100) : callD fns (n + 1) j__law_is_equal [.ol [d, d], .ol [d, d]] = .ret (.fz (.bool true)) [.ol [d, d], .ol [d, d]] := by
  have t : Sml (.list [d, d]) 2 10202 := (tm_list (tms_cons h (tms_cons h (tms_nil (w := 0)))))
  have r := repr_tm (w := .ol [d, d]) rfl t (by decide) (by decide)
  rw [call_eq (fn := ⟨2, 2, ir__law_is_equal⟩) rfl rfl]
  simp [ir__law_is_equal, r, p_eqS, endR]
abbrev valB : S := .seq (.par [7, 8] (.cons (.o1 .repr (.p 4)) (.cons (.call j__law_due (.cons (.p 4) (.cons (.p 5) (.cons (.p 6) .nil)))) .nil))) (.seq (.set 9 (.lc (.call j_with_result (.cons (.p 4) (.cons (.p 5) (.cons (.p 6) .nil)))) (.nm 10) (.r1 (.con (.int 2))) .tt)) (.ifs (.or (.no (.v (.e (.call j__law_is_equal (.cons (.p 9) (.cons (.e (.dsp false (.cons (.var 8) (.cons (.var 8) .nil)))) .nil)))))) (.v (.e (.o2 .ne (.e (.o1 .repr (.p 4))) (.p 7))))) (.ret (.con (.bool false))) .skip))
include ok in
theorem vals_loop (n : Nat) {m : Nat} (hm : m ≤ 40) (a b p c : Option W) : ∀ (l : List Int) (x6 x7 x8 x9 : Option W), In 10 l →
    ∃ y6 y7 y8 y9, forR (forT (callD fns (n + 6)) [false] (.nm 6) valB) (l.map .int) [a, b, p, c, some (.fz (mD M)), some (.fz (.int m)), x6, x7, x8, x9, none] = .ok .next [a, b, p, c, some (.fz (mD M)), some (.fz (.int m)), y6, y7, y8, y9, none]
  | [], x6, x7, x8, x9, _ => ⟨x6, x7, x8, x9, rfl⟩
  | v :: l, x6, x7, x8, x9, h => by
    have hv := h v (List.mem_cons_self ..)
    have td := tm_due ok v (m := m) (by omega)
    have r := repr_tm (w := .fz (mD M)) rfl (tm_mach ok) (by decide) (by decide)
    have e1 := due_ok ok (n + 3) v (m := m) (by omega)
    have e2 := with_result_ok ok n hv hm
    have e3 := is_equal_ok (n + 5) td
    have r2 : rangeD 0 2 = some [.int 0, .int 1] := by kernel_rfl
    obtain ⟨y6, y7, y8, y9, e⟩ := vals_loop n hm a b p c l (some (.fz (.int v))) (some (.fz (.str (mD M).shown))) (some (.fz (dueD M v m))) (some (.ol [dueD M v m, dueD M v m])) fun y hy => h y (List.mem_cons_of_mem _ hy)
    refine ⟨y6, y7, y8, y9, ?_⟩
    generalize dueD M v m = d at e e1 e2 e3
    have st : forT (callD fns (n + 6)) [false] (.nm 6) valB (.int v) [a, b, p, c, some (.fz (mD M)), some (.fz (.int m)), x6, x7, x8, x9, none] = .ok .next [a, b, p, c, some (.fz (mD M)), some (.fz (.int m)), some (.fz (.int v)), some (.fz (.str (mD M).shown)), some (.fz d), some (.ol [d, d]), none] := by
      simp [forT, callR, apart, back, stoS, unpS, r, e1, r2, mapR, lcT, e2, e3, p_neS]
    rw [List.map_cons, forR, st]
    exact e
abbrev manyB : S := .for_ (.nm 6) (.its (.ite (.v (.e (.o2 .lt (.p 5) (.e (.con (.int 6)))))) (.rng false (.r1 (.con (.int 10)))) (.o2 .idx (.p 4) (.e (.con (.int 4)))))) valB
include ok in
theorem many_turn (n : Nat) {m : Nat} (hm : m ≤ 40) (a b p c x5 x6 x7 x8 x9 : Option W) : ∃ y6 y7 y8 y9, forT (callD fns (n + 6)) [false] (.nm 5) manyB (.int m) [a, b, p, c, some (.fz (mD M)), x5, x6, x7, x8, x9, none] = .ok .next [a, b, p, c, some (.fz (mD M)), some (.fz (.int m)), y6, y7, y8, y9, none] := by
  have r10 : rangeD 0 10 = some ((ids 10).map .int) := by
    have := rangeD_nat 10 (by decide)
    rw [range_ints] at this
    exact this
  by_cases h : (m : Int) < 6
  · obtain ⟨y6, y7, y8, y9, e⟩ := vals_loop ok n hm a b p c (ids 10) x6 x7 x8 x9 (range_in 10)
    refine ⟨y6, y7, y8, y9, ?_⟩
    generalize ids 10 = I at e r10
    simp only [forT, manyB]
    generalize valB = B at e
    simp [h, r10]
    simp [forT, e]
  · obtain ⟨y6, y7, y8, y9, e⟩ := vals_loop ok n hm a b p c M.out x6 x7 x8 x9 ok.ro
    refine ⟨y6, y7, y8, y9, ?_⟩
    simp only [forT, manyB]
    generalize valB = B at e
    simp [h]
    simp [forT, e]
end
abbrev lapB : S := (.seq (.set 4 (.call j__law_machine (.cons (.p 2) (.cons (.e (.con (.int 4))) .nil)))) (.for_ (.nm 5) (.its (.dsp false (.cons (.con (.int 0)) (.cons (.con (.int 1)) (.cons (.call j__law_draw (.cons (.p 2) (.cons (.e (.con (.int 6))) .nil))) (.cons (.o2 .idx (.e (.dsp false (.cons (.call j__law_draw (.cons (.p 2) (.cons (.e (.con (.int 16))) .nil))) (.cons (.con (.int 40)) (.cons (.con (.int 9)) .nil))))) (.p 3)) .nil)))))) (.for_ (.nm 6) (.its (.ite (.v (.e (.o2 .lt (.p 5) (.e (.con (.int 6)))))) (.rng false (.r1 (.con (.int 10)))) (.o2 .idx (.p 4) (.e (.con (.int 4)))))) (.seq (.par [7, 8] (.cons (.o1 .repr (.p 4)) (.cons (.call j__law_due (.cons (.p 4) (.cons (.p 5) (.cons (.p 6) .nil)))) .nil))) (.seq (.set 9 (.lc (.call j_with_result (.cons (.p 4) (.cons (.p 5) (.cons (.p 6) .nil)))) (.nm 10) (.r1 (.con (.int 2))) .tt)) (.ifs (.or (.no (.v (.e (.call j__law_is_equal (.cons (.p 9) (.cons (.e (.dsp false (.cons (.var 8) (.cons (.var 8) .nil)))) .nil)))))) (.v (.e (.o2 .ne (.e (.o1 .repr (.p 4))) (.p 7))))) (.ret (.con (.bool false))) .skip))))))
theorem lap_ok (n : Nat) {N : Nat} {p : List D} (hp : PenI (N + 40) p) {i : Nat} (hi : i < 3) (a b : Option W) (x3 x4 x5 x6 x7 x8 x9 : Option W) : ∃ (p' : List D) (y3 y4 y5 y6 y7 y8 y9 : Option W), forT (callD fns (n + 6)) [false] (.nm 3) lapB (.int (i : Nat)) [a, b, some (.ol p), x3, x4, x5, x6, x7, x8, x9, none] = .ok .next [a, b, some (.ol p'), y3, y4, y5, y6, y7, y8, y9, none] ∧ PenI N p' := by
  obtain ⟨M, p1, e1, hp1, ok, _⟩ := machine_ok (n + 3) (N := N + 10) (p := p) (most := 4) (by decide) (hp.mono (by omega))
  obtain ⟨x, p2, e2, hp2, x0, x1⟩ := draw_ok (n + 5) (N := N + 9) (p := p1) (m := 6) hp1 (by decide) (by decide)
  obtain ⟨z, p3, e3, hp3, z0, z1⟩ := draw_ok (n + 5) (N := N + 8) (p := p2) (m := 16) hp2 (by decide) (by decide)
  obtain ⟨x, rfl⟩ := Int.eq_ofNat_of_zero_le x0
  obtain ⟨z, rfl⟩ := Int.eq_ofNat_of_zero_le z0
  obtain ⟨q, eq, hq⟩ : ∃ q : Nat, atD [PyData.int (z : Nat), .int 40, .int 9] ((i : Nat) : Int) = some (.int (q : Nat)) ∧ q ≤ 40 := by
    have : i = 0 ∨ i = 1 ∨ i = 2 := by omega
    rcases this with rfl | rfl | rfl
    · exact ⟨z, rfl, by omega⟩
    · exact ⟨40, rfl, by omega⟩
    · exact ⟨9, rfl, by omega⟩
  obtain ⟨a6, a7, a8, a9, t1⟩ := many_turn ok n (m := 0) (by omega) a b (some (.ol p3)) (some (.fz (.int i))) x5 x6 x7 x8 x9
  obtain ⟨b6, b7, b8, b9, t2⟩ := many_turn ok n (m := 1) (by omega) a b (some (.ol p3)) (some (.fz (.int i))) (some (.fz (.int (0 : Nat)))) a6 a7 a8 a9
  obtain ⟨c6, c7, c8, c9, t3⟩ := many_turn ok n (m := x) (by omega) a b (some (.ol p3)) (some (.fz (.int i))) (some (.fz (.int (1 : Nat)))) b6 b7 b8 b9
  obtain ⟨d6, d7, d8, d9, t4⟩ := many_turn ok n (m := q) (by omega) a b (some (.ol p3)) (some (.fz (.int i))) (some (.fz (.int x))) c6 c7 c8 c9
  refine ⟨p3, some (.fz (.int i)), some (.fz (mD M)), some (.fz (.int q)), d6, d7, d8, d9, ?_, hp3.mono (by omega)⟩
  have tt : forR (forT (callD fns (n + 6)) [false] (.nm 5) manyB) [.int 0, .int 1, .int x, .int q] [a, b, some (.ol p3), some (.fz (.int i)), some (.fz (mD M)), x5, x6, x7, x8, x9, none] = .ok .next [a, b, some (.ol p3), some (.fz (.int i)), some (.fz (mD M)), some (.fz (.int q)), d6, d7, d8, d9, none] := by
    rw [forR, show PyData.int 0 = .int ((0 : Nat) : Int) from rfl, t1]
    show forR _ _ _ = _
    rw [forR, show PyData.int 1 = .int ((1 : Nat) : Int) from rfl, t2]
    show forR _ _ _ = _
    rw [forR, t3]
    show forR _ _ _ = _
    rw [forR, t4]
    rfl
  have hB : lapB = .seq (.set 4 (.call j__law_machine (.cons (.p 2) (.cons (.e (.con (.int 4))) .nil)))) (.for_ (.nm 5) (.its (.dsp false (.cons (.con (.int 0)) (.cons (.con (.int 1)) (.cons (.call j__law_draw (.cons (.p 2) (.cons (.e (.con (.int 6))) .nil))) (.cons (.o2 .idx (.e (.dsp false (.cons (.call j__law_draw (.cons (.p 2) (.cons (.e (.con (.int 16))) .nil))) (.cons (.con (.int 40)) (.cons (.con (.int 9)) .nil))))) (.p 3)) .nil)))))) manyB) := rfl
  rw [hB]
  simp only [forT]
  generalize manyB = B at tt
  simp [callR, apart, back, stoS, e1, e2, e3, eq]
  simp [forT, tt]
end Lk44

end

section
set_option maxRecDepth 100000
set_option maxHeartbeats 2000000
namespace Lk44
open PySem Sf
theorem laps_ok (n : Nat) (a b : Option W) : ∀ (ds : List D) (N : Nat) (p : List D) (x3 x4 x5 x6 x7 x8 x9 : Option W), (∀ d ∈ ds, ∃ i : Nat, d = .int (i : Nat) ∧ i < 3) → PenI (N + 40 * ds.length) p → ∃ (p' : List D) (y3 y4 y5 y6 y7 y8 y9 : Option W), forR (forT (callD fns (n + 6)) [false] (.nm 3) lapB) ds [a, b, some (.ol p), x3, x4, x5, x6, x7, x8, x9, none] = .ok .next [a, b, some (.ol p'), y3, y4, y5, y6, y7, y8, y9, none]
  | [], _, p, x3, x4, x5, x6, x7, x8, x9, _, _ => ⟨p, x3, x4, x5, x6, x7, x8, x9, rfl⟩
  | d :: ds, N, p, x3, x4, x5, x6, x7, x8, x9, hd, hp => by
    obtain ⟨i, rfl, hi⟩ := hd d (List.mem_cons_self ..)
    obtain ⟨p1, y3, y4, y5, y6, y7, y8, y9, e, hp1⟩ := lap_ok n (N := N + 40 * ds.length) (p := p) (hp.mono (by simp; omega)) hi a b x3 x4 x5 x6 x7 x8 x9
    obtain ⟨p2, z3, z4, z5, z6, z7, z8, z9, e2⟩ := laps_ok n a b ds N p1 y3 y4 y5 y6 y7 y8 y9 (fun d h => hd d (List.mem_cons_of_mem _ h)) hp1
    refine ⟨p2, z3, z4, z5, z6, z7, z8, z9, ?_⟩
    rw [forR, e]
    exact e2
abbrev kBody : S := (.seq (.set 2 (.call j__law_source (.cons (.e (.call j__law_cell (.cons (.p 0) (.cons (.p 1) .nil)))) .nil))) (.for_ (.nm 3) (.r1 (.con (.int 3))) lapB))
theorem k_ok (n : Nat) (ns : List Int) (k : Nat) (x1 x2 x3 x4 x5 x6 x7 x8 x9 : Option W) : ∃ (y1 y2 y3 y4 y5 y6 y7 y8 y9 : Option W), forT (callD fns (n + 6)) [false] (.nm 1) kBody (.int k) [some (.scr ns), x1, x2, x3, x4, x5, x6, x7, x8, x9, none] = .ok .next [some (.scr ns), y1, y2, y3, y4, y5, y6, y7, y8, y9, none] := by
  obtain ⟨c, e1⟩ := cell_ok (n + 5) ns k
  obtain ⟨p, e2, hp⟩ := pen_ok (n + 5) c
  obtain ⟨ds, rk, ld, hd⟩ : ∃ ds : List D, rangeD 0 3 = some ds ∧ ds.length = 3 ∧ ∀ d ∈ ds, ∃ i : Nat, d = .int (i : Nat) ∧ i < 3 := ⟨_, rangeD_up 3 (by decide), by simp, fun d h => by
    obtain ⟨i, hi, rfl⟩ := List.mem_map.mp h
    exact ⟨i, rfl, List.mem_range.mp hi⟩⟩
  obtain ⟨p', y3, y4, y5, y6, y7, y8, y9, e3⟩ := laps_ok n (some (.scr ns)) (some (.fz (.int k))) ds 0 p x3 x4 x5 x6 x7 x8 x9 hd (hp.mono (by rw [ld]; decide))
  refine ⟨some (.fz (.int k)), some (.ol p'), y3, y4, y5, y6, y7, y8, y9, ?_⟩
  simp only [kBody, forT]
  generalize lapB = lb at *
  simp [forT, callR, apart, back, stoS, e1, e2, rk]
  rw [e3]
  simp [IR.unlock]
theorem ks_ok (n : Nat) (ns : List Int) : ∀ (ks : List Nat) (x1 x2 x3 x4 x5 x6 x7 x8 x9 : Option W), ∃ (y1 y2 y3 y4 y5 y6 y7 y8 y9 : Option W), forR (forT (callD fns (n + 6)) [false] (.nm 1) kBody) (ks.map fun k => .int (k : Nat)) [some (.scr ns), x1, x2, x3, x4, x5, x6, x7, x8, x9, none] = .ok .next [some (.scr ns), y1, y2, y3, y4, y5, y6, y7, y8, y9, none]
  | [], x1, x2, x3, x4, x5, x6, x7, x8, x9 => ⟨x1, x2, x3, x4, x5, x6, x7, x8, x9, rfl⟩
  | k :: ks, x1, x2, x3, x4, x5, x6, x7, x8, x9 => by
    obtain ⟨y1, y2, y3, y4, y5, y6, y7, y8, y9, e⟩ := k_ok n ns k x1 x2 x3 x4 x5 x6 x7 x8 x9
    obtain ⟨z1, z2, z3, z4, z5, z6, z7, z8, z9, e2⟩ := ks_ok n ns ks y1 y2 y3 y4 y5 y6 y7 y8 y9
    refine ⟨z1, z2, z3, z4, z5, z6, z7, z8, z9, ?_⟩
    rw [List.map_cons, forR, e]
    exact e2
theorem pure_law (ns : List Int) (h : ns.length ≤ 63) : callD fns 40 20 [.scr ns] = .ret (.fz (.bool true)) [.scr ns] := by
  obtain ⟨m, em, hm⟩ : ∃ m : Nat, (if (if (3 : Int) < ns.length then (3 : Int) else ns.length) > 1 then (if (3 : Int) < ns.length then (3 : Int) else ns.length) else 1) = (m : Int) ∧ m ≤ 3 := by
    refine ⟨if (if 3 < ns.length then 3 else ns.length) > 1 then (if 3 < ns.length then 3 else ns.length) else 1, ?_, ?_⟩
    · split <;> split <;> split <;> (try split) <;> omega
    · split <;> (try split) <;> omega
  have rk := rangeD_nat m (by omega)
  obtain ⟨y1, y2, y3, y4, y5, y6, y7, y8, y9, e⟩ := ks_ok 33 ns (List.range m) none none none none none none none none none
  rw [show (40 : Nat) = 39 + 1 from rfl, call_eq (fn := ⟨1, 11, ir_law⟩) rfl rfl]
  simp at em
  have hl : ir_law = (.seq (.for_ (.nm 1) (.r1 (.o2 .max2 (.e (.con (.int 1))) (.e (.o2 .min2 (.e (.o1 .len (.p 0))) (.e (.con (.int 3))))))) kBody) (.ret (.con (.bool true)))) := rfl
  simp only [hl]
  generalize kBody = kb at *
  simp [em, rk]
  simp at e
  rw [e]
  simp [endR, IR.unlock]
end Lk44

end

section
set_option maxRecDepth 100000
set_option maxHeartbeats 0
namespace Lk44
open PySem PySem.Spec PyProof.Rows L2 Sf
def d_0 : He.DefD := ⟨("is_integer", none), "is_integer", "is_integer", defArgs st_is_integer, defBody st_is_integer, defScope st_is_integer, [], []⟩
def d_1 : He.DefD := ⟨("is_between", none), "is_between", "is_between", defArgs st_is_between, defBody st_is_between, defScope st_is_between, [], []⟩
def d_2 : He.DefD := ⟨("is_row", none), "is_row", "is_row", defArgs st_is_row, defBody st_is_row, defScope st_is_row, [], []⟩
def d_3 : He.DefD := ⟨("is_machine", none), "is_machine", "is_machine", defArgs st_is_machine, defBody st_is_machine, defScope st_is_machine, [], []⟩
def d_4 : He.DefD := ⟨("need_machine", none), "need_machine", "need_machine", defArgs st_need_machine, defBody st_need_machine, defScope st_need_machine, [], []⟩
def d_5 : He.DefD := ⟨("need_number", none), "need_number", "need_number", defArgs st_need_number, defBody st_need_number, defScope st_need_number, [], []⟩
def d_6 : He.DefD := ⟨("good_states", none), "good_states", "good_states", defArgs st_good_states, defBody st_good_states, defScope st_good_states, [], []⟩
def d_7 : He.DefD := ⟨("from_left", none), "from_left", "from_left", defArgs st_from_left, defBody st_from_left, defScope st_from_left, [], []⟩
def d_8 : He.DefD := ⟨("from_right", none), "from_right", "from_right", defArgs st_from_right, defBody st_from_right, defScope st_from_right, [], []⟩
def d_9 : He.DefD := ⟨("with_result", none), "with_result", "with_result", defArgs st_with_result, defBody st_with_result, defScope st_with_result, [], []⟩
def d_10 : He.DefD := ⟨("_law_cell", none), "_law_cell", "_law_cell", defArgs st__law_cell, defBody st__law_cell, defScope st__law_cell, [], []⟩
def d_11 : He.DefD := ⟨("_law_source", none), "_law_source", "_law_source", defArgs st__law_source, defBody st__law_source, defScope st__law_source, [], []⟩
def d_12 : He.DefD := ⟨("_law_draw", none), "_law_draw", "_law_draw", defArgs st__law_draw, defBody st__law_draw, defScope st__law_draw, [], []⟩
def d_13 : He.DefD := ⟨("_law_choose", none), "_law_choose", "_law_choose", defArgs st__law_choose, defBody st__law_choose, defScope st__law_choose, [], []⟩
def d_14 : He.DefD := ⟨("_law_is_equal", none), "_law_is_equal", "_law_is_equal", defArgs st__law_is_equal, defBody st__law_is_equal, defScope st__law_is_equal, [], []⟩
def d_15 : He.DefD := ⟨("_law_machine", none), "_law_machine", "_law_machine", defArgs st__law_machine, defBody st__law_machine, defScope st__law_machine, [], []⟩
def d_16 : He.DefD := ⟨("_law_map", none), "_law_map", "_law_map", defArgs st__law_map, defBody st__law_map, defScope st__law_map, [], []⟩
def d_17 : He.DefD := ⟨("_law_reached", none), "_law_reached", "_law_reached", defArgs st__law_reached, defBody st__law_reached, defScope st__law_reached, [], []⟩
def d_18 : He.DefD := ⟨("_law_has", none), "_law_has", "_law_has", defArgs st__law_has, defBody st__law_has, defScope st__law_has, [], []⟩
def d_19 : He.DefD := ⟨("_law_due", none), "_law_due", "_law_due", defArgs st__law_due, defBody st__law_due, defScope st__law_due, [], []⟩
def d_20 : He.DefD := ⟨("law", none), "law", "law", defArgs st_law, defBody st_law, defScope st_law, [], []⟩
def dfn : List He.DefD := [d_0, d_1, d_2, d_3, d_4, d_5, d_6, d_7, d_8, d_9, d_10, d_11, d_12, d_13, d_14, d_15, d_16, d_17, d_18, d_19, d_20]
def cnm (i : Nat) : Str := match i with
  | _ => "law"
abbrev wi (w : World) (K : PySem.W.Frag) : WorldI := ⟨w, fun i => He.ga K (cnm i)⟩
def dfa : List He.Fa := (.glo "is_integer" :: .glo "is_between" :: .glo "is_row" :: .glo "is_machine" :: .glo "need_machine" :: .glo "need_number" :: .glo "good_states" :: .glo "from_left" :: .glo "from_right" :: .glo "with_result" :: .glo "_law_cell" :: .glo "_law_source" :: .glo "_law_draw" :: .glo "_law_choose" :: .glo "_law_is_equal" :: .glo "_law_machine" :: .glo "_law_map" :: .glo "_law_reached" :: .glo "_law_has" :: .glo "_law_due" :: .glo "law" :: .free "all" :: .free "any" :: .free "bool" :: .free "enumerate" :: .free "int" :: .free "isinstance" :: .free "len" :: .free "list" :: .free "max" :: .free "min" :: .free "range" :: .free "repr" :: .free "set" :: .free "sorted" :: .free "str" :: .free "tuple" :: .int "LEAST_LETTERS" 2 :: .str "LEFT" "left" :: .int "MOST_LETTERS" 3 :: .int "MOST_RESULT" 9 :: .int "MOST_SHORT" 40 :: .int "MOST_STATES" 4 :: .str "RIGHT" "right" :: [])
def loose_0 : List Str := ["FoldError", "MachineError", "ResultError", "NumberError", "LEFT", "RIGHT", "LEAST_LETTERS", "MOST_LETTERS", "MOST_STATES", "MOST_RESULT", "is_integer", "is_between", "is_row", "is_machine", "need_machine", "MOST_SHORT", "need_number", "good_states", "from_left", "from_right", "with_result", "_law_cell", "_law_source", "_law_draw", "_law_choose", "_law_is_equal", "_law_machine", "_law_map", "_law_reached", "_law_has"]
def loose_1 : List Str := ["_law_due"]
def loose : List Str := loose_0 ++ loose_1
abbrev R : PySem.W.OpenRow := PySem.W.OpenLaw.row PySem.Challenge.rw_splitfolds_k44_first_words_of_a_length
abbrev hk : PySem.W.Hook := He.hookD 4 dfa dfn
def ob (s : PySem.W.SharedT) : He.AlD := He.obsDG 4 dfa dfn (HandSHeadRun.getT s)
theorem ob_eq (s : PySem.W.SharedT) : ob s = hk.obs s.abs := He.obsDG_eq (HandSHeadRun.getT_eq s)
theorem run (w : World) : HandSHeadRun.RunEq R (PySem.W.view R.prog [35]) hk ob 4000 loose w := by
  intro os
  kernel_rfl
theorem facts {P : Program} {w : World} {K : PySem.W.Frag} {h : Heap} {mg : Str → Option Value} {f : Addr} (X : K.In h) (G : h.Ns mainGlobals mg) (hfa : mg ("law" : Str) = some (.ref f)) (c : He.SaysD dfa dfn K) :
    ∃ fd : FuncData, (∀ (s : Shared) (v : Value), BindsTo s fd ⟨[v], []⟩ [("_law_script", v)]) ∧ ∀ (n : Nat) (base : Heap), K.In base → base.Ns mainGlobals mg → FnG P w K mg base (2 * n) f fd ["_law_script"] (@spF (wi w K) K (fun _ => 0) (callD fns n 20) 1) := by
  letI : WorldI := wi w K
  obtain ⟨fd_0, D_0⟩ := c.def_ 0 (d := d_0) rfl
  have g_0 := He.glo_ok X G (c.fact 0 (f := .glo "is_integer") rfl)
  obtain ⟨fd_1, D_1⟩ := c.def_ 1 (d := d_1) rfl
  have g_1 := He.glo_ok X G (c.fact 1 (f := .glo "is_between") rfl)
  obtain ⟨fd_2, D_2⟩ := c.def_ 2 (d := d_2) rfl
  have g_2 := He.glo_ok X G (c.fact 2 (f := .glo "is_row") rfl)
  obtain ⟨fd_3, D_3⟩ := c.def_ 3 (d := d_3) rfl
  have g_3 := He.glo_ok X G (c.fact 3 (f := .glo "is_machine") rfl)
  obtain ⟨fd_4, D_4⟩ := c.def_ 4 (d := d_4) rfl
  have g_4 := He.glo_ok X G (c.fact 4 (f := .glo "need_machine") rfl)
  obtain ⟨fd_5, D_5⟩ := c.def_ 5 (d := d_5) rfl
  have g_5 := He.glo_ok X G (c.fact 5 (f := .glo "need_number") rfl)
  obtain ⟨fd_6, D_6⟩ := c.def_ 6 (d := d_6) rfl
  have g_6 := He.glo_ok X G (c.fact 6 (f := .glo "good_states") rfl)
  obtain ⟨fd_7, D_7⟩ := c.def_ 7 (d := d_7) rfl
  have g_7 := He.glo_ok X G (c.fact 7 (f := .glo "from_left") rfl)
  obtain ⟨fd_8, D_8⟩ := c.def_ 8 (d := d_8) rfl
  have g_8 := He.glo_ok X G (c.fact 8 (f := .glo "from_right") rfl)
  obtain ⟨fd_9, D_9⟩ := c.def_ 9 (d := d_9) rfl
  have g_9 := He.glo_ok X G (c.fact 9 (f := .glo "with_result") rfl)
  obtain ⟨fd_10, D_10⟩ := c.def_ 10 (d := d_10) rfl
  have g_10 := He.glo_ok X G (c.fact 10 (f := .glo "_law_cell") rfl)
  obtain ⟨fd_11, D_11⟩ := c.def_ 11 (d := d_11) rfl
  have g_11 := He.glo_ok X G (c.fact 11 (f := .glo "_law_source") rfl)
  obtain ⟨fd_12, D_12⟩ := c.def_ 12 (d := d_12) rfl
  have g_12 := He.glo_ok X G (c.fact 12 (f := .glo "_law_draw") rfl)
  obtain ⟨fd_13, D_13⟩ := c.def_ 13 (d := d_13) rfl
  have g_13 := He.glo_ok X G (c.fact 13 (f := .glo "_law_choose") rfl)
  obtain ⟨fd_14, D_14⟩ := c.def_ 14 (d := d_14) rfl
  have g_14 := He.glo_ok X G (c.fact 14 (f := .glo "_law_is_equal") rfl)
  obtain ⟨fd_15, D_15⟩ := c.def_ 15 (d := d_15) rfl
  have g_15 := He.glo_ok X G (c.fact 15 (f := .glo "_law_machine") rfl)
  obtain ⟨fd_16, D_16⟩ := c.def_ 16 (d := d_16) rfl
  have g_16 := He.glo_ok X G (c.fact 16 (f := .glo "_law_map") rfl)
  obtain ⟨fd_17, D_17⟩ := c.def_ 17 (d := d_17) rfl
  have g_17 := He.glo_ok X G (c.fact 17 (f := .glo "_law_reached") rfl)
  obtain ⟨fd_18, D_18⟩ := c.def_ 18 (d := d_18) rfl
  have g_18 := He.glo_ok X G (c.fact 18 (f := .glo "_law_has") rfl)
  obtain ⟨fd_19, D_19⟩ := c.def_ 19 (d := d_19) rfl
  have g_19 := He.glo_ok X G (c.fact 19 (f := .glo "_law_due") rfl)
  obtain ⟨fd_20, D_20⟩ := c.def_ 20 (d := d_20) rfl
  have g_20 := He.glo_ok X G (c.fact 20 (f := .glo "law") rfl)
  have hx : Fx mg := ⟨He.free_ok X G (c.fact 21 (f := .free "all") rfl),
    He.free_ok X G (c.fact 22 (f := .free "any") rfl),
    He.free_ok X G (c.fact 23 (f := .free "bool") rfl),
    He.free_ok X G (c.fact 24 (f := .free "enumerate") rfl),
    He.free_ok X G (c.fact 25 (f := .free "int") rfl),
    He.free_ok X G (c.fact 26 (f := .free "isinstance") rfl),
    He.free_ok X G (c.fact 27 (f := .free "len") rfl),
    He.free_ok X G (c.fact 28 (f := .free "list") rfl),
    He.free_ok X G (c.fact 29 (f := .free "max") rfl),
    He.free_ok X G (c.fact 30 (f := .free "min") rfl),
    He.free_ok X G (c.fact 31 (f := .free "range") rfl),
    He.free_ok X G (c.fact 32 (f := .free "repr") rfl),
    He.free_ok X G (c.fact 33 (f := .free "set") rfl),
    He.free_ok X G (c.fact 34 (f := .free "sorted") rfl),
    He.free_ok X G (c.fact 35 (f := .free "str") rfl),
    He.free_ok X G (c.fact 36 (f := .free "tuple") rfl),
    He.int_ok X G (c.fact 37 (f := .int "LEAST_LETTERS" 2) rfl),
    He.str_ok X G (c.fact 38 (f := .str "LEFT" "left") rfl),
    He.int_ok X G (c.fact 39 (f := .int "MOST_LETTERS" 3) rfl),
    He.int_ok X G (c.fact 40 (f := .int "MOST_RESULT" 9) rfl),
    He.int_ok X G (c.fact 41 (f := .int "MOST_SHORT" 40) rfl),
    He.int_ok X G (c.fact 42 (f := .int "MOST_STATES" 4) rfl),
    He.str_ok X G (c.fact 43 (f := .str "RIGHT" "right") rfl)⟩
  cases hfa.symm.trans g_20
  have all : ∀ (base : Heap) (n : Nat), TableX P w K mg base (fun _ => 0) fns tab n := fun base => tableX_all
    (tableX0 ⟨⟨_, _, g_0, D_0.kp, bd_is_integer D_0, funcAt D_0⟩, ⟨_, _, g_1, D_1.kp, bd_is_between D_1, funcAt D_1⟩, ⟨_, _, g_2, D_2.kp, bd_is_row D_2, funcAt D_2⟩, ⟨_, _, g_3, D_3.kp, bd_is_machine D_3, funcAt D_3⟩, ⟨_, _, g_4, D_4.kp, bd_need_machine D_4, funcAt D_4⟩, ⟨_, _, g_5, D_5.kp, bd_need_number D_5, funcAt D_5⟩, ⟨_, _, g_6, D_6.kp, bd_good_states D_6, funcAt D_6⟩, ⟨_, _, g_7, D_7.kp, bd_from_left D_7, funcAt D_7⟩, ⟨_, _, g_8, D_8.kp, bd_from_right D_8, funcAt D_8⟩, ⟨_, _, g_9, D_9.kp, bd_with_result D_9, funcAt D_9⟩, ⟨_, _, g_10, D_10.kp, bd__law_cell D_10, funcAt D_10⟩, ⟨_, _, g_11, D_11.kp, bd__law_source D_11, funcAt D_11⟩, ⟨_, _, g_12, D_12.kp, bd__law_draw D_12, funcAt D_12⟩, ⟨_, _, g_13, D_13.kp, bd__law_choose D_13, funcAt D_13⟩, ⟨_, _, g_14, D_14.kp, bd__law_is_equal D_14, funcAt D_14⟩, ⟨_, _, g_15, D_15.kp, bd__law_machine D_15, funcAt D_15⟩, ⟨_, _, g_16, D_16.kp, bd__law_map D_16, funcAt D_16⟩, ⟨_, _, g_17, D_17.kp, bd__law_reached D_17, funcAt D_17⟩, ⟨_, _, g_18, D_18.kp, bd__law_has D_18, funcAt D_18⟩, ⟨_, _, g_19, D_19.kp, bd__law_due D_19, funcAt D_19⟩, ⟨_, _, g_20, D_20.kp, bd_law D_20, funcAt D_20⟩, trivial⟩)
    fun n T => ⟨f_is_integer T hx D_0 g_0, f_is_between T hx D_1 g_1, f_is_row T hx D_2 g_2, f_is_machine T hx D_3 g_3, f_need_machine T hx D_4 g_4, f_need_number T hx D_5 g_5, f_good_states T hx D_6 g_6, f_from_left T hx D_7 g_7, f_from_right T hx D_8 g_8, f_with_result T hx D_9 g_9, f__law_cell T hx D_10 g_10, f__law_source T hx D_11 g_11, f__law_draw T hx D_12 g_12, f__law_choose T hx D_13 g_13, f__law_is_equal T hx D_14 g_14, f__law_machine T hx D_15 g_15, f__law_map T hx D_16 g_16, f__law_reached T hx D_17 g_17, f__law_has T hx D_18 g_18, f__law_due T hx D_19 g_19, f_law T hx D_20 g_20, trivial⟩
  refine ⟨fd_20, fun s v => FunD.bindsA (ps := ["_law_script"]) D_20 (fun _ _ _ _ _ _ us hl => match us, hl with | [_], _ => rfl) s [v] rfl, fun n base _ _ => ?_⟩
  cases n with
  | zero => exact ⟨fun vs H Q E q => q.1, fun A outer s H args us vs Q E _ _ _ _ _ q => False.elim (by
      obtain ⟨_, F, ws, _, p⟩ := q
      exact p)⟩
  | succ n => exact main_of (f_law (all base n) hx D_20 g_20) g_20 (funcAt D_20)
end Lk44

end

section
set_option maxRecDepth 100000
set_option maxHeartbeats 0
open PySem PySem.W PySem.Calls PyProof.Rows
theorem PySem.Challenge.cw_splitfolds_k44_first_words_of_a_length_holds : PySem.Challenge.rw_splitfolds_k44_first_words_of_a_length.Holds := by
  w_on; o_law
  refine HandSHeadRun.head_any (r := OpenLaw.row PySem.Challenge.rw_splitfolds_k44_first_words_of_a_length) (q := view (OpenLaw.row PySem.Challenge.rw_splitfolds_k44_first_words_of_a_length).prog [35]) (H := Lk44.hk) (ob := Lk44.ob) (M := 4000) (loose := Lk44.loose) (d := HandSHeadRun.topDef (OpenLaw.row PySem.Challenge.rw_splitfolds_k44_first_words_of_a_length).prog 35) (kwd := []) Lk44.ob_eq
    (by kernel_rfl) (fun s => by kernel_rfl) Lk44.run (by kernel_rfl) (by kernel_rfl) (by kernel_rfl) (by rfl) (by first | assumption | decide +kernel) (by decide +kernel) ⟨rfl, rfl, rfl, rfl, rfl, by decide +kernel⟩ ?hw ?hc
  case hw => w_witness2
  case hc =>
    refine Sf.walkG (l := PySem.Challenge.rw_splitfolds_k44_first_words_of_a_length) (n := 63) (k := 2 * 40) (x := "_law_script") rfl (by decide) (by kernel_rfl) ⟨rfl, by decide, by decide⟩ ?F
    intro w mg fa h Y G hmg0
    obtain ⟨K, KX, c⟩ := Y
    have hmg : mg ("law" : PySem.Str) = some (.ref fa) := by
      have e : (HandSHeadRun.topDef (OpenLaw.row PySem.Challenge.rw_splitfolds_k44_first_words_of_a_length).prog 35).name = ("law" : PySem.Str) := by kernel_rfl
      rw [← e]
      exact hmg0
    letI : Sf.WorldI := Lk44.wi w K
    obtain ⟨fd, hb, hF⟩ := Lk44.facts (P := (PySem.Challenge.rw_splitfolds_k44_first_words_of_a_length).prog) (w := w) KX G hmg c
    exact ⟨K, fd, _, KX, hb, fun H a ns hl _ hS => Sf.law_sp hS (Lk44.pure_law ns hl), fun base h1 h2 => hF 40 base h1 h2⟩

end
