import PyProof.Rows.All
import Wide.All
import OpenK.AllK
import Wide.FinOn
import KE.SortData
import KE.DataMinMax
import KE.DataFind
import PyProof.ReprReads
import HandS.ForExc
import HandS.ForMost
import HandS.Lambda
import HandS.Codes
import HandS.TupAny
import HandS.TupMul
import HandS.Style
import HandS.Deep
import HandS.IsInst
import HandS.Wide
import HandS.Conv
import HandS.DictComp
import HandS.Zip
import KE.GoesEnum
import KE.KDictZip
import HandS.ExcOwn
import HandS.EndTab
import HandS.ExcIs
import PyProof.ListRange
import HandS.HeadHook4
import HandS.HeadHook2
import HandS.NestedK
import HandS.Head0
import HandS.Head1
import HandS.Head2
import HandS.HeadEnd
import HandS.HeadHook1
import HandS.HeadHook3
import PySem.Challenge.RW_mendgarage_k27_whole_ways_to_stop
set_option Elab.async false
set_option linter.all false
set_option maxRecDepth 100000
set_option maxHeartbeats 0
/-! PyA: a small language over plain data (PyData): values, slots, results, the operations. -/
namespace PyD
open PySem (PyData Str)

inductive Bop | add | sub | mul | fdiv | mod | pow
inductive Cop | eq | ne | lt | le | gt | ge | inn | nin
inductive Ty | int | bool | str | tuple | list | dict
inductive Bif | len | abs | int | tuple | list | all | any | sum | min | max | sorted | repr | str
inductive Mt | index | count
/-- what a teller does with its call: f(), return f(), x = f() -/
inductive TM | ex | rt | as (j : Nat)

/-- what stands in a slot -/
inductive Sl | non | sh (d : PyData) | own (d : PyData) | bor (d : PyData) | fn (k : Nat) | hnd | exc (c : Nat) | scr (ds : List PyData)
abbrev Env := List Sl
abbrev Hand := Option (List PyData)
inductive Arg | sh (d : PyData) | bor (d : PyData) | fn (k : Nat) | hnd | scr (ds : List PyData)
/-- a call's end -/
inductive Cr | ok (fr : Bool) (d : PyData) (h : Hand) | exc (c : Nat) (h : Hand) | fail
/-- an expression's end -/
inductive Rs (α : Type) | ok (a : α) (ρ : Env) (h : Hand) | exc (c : Nat) (ρ : Env) (h : Hand) | fail
abbrev M (α : Type) := Env → Hand → Rs α
/-- a statement's end -/
inductive Rt | nx (ρ : Env) (h : Hand) | ret (fr : Bool) (d : PyData) (h : Hand) | brk (ρ : Env) (h : Hand) | ct (ρ : Env) (h : Hand) | exc (c : Nat) (ρ : Env) (h : Hand) | fail
abbrev MS := Env → Hand → Rt

def Rs.bind {α β : Type} (r : Rs α) (f : α → Env → Hand → Rs β) : Rs β := match r with
  | .ok a ρ h => f a ρ h
  | .exc c ρ h => .exc c ρ h
  | .fail => .fail
/-- go on with a statement -/
def Rs.thenS {α : Type} (r : Rs α) (f : α → Env → Hand → Rt) : Rt := match r with
  | .ok a ρ h => f a ρ h
  | .exc c ρ h => .exc c ρ h
  | .fail => .fail
def Rt.seq (r : Rt) (f : Env → Hand → Rt) : Rt := match r with
  | .nx ρ h => f ρ h
  | x => x
def lift {α : Type} (o : Option α) : M α := fun ρ h => match o with
  | some a => .ok a ρ h
  | none => .fail
@[simp] theorem bind_ok {α β : Type} (a : α) (ρ h) (f : α → Env → Hand → Rs β) : (Rs.ok a ρ h).bind f = f a ρ h := rfl
@[simp] theorem bind_exc {α β : Type} (c : Nat) (ρ h) (f : α → Env → Hand → Rs β) : (Rs.exc c ρ h).bind f = .exc c ρ h := rfl
@[simp] theorem bind_fail {α β : Type} (f : α → Env → Hand → Rs β) : (Rs.fail).bind f = .fail := rfl
@[simp] theorem thenS_ok {α : Type} (a : α) (ρ h) (f : α → Env → Hand → Rt) : (Rs.ok a ρ h).thenS f = f a ρ h := rfl
@[simp] theorem thenS_exc {α : Type} (c : Nat) (ρ h) (f : α → Env → Hand → Rt) : (Rs.exc c ρ h).thenS f = .exc c ρ h := rfl
@[simp] theorem thenS_fail {α : Type} (f : α → Env → Hand → Rt) : (Rs.fail).thenS f = .fail := rfl
@[simp] theorem seq_nx (ρ h) (f : Env → Hand → Rt) : (Rt.nx ρ h).seq f = f ρ h := rfl
@[simp] theorem seq_ret (fr d h) (f : Env → Hand → Rt) : (Rt.ret fr d h).seq f = .ret fr d h := rfl
@[simp] theorem seq_brk (ρ h) (f : Env → Hand → Rt) : (Rt.brk ρ h).seq f = .brk ρ h := rfl
@[simp] theorem seq_ct (ρ h) (f : Env → Hand → Rt) : (Rt.ct ρ h).seq f = .ct ρ h := rfl
@[simp] theorem seq_exc (c ρ h) (f : Env → Hand → Rt) : (Rt.exc c ρ h).seq f = .exc c ρ h := rfl
@[simp] theorem seq_fail (f : Env → Hand → Rt) : (Rt.fail).seq f = .fail := rfl

/-! ### dicts: keys ints, texts -/
def keyD : L2.Key → PyData
  | .inl i => .int i
  | .inr x => .str x
def keyOf : PyData → Option L2.Key
  | .int i => some (.inl i)
  | .str x => some (.inr x)
  | _ => none
def dget (kvs : List (PyData × PyData)) (k : L2.Key) : Option PyData := (kvs.find? fun p => decide (keyOf p.1 = some k)).map (·.2)
def dput (kvs : List (PyData × PyData)) (k : L2.Key) (v : PyData) : List (PyData × PyData) :=
  if (kvs.any fun p => decide (keyOf p.1 = some k)) = true then kvs.map (fun p => if keyOf p.1 = some k then (keyD k, v) else p) else kvs ++ [(keyD k, v)]
def dgetD : PyData → PyData → Option PyData
  | .dict es, d => (keyOf d).bind (dget es)
  | _, _ => none
/-! ### operations on data -/
def big : Nat := 16777216
def isNoneD : PyData → Bool
  | .none => true
  | _ => false
def isBool : PyData → Option Bool
  | .bool b => some b
  | _ => none
def scalar : PyData → Bool
  | .none | .bool _ | .int _ | .str _ => true
  | _ => false
/-- the comparison == is told of these -/
def eqOk (d e : PyData) : Bool := (PySem.SeqAt.shaped d && PySem.SeqAt.shaped e)
def isTy : Ty → PyData → Bool
  | .int, .int _ => true
  | .int, .bool _ => true
  | .bool, .bool _ => true
  | .str, .str _ => true
  | .tuple, .tuple _ => true
  | .list, .list _ => true
  | .dict, .dict _ => true
  | _, _ => false
def mulOk (i j : Int) : Bool := decide (i.natAbs < 2 ^ 64) || decide (j.natAbs < 2 ^ 64)
def rep {α : Type} (xs : List α) (k : Int) : List α := (List.replicate k.toNat xs).flatten
/-- a op b: (fresh, value) -/
def bop : Bop → PyData → PyData → Option (Bool × PyData)
  | .add, .int i, .int j => some (false, .int (i + j))
  | .sub, .int i, .int j => some (false, .int (i - j))
  | .mul, .int i, .int j => if mulOk i j then some (false, .int (i * j)) else none
  | .fdiv, .int i, .int j => if 0 < j ∧ j < 1606938044258990275541962092341162602522202993782792835301376 then some (false, .int (i / j)) else none
  | .mod, .int i, .int j => if 0 < j then some (false, .int (i % j)) else none
  | .pow, .int i, .int j => if 0 ≤ j ∧ j ≤ 1000000 ∧ i.natAbs < 2 ^ 64 then some (false, .int (i ^ j.toNat)) else none
  | .add, .str x, .str y => if x.length + y.length ≤ big then some (false, .str (x ++ y)) else none
  | .add, .list xs, .list ys => if xs.length + ys.length ≤ big then some (true, .list (xs ++ ys)) else none
  | .add, .tuple xs, .tuple ys => if xs.length + ys.length ≤ big then some (false, .tuple (xs ++ ys)) else none
  | .mul, .list xs, .int k => if k < 1000000 ∧ -1000000 < k ∧ xs.length * k.toNat ≤ big then some (true, .list (rep xs k)) else none
  | .mul, .tuple xs, .int k => if 0 < xs.length ∧ 2 ≤ k ∧ k ≤ 1000 ∧ xs.length ≤ 1000 then some (false, .tuple (rep xs k)) else none
  | _, _, _ => none
/-- a cmp b -/
def cop : Cop → PyData → PyData → Option Bool
  | .eq, d, e => if eqOk d e then some (PyData.eqv d e) else none
  | .ne, d, e => if eqOk d e then some (!PyData.eqv d e) else none
  | .lt, .int i, .int j => some (decide (i < j))
  | .le, .int i, .int j => some (decide (i ≤ j))
  | .gt, .int i, .int j => some (decide (j < i))
  | .ge, .int i, .int j => some (decide (j ≤ i))
  | .inn, d, .list es => if eqOk d (.list es) then some (es.any fun z => PyData.eqv z d) else none
  | .inn, d, .tuple es => if eqOk d (.tuple es) then some (es.any fun z => PyData.eqv z d) else none
  | .inn, .str i, .str j => some (!(PySem.Builtin.Str.occurrences j i 0 j.length 1).isEmpty)
  | .nin, d, .list es => if eqOk d (.list es) then some (!es.any fun z => PyData.eqv z d) else none
  | .nin, d, .tuple es => if eqOk d (.tuple es) then some (!es.any fun z => PyData.eqv z d) else none
  | .nin, .str i, .str j => some (!(!(PySem.Builtin.Str.occurrences j i 0 j.length 1).isEmpty))
  | .inn, d, .dict es => (keyOf d).map fun k => (dget es k).isSome
  | .nin, d, .dict es => (keyOf d).map fun k => !(dget es k).isSome
  | _, _, _ => none
/-- a[i] -/
def idx : PyData → PyData → Option PyData
  | .list xs, .int i => L2.atI xs i
  | .tuple xs, .int i => L2.atI xs i
  | .str x, .int i => if x.length ≤ big then (L2.atI x.cps.toList i).map fun c => .str ⟨#[c]⟩ else none
  | _, _ => none
def cut {α : Type} (xs : List α) (lo hi : Option Int) : List α := (xs.drop (_root_.HT.sIx xs.length 0 lo)).take (_root_.HT.sIx xs.length xs.length hi - _root_.HT.sIx xs.length 0 lo)
def asInt : PyData → Option Int
  | .int i => some i
  | _ => none
/-- a[lo:hi]: (fresh, value) -/
def slc : PyData → Option Int → Option Int → Option (Bool × PyData)
  | .list xs, lo, hi => some (true, .list (cut xs lo hi))
  | .tuple xs, lo, hi => some (false, .tuple (cut xs lo hi))
  | .str x, lo, hi => if x.length ≤ big then some (false, .str (PySem.Txt.slice x lo hi)) else none
  | _, _, _ => none
/-- a[::-1] -/
def revD : PyData → Option (Bool × PyData)
  | .list xs => some (true, .list xs.reverse)
  | .tuple xs => some (false, .tuple xs.reverse)
  | _ => none
/-- a[:0:-1] -/
def revtD : PyData → Option (Bool × PyData)
  | .tuple xs => some (false, .tuple (xs.drop 1).reverse)
  | _ => none
/-- range(i, j, k): how many, if it is one -/
def rng3N (i j k : Int) : Option Nat := if k ≠ 0 ∧ k.natAbs < 1073741824 ∧ PySem.Builtin.Range.small i j k = true ∧ (PySem.Builtin.Range.rangeSize i j k).toNat ≤ 16777216 then some (PySem.Builtin.Range.rangeSize i j k).toNat else none
/-- what a thing yields -/
def items : PyData → Option (List PyData)
  | .list xs => some xs
  | .tuple xs => some xs
  | _ => none
def dInts : List PyData → Option (List Int)
  | [] => some []
  | .int i :: r => (dInts r).map fun l => i :: l
  | _ :: _ => none
def dBools : List PyData → Option (List Bool)
  | [] => some []
  | .bool i :: r => (dBools r).map fun l => i :: l
  | _ :: _ => none
def alikeB (ds : List PyData) : Bool := ds.all fun d => ds.all fun e => PySem.W.alike d e
def notNone : PyData → Bool
  | .none => false
  | _ => true
def neTup : PyData → Bool
  | .tuple (_ :: _) => true
  | _ => false
def noTup : PyData → Bool
  | .none => false
  | .tuple _ => false
  | _ => true
def shapedB (ds : List PyData) : Bool := ds.all PySem.SeqAt.shaped
def minOk (ds : List PyData) : Bool := alikeB ds && ds.all notNone && shapedB ds
def sortOk (ds : List PyData) : Bool := alikeB ds && (ds.all neTup || ds.all noTup) && shapedB ds
def sortD (ds : List PyData) : List PyData := ds.mergeSort (PySem.W.dataLe false id)
/-- repr tells a text of these -/
def reprOk (d : PyData) : Bool := d.canLay0 && d.showable && decide (d.depth ≤ 60) && decide (d.shown.length ≤ big) && PyData.strOk d.shown
/-- built-in functions of plain arguments: (fresh, value) -/
def bfn : Bif → List PyData → Option (Bool × PyData)
  | .len, [.list xs] => some (false, .int xs.length)
  | .len, [.tuple xs] => some (false, .int xs.length)
  | .len, [.str x] => if x.length ≤ big then some (false, .int x.length) else none
  | .abs, [.int i] => some (false, .int (if i < 0 then -i else i))
  | .int, [.int i] => some (false, .int i)
  | .int, [.bool b] => some (false, .int (if b then 1 else 0))
  | .tuple, [.list xs] => some (false, .tuple xs)
  | .tuple, [.tuple xs] => some (false, .tuple xs)
  | .list, [.list xs] => some (true, .list xs)
  | .list, [.tuple xs] => some (true, .list xs)
  | .all, [.list xs] => (dBools xs).map fun l => (false, .bool (l.all id))
  | .any, [.list xs] => (dBools xs).map fun l => (false, .bool (l.any id))
  | .sum, [.list xs] => (dInts xs).map fun l => (false, .int l.sum)
  | .sum, [.tuple xs] => (dInts xs).map fun l => (false, .int l.sum)
  | .min, [.list (x :: xs)] => if minOk (x :: xs) then some (false, PySem.W.minD x xs) else none
  | .max, [.list (x :: xs)] => if minOk (x :: xs) then some (false, PySem.W.maxD x xs) else none
  | .min, [.tuple (x :: xs)] => if minOk (x :: xs) then some (false, PySem.W.minD x xs) else none
  | .max, [.tuple (x :: xs)] => if minOk (x :: xs) then some (false, PySem.W.maxD x xs) else none
  | .sorted, [.list xs] => if sortOk xs then some (true, .list (sortD xs)) else none
  | .max, [.int i, .int j] => some (false, .int (if j > i then j else i))
  | .min, [.int i, .int j] => some (false, .int (if j < i then j else i))
  | .len, [.dict es] => some (false, .int es.length)
  | .list, [.dict es] => some (true, .list (es.map (·.1)))
  | .repr, [d] => if reprOk d then some (false, .str d.shown) else none
  | _, _ => none

def isLst : PyData → Option Unit
  | .list _ => some ()
  | _ => none
/-- methods of a list, one argument -/
def mop : Mt → PyData → PyData → Option PyData
  | .index, .list ds, d => if PySem.SeqAt.shaped (.list ds) && PySem.SeqAt.shaped d then (ds.findIdx? fun z => PyData.eqv z d).map fun (j : Nat) => PyData.int (j : Int) else none
  | .count, .list ds, d => if PySem.SeqAt.shaped (.list ds) && PySem.SeqAt.shaped d then some (.int (ds.countP fun z => PyData.eqv z d)) else none
  | _, _, _ => none

/-! ### the language -/
mutual
inductive Tg
  | nm (i : Nat)
  | tp (ts : Tgs)
inductive Tgs
  | nil
  | cons (t : Tg) (r : Tgs)
end
mutual
inductive E
  | var (i : Nat)
  | fz (i : Nat)
  | int (n : Int)
  | str (s : Str)
  | bl (b : Bool)
  | non
  | glb (k : Nat)
  | fnv (k : Nat)
  | bin (o : Bop) (a b : E)
  | neg (a : E)
  | nt (a : E)
  | and (es : Es)
  | or (es : Es)
  | cmp (o : Cop) (a b : E)
  | chn (o1 o2 : Cop) (a b c : E)
  | isn (a : E)
  | isnn (a : E)
  | isb (a : E) (b : Bool)
  | isnb (a : E) (b : Bool)
  | ife (c a b : E)
  | tup (es : Es)
  | lst (es : Es)
  | idx (a i : E)
  | slc (a : E) (lo hi : Eo)
  | call (k : Nat) (es : Es)
  | callv (i : Nat) (es : Es)
  | bfn (b : Bif) (es : Es)
  | isi (a : E) (t : Ty)
  | isx (i : Nat) (c : Nat)
  | mth1 (m : Mt) (o e : E)
  | dic0
  | lrg (src : Src)
  | pop0 (i : Nat)
  | pop1 (i : Nat) (e : E)
  | comp (vs : List Nat) (t : Tg) (src : Src) (cond : Eo) (elt : E)
  | lamc (k : Nat) (body : E)
  | rev (a : E)
  | revt (a : E)
  | dgt (o k : E)
  | dcomp (vs : List Nat) (t : Tg) (src : Src) (cond : Eo) (key val : E)
  | dic1 (k v : E)
  | trg (src : Src)
  | skip
inductive Es
  | nil
  | cons (e : E) (r : Es)
inductive Eo
  | no
  | so (e : E)
inductive Src
  | val (e : E)
  | rng1 (a : E)
  | rng2 (a b : E)
  | rng3 (a b c : E)
  | zip (a b : E)
  | enm (a : E)
  | enz (a b : E)
end
mutual
inductive S
  | asg (t : Tg) (e : E)
  | par (is : List Nat) (es : Es)
  | hand (i : Nat) (e : E)
  | asgs (i : Nat) (k v : E)
  | pars (i : Nat) (k : E) (j : Nat) (l : E) (es : Es)
  | aug (i : Nat) (o : Bop) (e : E)
  | augs (i : Nat) (k : E) (o : Bop) (e : E)
  | app (i : Nat) (e : E)
  | ex (e : E)
  | ife (c : E) (a b : Ss)
  | for_ (t : Tg) (src : Src) (b : Ss)
  | forf (i : Nat) (ks : List Nat) (b : Ss)
  | whl (c : E) (b : Ss)
  | ret (e : E)
  | retn
  | rse (c : Nat)
  | tryth (r : TM) (c : Nat) (i : Nat) (h : Ss)
  | tryx (b : Ss) (c : Nat) (i : Nat) (h : Ss)
  | brk
  | cnt
  | pass
  | ext (i : Nat) (e : E)
  | asgd (i : Nat) (k v : E)
  | skip
inductive Ss
  | nil
  | cons (s : S) (r : Ss)
end
end PyD

/-! PyB: the evaluator. -/
namespace PyD
open PySem (PyData Str)

/-- an operand: a value, or a slot that is read when the operation runs -/
inductive Pre | val (d : PyData) | sl (i : Nat)
inductive PreA | val (d : PyData) | sl (i : Nat) | fn (k : Nat)
def getP (ρ : Env) (h : Hand) : Pre → Option PyData
  | .val d => some d
  | .sl i => match ρ[i]? with
    | some (.sh d) => some d
    | some (.own d) => some d
    | some (.bor d) => some d
    | some .hnd => h.map .list
    | _ => none
/-- a list that may be changed -/
def getM (ρ : Env) (h : Hand) (i : Nat) : Option (List PyData) := match ρ[i]? with
  | some (.own (.list xs)) => some xs
  | some .hnd => h
  | _ => none
/-- an operand that is cut: the script, too -/
def getC (ρ : Env) (h : Hand) (p : Pre) : Option PyData := match p with
  | .val d => some d
  | .sl i => match ρ[i]? with
    | some (.scr ds) => some (.list ds)
    | _ => getP ρ h (.sl i)
/-- an operand that is walked: not the hand -/
def getI (own : Bool) (ρ : Env) : Pre → Option PyData
  | .val d => some d
  | .sl i => match ρ[i]? with
    | some (.sh d) => some d
    | some (.own d) => if own then some d else none
    | some (.bor d) => some d
    | _ => none
def getPs (ρ : Env) (h : Hand) : List Pre → Option (List PyData)
  | [] => some []
  | p :: r => match getP ρ h p, getPs ρ h r with
    | some d, some ds => some (d :: ds)
    | _, _ => none
def getA (ρ : Env) : PreA → Option Arg
  | .val d => some (.sh d)
  | .fn k => some (.fn k)
  | .sl i => match ρ[i]? with
    | some (.sh d) => some (.sh d)
    | some (.own d) => some (.bor d)
    | some (.bor d) => some (.bor d)
    | some (.fn k) => some (.fn k)
    | some .hnd => some .hnd
    | some (.scr ds) => some (.scr ds)
    | _ => none
def getAs (ρ : Env) : List PreA → Option (List Arg)
  | [] => some []
  | p :: r => match getA ρ p, getAs ρ r with
    | some d, some ds => some (d :: ds)
    | _, _ => none
/-- what a block sees of its frame -/
def lendS : Sl → Sl
  | .own d => .bor d
  | s => s
def lend (ρ : Env) : Env := ρ.map lendS
def wipeE (ρ : Env) : List Nat → Env
  | [] => ρ
  | i :: r => wipeE (ρ.set i .non) r
mutual
def bindT : Tg → PyData → Env → Option Env
  | .nm i, d, ρ => some (ρ.set i (.sh d))
  | .tp ts, .tuple ds, ρ => bindTs ts ds ρ
  | .tp _, _, _ => none
def bindTs : Tgs → List PyData → Env → Option Env
  | .nil, [], ρ => some ρ
  | .cons t r, d :: ds, ρ => (bindT t d ρ).bind (bindTs r ds)
  | _, _, _ => none
end
def zipD : List PyData → List PyData → List PyData
  | x :: xs, y :: ys => .tuple [x, y] :: zipD xs ys
  | _, _ => []
def enumD : Nat → List PyData → List PyData
  | _, [] => []
  | n, x :: xs => .tuple [.int n, x] :: enumD (n + 1) xs
def rangeD (lo st : Int) : Nat → List PyData
  | 0 => []
  | n + 1 => .int lo :: rangeD (lo + st) st n
/-- a comprehension's turns -/
def compL (ρ0 : Env) (t : Tg) (c : M Bool) (e : M (Bool × PyData)) : List PyData → Hand → Option (List PyData × Hand)
  | [], h => some ([], h)
  | x :: xs, h => match bindT t x ρ0 with
    | none => none
    | some ρ1 => match c ρ1 h with
      | .ok true ρ2 h1 => (match e ρ2 h1 with
        | .ok p _ h2 => (compL ρ0 t c e xs h2).map fun q => (p.2 :: q.1, q.2)
        | _ => none)
      | .ok false _ h1 => compL ρ0 t c e xs h1
      | _ => none
/-- a dict comprehension's turns -/
def compD (ρ0 : Env) (t : Tg) (c : M Bool) (ek ev : M (Bool × PyData)) : List PyData → List (PyData × PyData) → Hand → Option (List (PyData × PyData) × Hand)
  | [], acc, h => some (acc, h)
  | x :: xs, acc, h => match bindT t x ρ0 with
    | none => none
    | some ρ1 => match c ρ1 h with
      | .ok true ρ2 h1 => (match ek ρ2 h1 with
        | .ok p ρ3 h2 => (match ev ρ3 h2 with
          | .ok q _ h3 => (match keyOf p.2 with
            | some k => compD ρ0 t c ek ev xs (dput acc k q.2) h3
            | none => none)
          | _ => none)
        | _ => none)
      | .ok false _ h1 => compD ρ0 t c ek ev xs acc h1
      | _ => none
def rngOk (i : Int) : Bool := decide (-4611686018427387904 ≤ i) && decide (i < 4611686018427387904)
def asBool (r : Rs (Bool × PyData)) : Rs Bool := r.bind fun p ρ h => match p.2 with
  | .bool b => .ok b ρ h
  | _ => .fail
def asIntR (r : Rs (Bool × PyData)) : Rs Int := r.bind fun p ρ h => match p.2 with
  | .int b => .ok b ρ h
  | _ => .fail
def live : Sl → Bool
  | .non => false
  | .exc _ => false
  | _ => true
def slR {α : Type} (a : α) (i : Nat) : M α := fun ρ h => match ρ[i]? with
  | some s => if live s then .ok a ρ h else .fail
  | none => .fail
def preOf (e : E) (r : M (Bool × PyData)) : M Pre := match e with
  | .var i => slR (.sl i) i
  | _ => fun ρ h => (r ρ h).bind fun p ρ' h' => .ok (.val p.2) ρ' h'
def argOf (e : E) (r : M (Bool × PyData)) : M PreA := match e with
  | .var i => slR (.sl i) i
  | .fnv k => fun ρ h => .ok (.fn k) ρ h
  | _ => fun ρ h => (r ρ h).bind fun p ρ' h' => .ok (.val p.2) ρ' h'
def ofO {α : Type} (o : Option α) (ρ : Env) (h : Hand) : Rs α := match o with
  | some a => .ok a ρ h
  | none => .fail
@[simp] theorem ofO_some {α : Type} (a : α) (ρ h) : ofO (some a) ρ h = .ok a ρ h := rfl
@[simp] theorem ofO_none {α : Type} (ρ h) : (ofO none ρ h : Rs α) = .fail := rfl

/-- the program around an expression: defs, constants, classes -/
structure Cl where
  fn : Nat → List Arg → Hand → Cr
  ft : Nat → (Hand → Cr) → Hand → Cr
  gl : Nat → Option PyData
  sub : Nat → Nat → Option Bool
def crE (ρ : Env) : Cr → Rs (Bool × PyData)
  | .ok fr d h => .ok (fr, d) ρ h
  | .exc c h => .exc c ρ h
  | .fail => .fail
def crOf (r : Rs (Bool × PyData)) : Cr := match r with
  | .ok p _ h => .ok false p.2 h
  | .exc c _ h => .exc c h
  | .fail => .fail
/-- no error comes out -/
def noX : Cr → Cr
  | .exc _ _ => .fail
  | c => c
mutual
def ev (C : Cl) : E → M (Bool × PyData)
  | .var i => fun ρ h => match ρ[i]? with
    | some (.sh d) => .ok (false, d) ρ h
    | some (.own d) => .ok (false, d) (ρ.set i (.sh d)) h
    | _ => .fail
  | .fz i => fun ρ h => match ρ[i]? with
    | some (.sh d) => .ok (false, d) ρ h
    | some (.own d) => .ok (false, d) (ρ.set i (.sh d)) h
    | _ => .fail
  | .int n => fun ρ h => .ok (false, .int n) ρ h
  | .str s => fun ρ h => .ok (false, .str s) ρ h
  | .bl b => fun ρ h => .ok (false, .bool b) ρ h
  | .non => fun ρ h => .ok (false, .none) ρ h
  | .glb k => fun ρ h => (ofO (C.gl k) ρ h).bind fun d ρ h => .ok (false, d) ρ h
  | .fnv _ => fun _ _ => .fail
  | .bin o a b => fun ρ h => (preOf a (ev C a) ρ h).bind fun p ρ h => (preOf b (ev C b) ρ h).bind fun q ρ h =>
      (ofO (getP ρ h p) ρ h).bind fun x ρ h => (ofO (getP ρ h q) ρ h).bind fun y ρ h => ofO (bop o x y) ρ h
  | .neg a => fun ρ h => (asIntR (ev C a ρ h)).bind fun i ρ h => .ok (false, .int (-i)) ρ h
  | .nt a => fun ρ h => (asBool (ev C a ρ h)).bind fun b ρ h => .ok (false, .bool (!b)) ρ h
  | .and es => evAnd C es
  | .or es => evOr C es
  | .cmp o a b => fun ρ h => (preOf a (ev C a) ρ h).bind fun p ρ h => (preOf b (ev C b) ρ h).bind fun q ρ h =>
      (ofO (getP ρ h p) ρ h).bind fun x ρ h => (ofO (getP ρ h q) ρ h).bind fun y ρ h => (ofO (cop o x y) ρ h).bind fun b ρ h => .ok (false, .bool b) ρ h
  | .chn o1 o2 a b c => fun ρ h => (asIntR (ev C a ρ h)).bind fun i ρ h => (asIntR (ev C b ρ h)).bind fun j ρ h => (ofO (cop o1 (.int i) (.int j)) ρ h).bind fun k ρ h =>
      if k then (asIntR (ev C c ρ h)).bind fun l ρ h => (ofO (cop o2 (.int j) (.int l)) ρ h).bind fun b ρ h => .ok (false, .bool b) ρ h else .ok (false, .bool false) ρ h
  | .isn a => fun ρ h => (preOf a (ev C a) ρ h).bind fun p ρ h => (ofO (getP ρ h p) ρ h).bind fun x ρ h => .ok (false, .bool (isNoneD x)) ρ h
  | .isnn a => fun ρ h => (preOf a (ev C a) ρ h).bind fun p ρ h => (ofO (getP ρ h p) ρ h).bind fun x ρ h => .ok (false, .bool (!isNoneD x)) ρ h
  | .isb a b => fun ρ h => (asBool (ev C a ρ h)).bind fun c ρ h => .ok (false, .bool (c == b)) ρ h
  | .isnb a b => fun ρ h => (asBool (ev C a ρ h)).bind fun c ρ h => .ok (false, .bool (!(c == b))) ρ h
  | .ife c a b => fun ρ h => (asBool (ev C c ρ h)).bind fun t ρ h => if t then ev C a ρ h else ev C b ρ h
  | .tup es => fun ρ h => (evs C es ρ h).bind fun ds ρ h => .ok (false, .tuple ds) ρ h
  | .lst es => fun ρ h => (evs C es ρ h).bind fun ds ρ h => .ok (true, .list ds) ρ h
  | .idx a i => fun ρ h => (preOf a (ev C a) ρ h).bind fun p ρ h => (ev C i ρ h).bind fun q ρ h =>
      (ofO (getP ρ h p) ρ h).bind fun x ρ h => (ofO (idx x q.2) ρ h).bind fun d ρ h => .ok (false, d) ρ h
  | .slc a lo hi => fun ρ h => (preOf a (ev C a) ρ h).bind fun p ρ h => (evo C lo ρ h).bind fun l ρ h => (evo C hi ρ h).bind fun u ρ h =>
      (ofO (getC ρ h p) ρ h).bind fun x ρ h => ofO (slc x l u) ρ h
  | .call k es => fun ρ h => (evA C es ρ h).bind fun ps ρ h => (ofO (getAs ρ ps) ρ h).bind fun as ρ h => crE ρ (C.fn k as h)
  | .callv i es => fun ρ h => match ρ[i]? with
    | some (.fn k) => (evA C es ρ h).bind fun ps ρ h => (ofO (getAs ρ ps) ρ h).bind fun as ρ h => crE ρ (C.fn k as h)
    | _ => .fail
  | .bfn b es => fun ρ h => (evP C es ρ h).bind fun ps ρ h => (ofO (getPs ρ h ps) ρ h).bind fun ds ρ h => ofO (bfn b ds) ρ h
  | .isi a t => fun ρ h => (preOf a (ev C a) ρ h).bind fun p ρ h => (ofO (getP ρ h p) ρ h).bind fun x ρ h => .ok (false, .bool (isTy t x)) ρ h
  | .isx i c => fun ρ h => match ρ[i]? with
    | some (.exc c') => (match C.sub c' c with
      | some b => .ok (false, .bool b) ρ h
      | none => .fail)
    | _ => .fail
  | .mth1 m o e => fun ρ h => (preOf o (ev C o) ρ h).bind fun p ρ h => (ofO ((getP ρ h p).bind isLst) ρ h).bind fun _ ρ h => (ev C e ρ h).bind fun q ρ h =>
      (ofO (getP ρ h p) ρ h).bind fun x ρ h => (ofO (mop m x q.2) ρ h).bind fun d ρ h => .ok (false, d) ρ h
  | .dic0 => fun ρ h => .ok (true, .dict []) ρ h
  | .lrg src => fun ρ h => (evSrc C true src ρ h).bind fun its ρ h => .ok (true, .list its) ρ h
  | .pop0 i => fun ρ h => match ρ[i]? with
    | some (.own (.list xs)) => (match xs[xs.length - 1]? with
      | some y => .ok (false, y) (ρ.set i (.own (.list xs.dropLast))) h
      | none => .fail)
    | _ => .fail
  | .pop1 i e => fun ρ h => match ρ[i]? with
    | some (.own (.list _)) => (asIntR (ev C e ρ h)).bind fun j ρ h => (match ρ[i]? with
      | some (.own (.list xs)) => if rngOk j then (match PySem.seqIndex? j xs.length with
        | some k => (match xs[k]? with
          | some y => .ok (false, y) (ρ.set i (.own (.list (xs.eraseIdx k)))) h
          | none => .fail)
        | none => .fail) else .fail
      | _ => .fail)
    | _ => .fail
  | .comp vs t src cond elt => fun ρ h => (evSrc C true src ρ h).bind fun its ρ h =>
      (ofO (compL (wipeE (lend ρ) vs) t (evc C cond) (ev C elt) its h) ρ h).bind fun q ρ _ => .ok (true, .list q.1) ρ q.2
  | .lamc k body => fun ρ h => crE ρ (noX (C.ft k (fun h' => crOf (ev C body (lend ρ) h')) h))
  | .rev a => fun ρ h => (preOf a (ev C a) ρ h).bind fun p ρ h => (ofO (getP ρ h p) ρ h).bind fun x ρ h => ofO (revD x) ρ h
  | .revt a => fun ρ h => (preOf a (ev C a) ρ h).bind fun p ρ h => (ofO (getP ρ h p) ρ h).bind fun x ρ h => ofO (revtD x) ρ h
  | .skip => fun _ _ => .fail
  | .dgt o k => fun ρ h => (preOf o (ev C o) ρ h).bind fun p ρ h => (ev C k ρ h).bind fun q ρ h => (ofO (getP ρ h p) ρ h).bind fun x ρ h => (ofO (dgetD x q.2) ρ h).bind fun d ρ h => .ok (false, d) ρ h
  | .dcomp vs t src cond key val => fun ρ h => (evSrc C true src ρ h).bind fun its ρ h =>
      (ofO (compD (wipeE (lend ρ) vs) t (evc C cond) (ev C key) (ev C val) its [] h) ρ h).bind fun q ρ _ => .ok (true, .dict q.1) ρ q.2
  | .trg src => fun ρ h => (evSrc C true src ρ h).bind fun its ρ h => .ok (false, .tuple its) ρ h
  | .dic1 k v => fun ρ h => (ev C k ρ h).bind fun p ρ h => (ev C v ρ h).bind fun q ρ h => (ofO (keyOf p.2) ρ h).bind fun kk ρ h => .ok (true, .dict [(keyD kk, q.2)]) ρ h
def evAnd (C : Cl) : Es → M (Bool × PyData)
  | .nil => fun _ _ => .fail
  | .cons a r => match r with
    | .nil => ev C a
    | _ => fun ρ h => (asBool (ev C a ρ h)).bind fun c ρ h => if c then evAnd C r ρ h else .ok (false, .bool false) ρ h
def evOr (C : Cl) : Es → M (Bool × PyData)
  | .nil => fun _ _ => .fail
  | .cons a r => match r with
    | .nil => ev C a
    | _ => fun ρ h => (asBool (ev C a ρ h)).bind fun c ρ h => if c then .ok (false, .bool true) ρ h else evOr C r ρ h
def evs (C : Cl) : Es → M (List PyData)
  | .nil => fun ρ h => .ok [] ρ h
  | .cons e r => fun ρ h => (ev C e ρ h).bind fun p ρ h => (evs C r ρ h).bind fun ds ρ h => .ok (p.2 :: ds) ρ h
def evP (C : Cl) : Es → M (List Pre)
  | .nil => fun ρ h => .ok [] ρ h
  | .cons e r => fun ρ h => (preOf e (ev C e) ρ h).bind fun p ρ h => (evP C r ρ h).bind fun ds ρ h => .ok (p :: ds) ρ h
def evA (C : Cl) : Es → M (List PreA)
  | .nil => fun ρ h => .ok [] ρ h
  | .cons e r => fun ρ h => (argOf e (ev C e) ρ h).bind fun p ρ h => (evA C r ρ h).bind fun ds ρ h => .ok (p :: ds) ρ h
def evo (C : Cl) : Eo → M (Option Int)
  | .no => fun ρ h => .ok none ρ h
  | .so e => fun ρ h => (asIntR (ev C e ρ h)).bind fun i ρ h => .ok (some i) ρ h
def evc (C : Cl) : Eo → M Bool
  | .no => fun ρ h => .ok true ρ h
  | .so e => fun ρ h => asBool (ev C e ρ h)
def evSrc (C : Cl) (own : Bool) : Src → M (List PyData)
  | .val e => fun ρ h => (preOf e (ev C e) ρ h).bind fun p ρ h => (ofO (getI own ρ p) ρ h).bind fun x ρ h => ofO (items x) ρ h
  | .rng1 a => fun ρ h => (asIntR (ev C a ρ h)).bind fun i ρ h => if rngOk i && decide (i ≤ 16777216) then .ok (rangeD 0 1 i.toNat) ρ h else .fail
  | .rng2 a b => fun ρ h => (asIntR (ev C a ρ h)).bind fun i ρ h => (asIntR (ev C b ρ h)).bind fun j ρ h =>
      if rngOk i && rngOk j && decide (j - i ≤ 16777216) then .ok (rangeD i 1 (j - i).toNat) ρ h else .fail
  | .rng3 a b c => fun ρ h => (asIntR (ev C a ρ h)).bind fun i ρ h => (asIntR (ev C b ρ h)).bind fun j ρ h => (asIntR (ev C c ρ h)).bind fun k ρ h => (ofO (rng3N i j k) ρ h).bind fun n ρ h => .ok (rangeD i k n) ρ h
  | .zip a b => fun ρ h => (preOf a (ev C a) ρ h).bind fun p ρ h => (preOf b (ev C b) ρ h).bind fun q ρ h =>
      (ofO (getI own ρ p) ρ h).bind fun x ρ h => (ofO (getI own ρ q) ρ h).bind fun y ρ h => (ofO (items x) ρ h).bind fun xs ρ h => (ofO (items y) ρ h).bind fun ys ρ h => .ok (zipD xs ys) ρ h
  | .enm a => fun ρ h => (preOf a (ev C a) ρ h).bind fun p ρ h => (ofO (getI own ρ p) ρ h).bind fun x ρ h => (ofO (items x) ρ h).bind fun xs ρ h => .ok (enumD 0 xs) ρ h
  | .enz a b => fun ρ h => (preOf a (ev C a) ρ h).bind fun p ρ h => (preOf b (ev C b) ρ h).bind fun q ρ h =>
      (ofO (getI own ρ p) ρ h).bind fun x ρ h => (ofO (getI own ρ q) ρ h).bind fun y ρ h => (ofO (items x) ρ h).bind fun xs ρ h => (ofO (items y) ρ h).bind fun ys ρ h => .ok (enumD 0 (zipD xs ys)) ρ h
end

/-! ### statements -/
/-- a loop over things -/
def forL (t : Tg) (b : MS) : List PyData → MS
  | [] => fun ρ h => .nx ρ h
  | x :: xs => fun ρ h => match bindT t x ρ with
    | none => .fail
    | some ρ1 => match b ρ1 h with
      | .nx ρ2 h2 => forL t b xs ρ2 h2
      | .ct ρ2 h2 => forL t b xs ρ2 h2
      | .brk ρ2 h2 => .nx ρ2 h2
      | r => r
def forF (i : Nat) (b : MS) : List Nat → MS
  | [] => fun ρ h => .nx ρ h
  | k :: ks => fun ρ h => match b (ρ.set i (.fn k)) h with
      | .nx ρ2 h2 => forF i b ks ρ2 h2
      | .ct ρ2 h2 => forF i b ks ρ2 h2
      | .brk ρ2 h2 => .nx ρ2 h2
      | r => r
def whlL (c : M Bool) (b : MS) : Nat → MS
  | 0 => fun _ _ => .fail
  | n + 1 => fun ρ h => (c ρ h).thenS fun t ρ h => if t then (match b ρ h with
      | .nx ρ2 h2 => whlL c b n ρ2 h2
      | .ct ρ2 h2 => whlL c b n ρ2 h2
      | .brk ρ2 h2 => .nx ρ2 h2
      | r => r) else .nx ρ h
def fuel : Nat := 1000000000
/-- a op= b -/
def augD : Bop → PyData → PyData → Option PyData
  | .add, .int i, .int j => some (.int (i + j))
  | .sub, .int i, .int j => some (.int (i - j))
  | _, _, _ => none
/-- a value for a slot -/
def slotOf (p : Bool × PyData) : Sl := if p.1 then .own p.2 else .sh p.2
def putAll : List Nat → List (Bool × PyData) → Env → Option Env
  | [], [], ρ => some ρ
  | i :: is, p :: ps, ρ => putAll is ps (ρ.set i (slotOf p))
  | _, _, _ => none
def asgT (t : Tg) (p : Bool × PyData) (ρ : Env) : Option Env := match t with
  | .nm i => some (ρ.set i (slotOf p))
  | t => bindT t p.2 ρ
/-- x[i] = v -/
def setAt (xs : List PyData) (i : Int) (v : PyData) : Option (List PyData) := (L2.ixN xs.length i).map fun j => xs.set j v
def setSl (i : Nat) (k v : PyData) (ρ : Env) (h : Hand) : Option (Env × Hand) := match k, ρ[i]? with
  | .int j, some (.own (.list xs)) => (setAt xs j v).map fun ys => (ρ.set i (.own (.list ys)), h)
  | .int j, some .hnd => (match h with
    | some xs => (setAt xs j v).map fun ys => (ρ, some ys)
    | none => none)
  | _, _ => none
def evl (C : Cl) : Es → M (List (Bool × PyData))
  | .nil => fun ρ h => .ok [] ρ h
  | .cons e r => fun ρ h => (ev C e ρ h).bind fun p ρ h => (evl C r ρ h).bind fun ds ρ h => .ok (p :: ds) ρ h
/-- what a loop walks: a list of one's own is handed on ahead -/
def frzE (e : E) (ρ : Env) : Env := match e with
  | .var i => (match ρ[i]? with
    | some (.own d) => ρ.set i (.sh d)
    | _ => ρ)
  | _ => ρ
def frzS (s : Src) (ρ : Env) : Env := match s with
  | .val e => frzE e ρ
  | .zip a b => frzE a (frzE b ρ)
  | .enm a => frzE a ρ
  | .enz a b => frzE a (frzE b ρ)
  | _ => ρ
def srcF (C : Cl) (s : Src) : M (List PyData) := fun ρ h => evSrc C false s (frzS s ρ) h
mutual
def exs (C : Cl) (th : Option (Hand → Cr)) : Ss → MS
  | .nil => fun ρ h => .nx ρ h
  | .cons s r => fun ρ h => (ex C th s ρ h).seq (exs C th r)
def ex (C : Cl) (th : Option (Hand → Cr)) : S → MS
  | .asg t e => fun ρ h => (ev C e ρ h).thenS fun p ρ h => match asgT t p ρ with
    | some ρ' => .nx ρ' h
    | none => .fail
  | .par is es => fun ρ h => (evl C es ρ h).thenS fun ps ρ h => match putAll is ps ρ with
    | some ρ' => .nx ρ' h
    | none => .fail
  | .hand i e => fun ρ h => (ev C e ρ h).thenS fun p ρ h => match p, h with
    | (true, .list xs), none => .nx (ρ.set i .hnd) (some xs)
    | _, _ => .fail
  | .pars i k j l es => fun ρ h => (evl C es ρ h).thenS fun ps ρ h => match ps with
    | [(false, d1), (false, d2)] => (ofO (getM ρ h i) ρ h).thenS fun _ ρ h => (ev C k ρ h).thenS fun q ρ h => (ofO (setSl i q.2 d1 ρ h) ρ h).thenS fun w _ _ => (ofO (getM w.1 w.2 j) w.1 w.2).thenS fun _ ρ h => (ev C l ρ h).thenS fun q ρ h => match setSl j q.2 d2 ρ h with
      | some (ρ', h') => .nx ρ' h'
      | none => .fail
    | _ => .fail
  | .asgs i k v => fun ρ h => (ev C v ρ h).thenS fun p ρ h => (ofO (getM ρ h i) ρ h).thenS fun _ ρ h => (ev C k ρ h).thenS fun q ρ h => match setSl i q.2 p.2 ρ h with
    | some (ρ', h') => .nx ρ' h'
    | none => .fail
  | .aug i o e => fun ρ h => match ρ[i]? with
    | some (.sh _) => (ev C e ρ h).thenS fun p ρ h => (match ρ[i]? with
      | some (.sh x) => (match augD o x p.2 with
        | some y => .nx (ρ.set i (.sh y)) h
        | none => .fail)
      | _ => .fail)
    | _ => .fail
  | .augs i k o e => fun ρ h => (ofO (getM ρ h i) ρ h).thenS fun _ ρ h => (ev C k ρ h).thenS fun q ρ h => (ofO ((getM ρ h i).bind fun xs => idx (.list xs) q.2) ρ h).thenS fun y ρ h => (ev C e ρ h).thenS fun p ρ h => match augD o y p.2 with
    | some z => (match setSl i q.2 z ρ h with
      | some (ρ', h') => .nx ρ' h'
      | none => .fail)
    | none => .fail
  | .app i e => fun ρ h => match ρ[i]? with
    | some (.own (.list _)) => (ev C e ρ h).thenS fun p ρ h => (match ρ[i]? with
      | some (.own (.list xs)) => if xs.length < big then .nx (ρ.set i (.own (.list (xs ++ [p.2])))) h else .fail
      | _ => .fail)
    | _ => .fail
  | .ex e => fun ρ h => (ev C e ρ h).thenS fun _ ρ h => .nx ρ h
  | .ife c a b => fun ρ h => (asBool (ev C c ρ h)).thenS fun t ρ h => if t then exs C th a ρ h else exs C th b ρ h
  | .for_ t src b => fun ρ h => (srcF C src ρ h).thenS fun its ρ h => forL t (exs C th b) its ρ h
  | .forf i ks b => forF i (exs C th b) ks
  | .whl c b => whlL (fun ρ h => asBool (ev C c ρ h)) (exs C th b) fuel
  | .ret e => match e with
    | .var i => fun ρ h => (match ρ[i]? with
      | some (.own d) => .ret true d h
      | some (.sh d) => .ret false d h
      | _ => .fail)
    | e => fun ρ h => (ev C e ρ h).thenS fun p _ h => .ret p.1 p.2 h
  | .retn => fun _ h => .ret false .none h
  | .rse c => fun ρ h => .exc c ρ h
  | .tryth r c i sb => fun ρ h => match th with
    | none => .fail
    | some t => (match t h with
      | .ok _ d h' => (match r with
        | .ex => .nx ρ h'
        | .rt => .ret false d h'
        | .as j => .nx (ρ.set j (.sh d)) h')
      | .exc c' h' => (match C.sub c' c with
        | some true => (exs C none sb (ρ.set i (.exc c')) h').seq (fun ρ h => .nx (ρ.set i .non) h)
        | some false => .exc c' ρ h'
        | none => .fail)
      | .fail => .fail)
  | .tryx _ _ _ _ => fun _ _ => .fail
  | .brk => fun ρ h => .brk ρ h
  | .cnt => fun ρ h => .ct ρ h
  | .pass => fun ρ h => .nx ρ h
  | .ext i e => fun ρ h => match ρ[i]? with
    | some (.own (.list _)) => (ev C e ρ h).thenS fun p ρ h => (match ρ[i]? with
      | some (.own (.list xs)) => (match p.2 with
        | .list ys => if xs.length + ys.length ≤ big then .nx (ρ.set i (.own (.list (xs ++ ys)))) h else .fail
        | _ => .fail)
      | _ => .fail)
    | _ => .fail
  | .skip => fun _ _ => .fail
  | .asgd i k v => fun ρ h => (ev C v ρ h).thenS fun p ρ h => match ρ[i]? with
    | some (.own (.dict _)) => (ev C k ρ h).thenS fun q ρ h => (match keyOf q.2, ρ[i]? with
      | some kk, some (.own (.dict kvs)) => if kvs.length < big then .nx (ρ.set i (.own (.dict (dput kvs kk p.2)))) h else .fail
      | _, _ => .fail)
    | _ => .fail
end

/-! ### defs -/
structure Fd where
  np : Nat
  ns : Nat
  body : Ss
  dfl : List PyData := []
def argS : Arg → Sl
  | .sh d => .sh d
  | .bor d => .bor d
  | .fn k => .fn k
  | .hnd => .hnd
  | .scr ds => .scr ds
/-- a hand of one's own is not handed back -/
def backH (h0 h : Hand) : Hand := match h0 with
  | none => none
  | some _ => h
def rtC (h0 : Hand) : Rt → Cr
  | .nx _ h => .ok false .none (backH h0 h)
  | .ret fr d h => .ok fr d (backH h0 h)
  | .exc c _ h => .exc c (backH h0 h)
  | _ => .fail
/-- the program: its defs by number, its constants, which class is below which -/
structure Pg where
  fd : Nat → Option Fd
  gl : Nat → Option PyData
  sub : Nat → Nat → Option Bool
def env0 (f : Fd) (as : List Arg) : Env := as.map argS ++ (f.dfl.drop (as.length + f.dfl.length - f.np)).map .sh ++ List.replicate (f.ns - f.np) .non
/-- a def that gathers what is left of its arguments: told by this one default -/
def isRest (f : Fd) : Bool := match f.dfl with
  | [.dict []] => true
  | _ => false
def restA : List Arg → Option (List PyData)
  | [] => some []
  | .sh d :: r => (restA r).map fun l => d :: l
  | _ => none
def fixA (f : Fd) (as : List Arg) : Option (List Arg) := if f.np = 0 ∨ as.length + 1 < f.np ∨ 1000 < as.length then none else (restA (as.drop (f.np - 1))).map fun ds => as.take (f.np - 1) ++ [.sh (.tuple ds)]
def envR (f : Fd) (as : List Arg) : Env := as.map argS ++ List.replicate (f.ns - f.np) .non
/-- a def called, n levels deep -/
def run (P : Pg) : Nat → Nat → Option (Hand → Cr) → List Arg → Hand → Cr
  | 0, _, _, _, _ => .fail
  | n + 1, k, th, as, h => match P.fd k with
    | none => .fail
    | some f => if isRest f = true then (match fixA f as with
      | some as2 => rtC h (exs ⟨fun k as h => run P n k none as h, fun k t h => run P n k (some t) [] h, P.gl, P.sub⟩ th f.body (envR f as2) h)
      | none => .fail) else if as.length ≤ f.np ∧ f.np ≤ as.length + f.dfl.length then rtC h (exs ⟨fun k as h => run P n k none as h, fun k t h => run P n k (some t) [] h, P.gl, P.sub⟩ th f.body (env0 f as) h) else .fail
def cl (P : Pg) (n : Nat) : Cl := ⟨fun k as h => run P n k none as h, fun k t h => run P n k (some t) [] h, P.gl, P.sub⟩
end PyD

/-! PyC: how data stand in the heap; what a frame is; how it goes on. -/
namespace PyD
open PySem L2

/-! ### data in the heap; Z: what may change -/
mutual
inductive Rp (K : PySem.W.Frag) (H : Hp) (Z : Addr → Prop) : V → PyData → Prop
  | non : Rp K H Z .non .none
  | bl (b : Bool) : Rp K H Z (.bl b) (.bool b)
  | int (i : Int) : Rp K H Z (.int i) (.int i)
  | str (x : Str) : Rp K H Z (.str x) (.str x)
  | lst {a : Addr} {xs : List V} {ds : List PyData} : H a = some (.lst xs) → ¬ Z a → xs.length ≤ sizeLine → RpA K H Z xs ds → Rp K H Z (.ref a) (.list ds)
  | tup {a : Addr} {xs : List V} {ds : List PyData} : SqT K H a xs → xs.length ≤ sizeLine → RpA K H Z xs ds → Rp K H Z (.ref a) (.tuple ds)
  | dic {a : Addr} {kvs : List (Key × V)} {ds : List (PyData × PyData)} : H a = some (.dK kvs) → ¬ Z a → RpK K H Z kvs ds → Rp K H Z (.ref a) (.dict ds)
inductive RpA (K : PySem.W.Frag) (H : Hp) (Z : Addr → Prop) : List V → List PyData → Prop
  | nil : RpA K H Z [] []
  | cons {v : V} {vs : List V} {d : PyData} {ds : List PyData} : Rp K H Z v d → RpA K H Z vs ds → RpA K H Z (v :: vs) (d :: ds)
inductive RpK (K : PySem.W.Frag) (H : Hp) (Z : Addr → Prop) : List (Key × V) → List (PyData × PyData) → Prop
  | nil : RpK K H Z [] []
  | cons {k : Key} {v : V} {vs : List (Key × V)} {d : PyData} {ds : List (PyData × PyData)} : Rp K H Z v d → RpK K H Z vs ds → RpK K H Z ((k, v) :: vs) ((keyD k, d) :: ds)
end
/-- the heap goes on: what stands outside M stays, what is newly in M' is new -/
structure Stp (M : Addr → Prop) (H : Hp) (M' : Addr → Prop) (H' : Hp) : Prop where
  keep : ∀ a o, H a = some o → ¬ M a → (∀ ps, o ≠ .tbl ps) → H' a = some o
  own : ∀ a, M' a → M a ∨ H a = none
  there : ∀ a, H' a = none → H a = none
  tups : ∀ a xs, H a = some (.tup xs) → H' a = some (.tup xs)
  frzs : ∀ a o u, H a = some (.frz o u) → H' a = some (.frz o u)
section
variable {M M1 M2 : Addr → Prop} {H H1 H2 : Hp}
theorem Stp.refl (M : Addr → Prop) (H : Hp) : Stp M H M H := ⟨fun _ _ h _ _ => h, fun _ h => .inl h, fun _ h => h, fun _ _ h => h, fun _ _ _ h => h⟩
theorem Stp.trans (a : Stp M H M1 H1) (b : Stp M1 H1 M2 H2) : Stp M H M2 H2 where
  keep := fun c o h n t => b.keep c o (a.keep c o h n t) (fun z => (a.own c z).elim n fun e => by rw [h] at e; cases e) t
  own := fun c z => (b.own c z).elim (a.own c) fun e => .inr (a.there c e)
  there := fun c e => a.there c (b.there c e)
  tups := fun c xs h => b.tups c xs (a.tups c xs h)
  frzs := fun c o u h => b.frzs c o u (a.frzs c o u h)
/-- all stays, more may come -/
theorem Stp.same (h : Same H H1) : Stp M H M H1 := ⟨fun c o e _ _ => h c o e, fun _ z => .inl z, fun c e => Same.free h e, fun c xs e => h c _ e, fun c o u e => h c _ e⟩
theorem Stp.lessM (h : ∀ a, M1 a → M a) : Stp M H M1 H := ⟨fun _ _ e _ _ => e, fun a z => .inl (h a z), fun _ e => e, fun _ _ e => e, fun _ _ _ e => e⟩
end
theorem same_upd {H : Hp} {p : Addr} {o : HO} (h : H p = none) : Same H (upd H p o) := fun b x e => by
  rw [upd_ne (ne_of_none e h)]
  exact e

section
variable {K : PySem.W.Frag} {H H' : Hp} {Z Z' : Addr → Prop}
theorem Rd.mv {a : Addr} {u : HO} (hk : ∀ b o, H b = some o → (∀ ps, o ≠ .tbl ps) → b = a → H' b = some o) (hn : ∀ ps, u ≠ .tbl ps) (hf : ∀ b o u, H b = some (.frz o u) → H' b = some (.frz o u)) (r : Rd H a u) : Rd H' a u := by
  rcases r with r | ⟨o, r⟩
  · exact .inl (hk _ _ r hn rfl)
  · exact .inr ⟨o, hf _ _ _ r⟩
theorem SqT.mv {a : Addr} {xs : List V} (ht : ∀ a xs, H a = some (.tup xs) → H' a = some (.tup xs)) (hf : ∀ b o u, H b = some (.frz o u) → H' b = some (.frz o u)) (r : SqT K H a xs) : SqT K H' a xs := by
  rcases r with (r | ⟨o, r⟩) | r
  · exact .inl (.inl (ht _ _ r))
  · exact .inl (.inr ⟨o, hf _ _ _ r⟩)
  · exact .inr r
theorem rd_dom {a : Addr} {u : HO} (r : Rd H a u) : H a ≠ none := by
  rcases r with r | ⟨o, r⟩ <;> rw [r] <;> simp
mutual
theorem Rp.mv (hk : ∀ a o, H a = some o → ¬ Z a → (∀ ps, o ≠ .tbl ps) → H' a = some o) (hz : ∀ a, H a ≠ none → Z' a → Z a) (ht : ∀ a xs, H a = some (.tup xs) → H' a = some (.tup xs)) (hf : ∀ b o u, H b = some (.frz o u) → H' b = some (.frz o u)) :
    ∀ {v : V} {d : PyData}, Rp K H Z v d → Rp K H' Z' v d
  | _, _, .non => .non
  | _, _, .bl b => .bl b
  | _, _, .int i => .int i
  | _, _, .str x => .str x
  | _, _, .lst r nz l q => .lst (hk _ _ r nz (fun ps => by simp)) (fun z => nz (hz _ (by rw [r]; simp) z)) l (RpA.mv hk hz ht hf q)
  | _, _, .tup r l q => .tup (SqT.mv ht hf r) l (RpA.mv hk hz ht hf q)
  | _, _, .dic r nz q => .dic (hk _ _ r nz (fun ps => by simp)) (fun z => nz (hz _ (by rw [r]; simp) z)) (RpK.mv hk hz ht hf q)
theorem RpA.mv (hk : ∀ a o, H a = some o → ¬ Z a → (∀ ps, o ≠ .tbl ps) → H' a = some o) (hz : ∀ a, H a ≠ none → Z' a → Z a) (ht : ∀ a xs, H a = some (.tup xs) → H' a = some (.tup xs)) (hf : ∀ b o u, H b = some (.frz o u) → H' b = some (.frz o u)) :
    ∀ {v : List V} {d : List PyData}, RpA K H Z v d → RpA K H' Z' v d
  | _, _, .nil => .nil
  | _, _, .cons a b => .cons (Rp.mv hk hz ht hf a) (RpA.mv hk hz ht hf b)
theorem RpK.mv (hk : ∀ a o, H a = some o → ¬ Z a → (∀ ps, o ≠ .tbl ps) → H' a = some o) (hz : ∀ a, H a ≠ none → Z' a → Z a) (ht : ∀ a xs, H a = some (.tup xs) → H' a = some (.tup xs)) (hf : ∀ b o u, H b = some (.frz o u) → H' b = some (.frz o u)) :
    ∀ {v : List (Key × V)} {d : List (PyData × PyData)}, RpK K H Z v d → RpK K H' Z' v d
  | _, _, .nil => .nil
  | _, _, .cons a b => .cons (Rp.mv hk hz ht hf a) (RpK.mv hk hz ht hf b)
end
/-- fewer things may change -/
theorem Rp.anti (h : ∀ a, Z' a → Z a) {v : V} {d : PyData} (r : Rp K H Z v d) : Rp K H Z' v d := r.mv (fun _ _ e _ _ => e) (fun a _ z => h a z) (fun _ _ e => e) fun _ _ _ e => e
theorem RpA.anti (h : ∀ a, Z' a → Z a) {v : List V} {d : List PyData} (r : RpA K H Z v d) : RpA K H Z' v d := r.mv (fun _ _ e _ _ => e) (fun a _ z => h a z) (fun _ _ e => e) fun _ _ _ e => e
/-- a new address may change, too -/
theorem Rp.also {p : Addr} (h : H p = none) {v : V} {d : PyData} (r : Rp K H Z v d) : Rp K H (fun a => Z a ∨ a = p) v d :=
  r.mv (fun _ _ e _ _ => e) (fun a n z => z.elim id fun e => absurd (by rw [e]; exact h) n) (fun _ _ e => e) fun _ _ _ e => e
theorem RpA.also {p : Addr} (h : H p = none) {v : List V} {d : List PyData} (r : RpA K H Z v d) : RpA K H (fun a => Z a ∨ a = p) v d :=
  r.mv (fun _ _ e _ _ => e) (fun a n z => z.elim id fun e => absurd (by rw [e]; exact h) n) (fun _ _ e => e) fun _ _ _ e => e
theorem Rp.same (h : Same H H') {v : V} {d : PyData} (r : Rp K H Z v d) : Rp K H' Z v d := r.mv (fun a o e _ _ => h a o e) (fun a _ z => z) (fun _ _ e => h _ _ e) fun _ _ _ e => h _ _ e
theorem RpA.same (h : Same H H') {v : List V} {d : List PyData} (r : RpA K H Z v d) : RpA K H' Z v d := r.mv (fun a o e _ _ => h a o e) (fun a _ z => z) (fun _ _ e => h _ _ e) fun _ _ _ e => h _ _ e
theorem RpK.same (h : Same H H') {v : List (Key × V)} {d : List (PyData × PyData)} (r : RpK K H Z v d) : RpK K H' Z v d := r.mv (fun a o e _ _ => h a o e) (fun a _ z => z) (fun _ _ e => h _ _ e) fun _ _ _ e => h _ _ e
theorem RpK.anti (h : ∀ a, Z' a → Z a) {v : List (Key × V)} {d : List (PyData × PyData)} (r : RpK K H Z v d) : RpK K H Z' v d := r.mv (fun _ _ e _ _ => e) (fun a _ z => h a z) (fun _ _ e => e) fun _ _ _ e => e
theorem keyOf_D (k : Key) : keyOf (keyD k) = some k := by cases k <;> rfl
theorem rp_key (k : Key) : Rp K H Z (kV k) (keyD k) := by
  cases k with
  | inl i => exact .int i
  | inr x => exact .str x
theorem kV_of {v : V} {d : PyData} {k : Key} (r : Rp K H Z v d) (h : keyOf d = some k) : v = kV k := by
  cases r <;> first | (cases h; done) | (cases h; rfl)
theorem RpK.len : ∀ {v : List (Key × V)} {d : List (PyData × PyData)}, RpK K H Z v d → v.length = d.length
  | _, _, .nil => rfl
  | _, _, .cons _ b => by rw [List.length_cons, List.length_cons, RpK.len b]
theorem RpK.keys : ∀ {v : List (Key × V)} {d : List (PyData × PyData)}, RpK K H Z v d → RpA K H Z (v.map fun kv => kV kv.1) (d.map (·.1))
  | _, _, .nil => .nil
  | _, _, .cons _ b => .cons (rp_key _) (RpK.keys b)
theorem dget_cons {k0 k : Key} {d : PyData} {r : List (PyData × PyData)} : dget ((keyD k0, d) :: r) k = if k0 = k then some d else dget r k := by
  unfold dget
  rw [List.find?_cons, keyOf_D]
  by_cases h : k0 = k
  · subst h; simp
  · have : ¬ (some k0 = some k) := fun e => h (Option.some.inj e)
    simp [h, this]
theorem RpK.get : ∀ {v : List (Key × V)} {d : List (PyData × PyData)} (k : Key), RpK K H Z v d → (valV v k = none ∧ dget d k = none) ∨ ∃ x e, valV v k = some x ∧ dget d k = some e ∧ Rp K H Z x e
  | _, _, _, .nil => .inl ⟨rfl, rfl⟩
  | _, _, k, @RpK.cons _ _ _ k0 x vs e ds a b => by
    rw [dget_cons]
    by_cases h : k0 = k
    · rw [valV_pos h, if_pos h]
      exact .inr ⟨x, e, rfl, rfl, a⟩
    · rw [valV_neg h, if_neg h]
      exact RpK.get k b
theorem RpK.any : ∀ {v : List (Key × V)} {d : List (PyData × PyData)} (k : Key), RpK K H Z v d → (v.any fun kv => decide (kv.1 = k)) = (d.any fun p => decide (keyOf p.1 = some k))
  | _, _, _, .nil => rfl
  | _, _, k, @RpK.cons _ _ _ k0 x vs e ds a b => by
    rw [List.any_cons, List.any_cons, RpK.any k b, keyOf_D]
    congr 1
    by_cases h : k0 = k
    · subst h; simp
    · have : ¬ (some k0 = some k) := fun e => h (Option.some.inj e)
      simp [h, this]
theorem RpK.repl : ∀ {v : List (Key × V)} {d : List (PyData × PyData)} (k : Key) {y : V} {e : PyData}, RpK K H Z v d → Rp K H Z y e → RpK K H Z (v.map fun kv => if kv.1 = k then (kv.1, y) else kv) (d.map fun p => if keyOf p.1 = some k then (keyD k, e) else p)
  | _, _, _, _, _, .nil, _ => .nil
  | _, _, k, y, e, @RpK.cons _ _ _ k0 x vs e0 ds a b, r => by
    rw [List.map_cons, List.map_cons]
    have ih := RpK.repl k b r
    by_cases h : k0 = k
    · subst h
      have h2 : keyOf (keyD k0) = some k0 := keyOf_D k0
      simp only [h2, if_true]
      exact .cons r ih
    · have h2 : ¬ keyOf (keyD k0) = some k := by rw [keyOf_D]; exact fun e => h (Option.some.inj e)
      simp only [h, h2, if_false]
      exact .cons a ih
theorem RpK.app : ∀ {v w : List (Key × V)} {d e : List (PyData × PyData)}, RpK K H Z v d → RpK K H Z w e → RpK K H Z (v ++ w) (d ++ e)
  | _, _, _, _, .nil, q => q
  | _, _, _, _, .cons a b, q => .cons a (RpK.app b q)
theorem RpK.put {v : List (Key × V)} {d : List (PyData × PyData)} (k : Key) {y : V} {e : PyData} (q : RpK K H Z v d) (r : Rp K H Z y e) : RpK K H Z (putK v k y) (dput d k e) := by
  unfold putK dput
  rw [q.any k]
  split
  · exact q.repl k r
  · exact q.app (.cons r .nil)
theorem RpA.len : ∀ {v : List V} {d : List PyData}, RpA K H Z v d → v.length = d.length
  | _, _, .nil => rfl
  | _, _, .cons _ b => by rw [List.length_cons, List.length_cons, RpA.len b]
theorem RpA.get : ∀ {v : List V} {d : List PyData} {i : Nat} {e : PyData}, RpA K H Z v d → d[i]? = some e → ∃ x, v[i]? = some x ∧ Rp K H Z x e
  | _, _, _, _, .nil, h => by simp at h
  | _, _, 0, _, .cons a _, h => by simp at h; subst h; exact ⟨_, rfl, a⟩
  | _, _, i + 1, _, .cons _ b, h => by
    obtain ⟨x, h1, h2⟩ := RpA.get (i := i) b (by simpa using h)
    exact ⟨x, by simpa using h1, h2⟩
theorem RpA.getV : ∀ {v : List V} {d : List PyData} {i : Nat} {e : V}, RpA K H Z v d → v[i]? = some e → ∃ x, d[i]? = some x ∧ Rp K H Z e x
  | _, _, _, _, .nil, h => by simp at h
  | _, _, 0, _, .cons a _, h => by simp at h; subst h; exact ⟨_, rfl, a⟩
  | _, _, i + 1, _, .cons _ b, h => by
    obtain ⟨x, h1, h2⟩ := RpA.getV (i := i) b (by simpa using h)
    exact ⟨x, by simpa using h1, h2⟩
theorem RpA.app : ∀ {v w : List V} {d e : List PyData}, RpA K H Z v d → RpA K H Z w e → RpA K H Z (v ++ w) (d ++ e)
  | _, _, _, _, .nil, q => q
  | _, _, _, _, .cons a b, q => .cons a (RpA.app b q)
theorem RpA.take : ∀ {v : List V} {d : List PyData} (n : Nat), RpA K H Z v d → RpA K H Z (v.take n) (d.take n)
  | _, _, 0, _ => .nil
  | _, _, _ + 1, .nil => .nil
  | _, _, n + 1, .cons a b => .cons a (RpA.take n b)
theorem RpA.drop : ∀ {v : List V} {d : List PyData} (n : Nat), RpA K H Z v d → RpA K H Z (v.drop n) (d.drop n)
  | _, _, 0, q => q
  | _, _, _ + 1, .nil => .nil
  | _, _, n + 1, .cons a b => RpA.drop n b
theorem RpA.set : ∀ {v : List V} {d : List PyData} (i : Nat) {x : V} {e : PyData}, RpA K H Z v d → Rp K H Z x e → RpA K H Z (v.set i x) (d.set i e)
  | _, _, _, _, _, .nil, _ => .nil
  | _, _, 0, _, _, .cons _ b, q => .cons q b
  | _, _, n + 1, _, _, .cons a b, q => .cons a (RpA.set n b q)
theorem RpA.erase : ∀ {v : List V} {d : List PyData} (i : Nat), RpA K H Z v d → RpA K H Z (v.eraseIdx i) (d.eraseIdx i)
  | _, _, _, .nil => .nil
  | _, _, 0, .cons _ b => b
  | _, _, n + 1, .cons a b => .cons a (RpA.erase n b)
theorem RpA.reverse : ∀ {v : List V} {d : List PyData}, RpA K H Z v d → RpA K H Z v.reverse d.reverse
  | _, _, .nil => .nil
  | _, _, .cons a b => by
    rw [List.reverse_cons, List.reverse_cons]
    exact (RpA.reverse b).app (.cons a .nil)
theorem RpA.dropLast {v : List V} {d : List PyData} (q : RpA K H Z v d) : RpA K H Z v.dropLast d.dropLast := by
  rw [List.dropLast_eq_take, List.dropLast_eq_take, q.len]
  exact q.take _
theorem RpA.ints : ∀ {v : List V} {d : List PyData} {l : List Int}, RpA K H Z v d → dInts d = some l → v = l.map V.int
  | _, _, _, .nil, h => by cases h; rfl
  | _, _, l, .cons a b, h => by
    cases a <;> simp only [dInts, reduceCtorEq] at h
    obtain ⟨l', h1, rfl⟩ := Option.map_eq_some_iff.mp h
    rw [RpA.ints b h1]
    rfl
theorem RpA.bools : ∀ {v : List V} {d : List PyData} {l : List Bool}, RpA K H Z v d → dBools d = some l → v = l.map V.bl
  | _, _, _, .nil, h => by cases h; rfl
  | _, _, l, .cons a b, h => by
    cases a <;> simp only [dBools, reduceCtorEq] at h
    obtain ⟨l', h1, rfl⟩ := Option.map_eq_some_iff.mp h
    rw [RpA.bools b h1]
    rfl
theorem RpA.ofInts : ∀ (l : List Int), RpA K H Z (l.map V.int) (l.map PyData.int)
  | [] => .nil
  | i :: r => .cons (.int i) (RpA.ofInts r)
end

/-! ### the ghosts of a frame -/
structure Sx where
  K : PySem.W.Frag
  T : List (Addr × Str)
  fa : Nat → Addr
  ca : Nat → Addr
  nf : Nat
  ea : Option (Addr × Nat)
structure Gh where
  S : Sx
  Zc : Addr → Prop
  H0 : Hp
  M0 : Addr → Prop
  Bz : Addr → Prop
  hd0 : Option Addr
abbrev Gh.K (G : Gh) : PySem.W.Frag := G.S.K
abbrev Gh.T (G : Gh) : List (Addr × Str) := G.S.T
abbrev Gh.fa (G : Gh) : Nat → Addr := G.S.fa
abbrev Gh.ca (G : Gh) : Nat → Addr := G.S.ca
/-- what the frame may change -/
def Mo (ρ : Env) (σ : St) (hd : Option Addr) (a : Addr) : Prop := hd = some a ∨ ∃ (i : Nat) (d : PyData), ρ[i]? = some (.own d) ∧ σ[i]? = some (some (.ref a))
/-- a list, a dict whose own place may change -/
inductive Root (K : PySem.W.Frag) (H : Hp) (Z : Addr → Prop) (a : Addr) : PyData → Prop
  | lst {xs : List V} {ds : List PyData} : H a = some (.lst xs) → xs.length ≤ sizeLine → RpA K H Z xs ds → Root K H Z a (.list ds)
  | dic {kvs : List (Key × V)} {ds : List (PyData × PyData)} : H a = some (.dK kvs) → RpK K H Z kvs ds → Root K H Z a (.dict ds)
theorem Root.dom {K : PySem.W.Frag} {H : Hp} {Z : Addr → Prop} {a : Addr} {d : PyData} (r : Root K H Z a d) : H a ≠ none := by
  cases r with
  | lst h _ _ => rw [h]; simp
  | dic h _ => rw [h]; simp
theorem Root.rp {K : PySem.W.Frag} {H : Hp} {Z : Addr → Prop} {a : Addr} {d : PyData} (r : Root K H Z a d) (n : ¬ Z a) : Rp K H Z (.ref a) d := by
  cases r with
  | lst h l q => exact .lst h n l q
  | dic h q => exact .dic h n q
theorem Root.mv {K : PySem.W.Frag} {H H' : Hp} {Z Z' : Addr → Prop} {a : Addr} {d : PyData} (r : Root K H Z a d) (ha : ∀ o, H a = some o → (∀ ps, o ≠ .tbl ps) → (∀ xs, o ≠ .tup xs) → H' a = some o) (hk : ∀ a o, H a = some o → ¬ Z a → (∀ ps, o ≠ .tbl ps) → H' a = some o) (hz : ∀ a, H a ≠ none → Z' a → Z a)
    (ht : ∀ a xs, H a = some (.tup xs) → H' a = some (.tup xs)) (hf : ∀ b o u, H b = some (.frz o u) → H' b = some (.frz o u)) : Root K H' Z' a d := by
  cases r with
  | lst h l q => exact .lst (ha _ h (fun ps => by simp) (fun ps => by simp)) l (q.mv hk hz ht hf)
  | dic h q => exact .dic (ha _ h (fun ps => by simp) (fun ps => by simp)) (q.mv hk hz ht hf)
/-- a list that no one changes -/
def SqF (K : PySem.W.Frag) (H : Hp) (a : Addr) (xs : List V) : Prop := (∃ o, H a = some (.frz o (.lst xs))) ∨
    ∃ (o : Obj) (its : Array Value) (n : Nat), K.lookup a = some o ∧ o.cls = .type "list" ∧ o.dict = none ∧ o.data = .seq its n ∧ its.size ≤ sizeLine ∧ Vals xs its.toList
theorem SqF.sql {K : PySem.W.Frag} {H : Hp} {a : Addr} {xs : List V} (h : SqF K H a xs) : SqL K H a xs := h.imp (fun ⟨o, e⟩ => .inr ⟨o, e⟩) id
theorem SqF.mv {K : PySem.W.Frag} {H H' : Hp} {a : Addr} {xs : List V} (hf : ∀ b o u, H b = some (.frz o u) → H' b = some (.frz o u)) (h : SqF K H a xs) : SqF K H' a xs := h.imp (fun ⟨o, e⟩ => ⟨o, hf _ _ _ e⟩) id
/-- what stands in a slot -/
def SlotOk (G : Gh) (H : Hp) (Mx : Addr → Prop) (hd : Option Addr) (s : Sl) (x : Option (Option V)) : Prop := match s with
  | .non => True
  | .sh d => ∃ v, x = some (some v) ∧ Rp G.K H (fun a => G.Zc a ∨ Mx a) v d
  | .own d => ∃ a, x = some (some (.ref a)) ∧ Root G.K H (fun a => G.Zc a ∨ Mx a) a d ∧ (G.M0 a ∨ G.H0 a = none) ∧ ¬ G.Zc a ∧ hd ≠ some a
  | .bor d => ∃ a, x = some (some (.ref a)) ∧ Root G.K H (fun a => G.Zc a ∨ Mx a) a d ∧ ¬ Mx a ∧ G.Bz a
  | .fn k => x = some (some (.ref (G.fa k))) ∧ k < G.S.nf
  | .hnd => ∃ a, hd = some a ∧ x = some (some (.ref a))
  | .exc c => ∀ a c0, G.S.ea = some (a, c0) → x = some (some (.ref a)) ∧ c = c0
  | .scr ds => ∃ a xs, x = some (some (.ref a)) ∧ SqF G.K H a xs ∧ xs.length ≤ sizeLine ∧ RpA G.K H (fun a => G.Zc a ∨ Mx a) xs ds
/-- the hand -/
def HndOk (K : PySem.W.Frag) (H : Hp) (Z : Addr → Prop) (hd : Option Addr) (h : Hand) : Prop := match h with
  | none => hd = none
  | some ds => ∃ a, hd = some a ∧ ∃ xs, H a = some (.lst xs) ∧ xs.length ≤ sizeLine ∧ RpA K H Z xs ds
open LamX in
structure Rel (G : Gh) (hd : Option Addr) (ρ : Env) (h : Hand) (σ : St) (H : Hp) : Prop where
  len : σ.length = ρ.length
  slot : ∀ (i : Nat) (s : Sl), ρ[i]? = some s → SlotOk G H (Mo ρ σ hd) hd s σ[i]?
  uniq : ∀ (i j : Nat) (d d' : PyData) (a : Addr), ρ[i]? = some (.own d) → ρ[j]? = some (.own d') → σ[i]? = some (some (.ref a)) → σ[j]? = some (some (.ref a)) → i = j
  hnd : HndOk G.K H (fun a => G.Zc a ∨ Mo ρ σ hd a) hd h
  stp : Stp G.M0 G.H0 (Mo ρ σ hd) H
  hd0 : ∀ a, G.hd0 = some a → hd = some a
  tabs : Tabs G.T H
  zdom : ∀ a, G.Zc a → H a ≠ none
  bz : ∀ a, G.Bz a → G.Zc a
abbrev Gh.Z (G : Gh) (ρ : Env) (σ : St) (hd : Option Addr) : Addr → Prop := fun a => G.Zc a ∨ Mo ρ σ hd a
end PyD

/-! PyD1: how a frame goes on. -/
namespace PyD
open PySem L2 LamX

def Gh.plus (G : Gh) (p : Addr) : Gh := { G with Zc := fun b => G.Zc b ∨ b = p }
theorem Mo.hd {ρ : Env} {σ : L2.St} {hd : Option Addr} {a : Addr} (h : hd = some a) : Mo ρ σ hd a := .inl h

section
variable {G G' : Gh} {H H' : Hp} {M M' : Addr → Prop} {hd : Option Addr}
theorem SlotOk.mv (eK : G'.K = G.K) (eH : G'.H0 = G.H0) (eM : G'.M0 = G.M0) (ef : G'.S = G.S) (hr : ∀ a o, H a = some o → hd ≠ some a → (∀ ps, o ≠ .tbl ps) → H' a = some o) (hMo : ∀ a, hd = some a → M a)
    (hzc : ∀ a, H a ≠ none → G'.Zc a → G.Zc a) (eB : G'.Bz = G.Bz) (hM : ∀ a, H a ≠ none → M' a → M a) (ht : ∀ a xs, H a = some (.tup xs) → H' a = some (.tup xs)) (hf : ∀ b o u, H b = some (.frz o u) → H' b = some (.frz o u))
    {s : Sl} {x : Option (Option V)} (h : SlotOk G H M hd s x) : SlotOk G' H' M' hd s x := by
  have hk : ∀ a o, H a = some o → ¬ (G.Zc a ∨ M a) → (∀ ps, o ≠ .tbl ps) → H' a = some o := fun a o e n t => hr a o e (fun z => n (.inr (hMo a z))) t
  have hz : ∀ a, H a ≠ none → (G'.Zc a ∨ M' a) → (G.Zc a ∨ M a) := fun a n z => z.imp (hzc a n) (hM a n)
  cases s with
  | non => trivial
  | sh d =>
    obtain ⟨v, e, r⟩ := h
    exact ⟨v, e, by rw [eK]; exact r.mv hk hz ht hf⟩
  | own d =>
    obtain ⟨a, e, r, n0, nz, nh⟩ := h
    exact ⟨a, e, by rw [eK]; exact r.mv (fun o e1 t _ => hr a o e1 nh t) hk hz ht hf, by rw [eH, eM]; exact n0, fun z => nz (hzc a r.dom z), nh⟩
  | bor d =>
    obtain ⟨a, e, r, nm, az⟩ := h
    exact ⟨a, e, by rw [eK]; exact r.mv (fun o e1 t _ => hr a o e1 (fun z => nm (hMo a z)) t) hk hz ht hf, fun z => nm (hM a r.dom z), by rw [eB]; exact az⟩
  | fn k => exact (by rw [show G'.fa = G.fa from congrArg Sx.fa ef, ef]; exact h : x = some (some (.ref (G'.fa k))) ∧ k < G'.S.nf)
  | hnd => exact h
  | exc c => exact (by rw [ef]; exact h : ∀ a c0, G'.S.ea = some (a, c0) → x = some (some (.ref a)) ∧ c = c0)
  | scr ds =>
    obtain ⟨a, xs, e, r, l, q⟩ := h
    exact ⟨a, xs, e, by rw [eK]; exact r.mv hf, l, by rw [eK]; exact q.mv hk hz ht hf⟩
end
theorem HndOk.mv {K : PySem.W.Frag} {H H' : Hp} {Z Z' : Addr → Prop} {hd : Option Addr} {h : Hand} (hr : ∀ a o, H a = some o → hd = some a → (∀ ps, o ≠ .tbl ps) → H' a = some o) (hk : ∀ a o, H a = some o → ¬ Z a → (∀ ps, o ≠ .tbl ps) → H' a = some o) (hz : ∀ a, H a ≠ none → Z' a → Z a)
    (ht : ∀ a xs, H a = some (.tup xs) → H' a = some (.tup xs)) (hf : ∀ b o u, H b = some (.frz o u) → H' b = some (.frz o u)) (x : HndOk K H Z hd h) : HndOk K H' Z' hd h := by
  cases h with
  | none => exact x
  | some ds =>
    obtain ⟨a, e, xs, h1, l, q⟩ := x
    exact ⟨a, e, xs, hr a _ h1 e (fun ps => by simp), l, q.mv hk hz ht hf⟩
section
variable {G : Gh} {hd : Option Addr} {ρ : Env} {h h' : Hand} {σ : L2.St} {H H' : Hp}
theorem tabs_same {T : List (Addr × Str)} (t : Tabs T H) (e : Same H H') : Tabs T H' := t.ext e
/-- all stays, more may come -/
theorem Rel.same (R : Rel G hd ρ h σ H) (e : Same H H') : Rel G hd ρ h σ H' where
  len := R.len
  slot := fun i s q => (R.slot i s q).mv rfl rfl rfl rfl (fun a o e1 _ _ => e a o e1) (fun a z => .inl z) (fun _ _ z => z) rfl (fun _ _ z => z) (fun a xs e1 => e a _ e1) fun a o u e1 => e a _ e1
  uniq := R.uniq
  hnd := R.hnd.mv (fun a o e1 _ _ => e a o e1) (fun a o e1 _ _ => e a o e1) (fun _ _ z => z) (fun a xs e1 => e a _ e1) fun a o u e1 => e a _ e1
  stp := R.stp.trans (Stp.same e)
  hd0 := R.hd0
  tabs := tabs_same R.tabs e
  zdom := fun a z n => R.zdom a z (Same.free e n)
  bz := R.bz
/-- a new place may change, too -/
theorem Rel.also {p : Addr} (R : Rel G hd ρ h σ H) (n : H p = none) (e : Same H H') (hp : H' p ≠ none) : Rel (G.plus p) hd ρ h σ H' where
  len := R.len
  slot := fun i s q => SlotOk.mv (G := G) (G' := G.plus p) rfl rfl rfl rfl (fun a o e1 _ _ => e a o e1) (fun a z => .inl z) (fun a na (z : G.Zc a ∨ a = p) => z.elim id fun e => absurd (by rw [e]; exact n) na) rfl (fun _ _ z => z) (fun a xs e1 => e a _ e1) (fun a o u e1 => e a _ e1) (R.slot i s q)
  uniq := R.uniq
  hnd := HndOk.mv (Z := G.Z ρ σ hd) (Z' := (G.plus p).Z ρ σ hd) (fun a o e1 _ _ => e a o e1) (fun a o e1 _ _ => e a o e1) (fun a na z => by
    rcases z with (z | e) | z
    · exact .inl z
    · exact absurd (by rw [e]; exact n) na
    · exact .inr z) (fun a xs e1 => e a _ e1) (fun a o u e1 => e a _ e1) R.hnd
  stp := R.stp.trans (Stp.same e)
  hd0 := R.hd0
  tabs := tabs_same R.tabs e
  bz := fun a z => .inl (R.bz a z)
  zdom := fun a z n' => by
    rcases z with z | z
    · exact R.zdom a z (Same.free e n')
    · rw [z] at n'; exact hp n'
/-- the hand may have changed, the tables grown, more may have come -/
theorem Rel.move (R : Rel G hd ρ h σ H) (st : Stp (fun a => hd = some a) H (fun a => hd = some a) H') (hh : HndOk G.K H' (G.Z ρ σ hd) hd h') (tb : Tabs G.T H') : Rel G hd ρ h' σ H' where
  len := R.len
  slot := fun i s q => (R.slot i s q).mv rfl rfl rfl rfl (fun a o e1 n t => st.keep a o e1 n t) (fun a z => .inl z) (fun _ _ z => z) rfl (fun _ _ z => z) st.tups st.frzs
  uniq := R.uniq
  hnd := hh
  stp := by
    refine R.stp.trans ⟨fun a o e n t => st.keep a o e (fun z => n (.inl z)) t, fun a z => .inl z, st.there, st.tups, st.frzs⟩
  hd0 := R.hd0
  tabs := tb
  zdom := fun a z n => R.zdom a z (st.there a n)
  bz := R.bz
theorem Mo.freeze {i : Nat} {s : Sl} (hs : ∀ d, s ≠ .own d) {a : Addr} (m : Mo (ρ.set i s) σ hd a) : Mo ρ σ hd a := by
  rcases m with m | ⟨j, d, e1, e2⟩
  · exact .inl m
  · refine .inr ⟨j, d, ?_, e2⟩
    by_cases hj : i = j
    · subst hj
      by_cases hl : i < ρ.length
      · rw [List.getElem?_set_self hl] at e1
        exact absurd (Option.some.inj e1) (hs d)
      · rw [List.getElem?_eq_none (by rw [List.length_set]; omega)] at e1
        cases e1
    · rwa [List.getElem?_set_ne hj] at e1
theorem slot_lt {i : Nat} {s : Sl} (e : ρ[i]? = some s) : i < ρ.length := by
  by_cases hl : i < ρ.length
  · exact hl
  · rw [List.getElem?_eq_none (by omega)] at e; cases e
/-- a list of one's own is handed on -/
theorem Rel.freeze (R : Rel G hd ρ h σ H) {i : Nat} {d : PyData} (e : ρ[i]? = some (.own d)) :
    Rel G hd (ρ.set i (.sh d)) h σ H ∧ Stp (Mo ρ σ hd) H (Mo (ρ.set i (.sh d)) σ hd) H ∧ ∃ a, σ[i]? = some (some (.ref a)) ∧ Rp G.K H (G.Z (ρ.set i (.sh d)) σ hd) (.ref a) d := by
  have hM : ∀ a, Mo (ρ.set i (.sh d)) σ hd a → Mo ρ σ hd a := fun a m => Mo.freeze (fun _ z => by cases z) m
  obtain ⟨a, ea, r, n0, nz, nh⟩ := R.slot i _ e
  have na : ¬ Mo (ρ.set i (.sh d)) σ hd a := by
    rintro (m | ⟨j, d', e1, e2⟩)
    · exact nh m
    · by_cases hj : i = j
      · subst hj
        rw [List.getElem?_set_self (slot_lt e)] at e1
        cases e1
      · rw [List.getElem?_set_ne hj] at e1
        exact hj (R.uniq i j d d' a e e1 ea e2)
  have rp : Rp G.K H (G.Z (ρ.set i (.sh d)) σ hd) (.ref a) d := by
    have r' := r.mv (H' := H) (Z' := G.Z (ρ.set i (.sh d)) σ hd) (fun o e1 _ _ => e1) (fun _ _ e1 _ _ => e1) (fun b _ z => z.imp id (hM b)) (fun _ _ e1 => e1) fun _ _ _ e1 => e1
    exact r'.rp (fun z => z.elim nz na)
  have stp := Stp.lessM (H := H) hM
  refine ⟨⟨by rw [List.length_set]; exact R.len, fun j s q => ?_, fun j k d1 d2 b e1 e2 e3 e4 => ?_, ?_, R.stp.trans stp, R.hd0, R.tabs, R.zdom, R.bz⟩, stp, a, ea, rp⟩
  · by_cases hj : i = j
    · subst hj
      rw [List.getElem?_set_self (slot_lt e)] at q
      cases q
      exact ⟨_, ea, rp⟩
    · rw [List.getElem?_set_ne hj] at q
      exact (R.slot j s q).mv rfl rfl rfl rfl (fun a o e1 _ _ => e1) (fun a z => .inl z) (fun _ _ z => z) rfl (fun b _ z => hM b z) (fun a xs e1 => e1) fun a o u e1 => e1
  · have f : ∀ {k : Nat} {d' : PyData}, (ρ.set i (.sh d))[k]? = some (.own d') → ρ[k]? = some (.own d') := fun {k d'} q => by
      by_cases hk : i = k
      · subst hk
        rw [List.getElem?_set_self (slot_lt e)] at q
        cases q
      · rwa [List.getElem?_set_ne hk] at q
    exact R.uniq j k d1 d2 b (f e1) (f e2) e3 e4
  · exact R.hnd.mv (fun a o e1 _ _ => e1) (fun a o e1 _ _ => e1) (fun b _ z => z.imp id (hM b)) (fun a xs e1 => e1) fun a o u e1 => e1
end

/-! ### ends -/
/-- what comes of evaluating: k is wanted behind it -/
def Out {α : Type} (G : Gh) (W : WX) (σ : L2.St) (hd : Option Addr) (ρ : Env) (H : Hp) (r : Rs α) (k : α → Env → Hand → Hp → Prop) : Prop := match r with
  | .ok a ρ' h' => ∀ H', Rel G hd ρ' h' σ H' → Stp (Mo ρ σ hd) H (Mo ρ' σ hd) H' → k a ρ' h' H'
  | .exc c ρ' h' => ∀ H', Rel G hd ρ' h' σ H' → W (.ref (G.ca c)) none σ H'
  | .fail => False
/-- a value and whether it is new -/
def Res (G : Gh) (hd : Option Addr) (ρ : Env) (h : Hand) (σ : L2.St) (H : Hp) (v : V) (p : Bool × PyData) : Prop :=
  Rp G.K H (G.Z ρ σ hd) v p.2 ∧ (p.1 = true → ∃ a, v = .ref a ∧ (G.M0 a ∨ G.H0 a = none) ∧ ¬ G.Z ρ σ hd a ∧ Root G.K H ((G.plus a).Z ρ σ hd) a p.2 ∧ Rel (G.plus a) hd ρ h σ H)
theorem Out.from {α : Type} {G : Gh} {W : WX} {σ : L2.St} {hd : Option Addr} {ρ ρ1 : Env} {H H1 : Hp} {r : Rs α} {k : α → Env → Hand → Hp → Prop} (o : Out G W σ hd ρ H r k) (st : Stp (Mo ρ σ hd) H (Mo ρ1 σ hd) H1) : Out G W σ hd ρ1 H1 r k := by
  cases r with
  | ok a ρ' h' => exact fun H' R s => o H' R (st.trans s)
  | exc c ρ' h' => exact o
  | fail => exact o
def tE (S : Sx) (W : WX) (m : M (Bool × PyData)) : TE := fun σ H Q => ∃ G, G.S = S ∧ ∃ hd ρ h, Rel G hd ρ h σ H ∧ Out G W σ hd ρ H (m ρ h) fun p ρ' h' H' => ∀ v, Res G hd ρ' h' σ H' v p → Q v H'
/-- an operand -/
def PreOk (G : Gh) (ρ : Env) (σ : L2.St) (hd : Option Addr) (H : Hp) (v : V) : Pre → Prop
  | .val d => Rp G.K H (G.Z ρ σ hd) v d
  | .sl i => σ[i]? = some (some v)
def tP (S : Sx) (W : WX) (m : M Pre) : TE := fun σ H Q => ∃ G, G.S = S ∧ ∃ hd ρ h, Rel G hd ρ h σ H ∧ Out G W σ hd ρ H (m ρ h) fun p ρ' h' H' => ∀ v, PreOk G ρ' σ hd H' v p → Q v H'
/-- a test -/
def tT (S : Sx) (W : WX) (m : M Bool) : TT := fun σ H Q => ∃ G, G.S = S ∧ ∃ hd ρ h, Rel G hd ρ h σ H ∧ Out G W σ hd ρ H (m ρ h) fun p ρ' h' H' => Q p H'
section
variable {G : Gh} {W : WX} {hd : Option Addr} {ρ : Env} {h : Hand} {σ : L2.St} {H : Hp} {α : Type}
theorem Rp.stp {K : PySem.W.Frag} {Zc : Addr → Prop} {M M' : Addr → Prop} {H H' : Hp} (st : Stp M H M' H') {v : V} {d : PyData} (r : Rp K H (fun a => Zc a ∨ M a) v d) : Rp K H' (fun a => Zc a ∨ M' a) v d :=
  r.mv (fun a o e n t => st.keep a o e (fun z => n (.inr z)) t) (fun a na z => z.imp id fun m => (st.own a m).elim id fun e => absurd e na) st.tups st.frzs
theorem RpA.stp {K : PySem.W.Frag} {Zc : Addr → Prop} {M M' : Addr → Prop} {H H' : Hp} (st : Stp M H M' H') {v : List V} {d : List PyData} (r : RpA K H (fun a => Zc a ∨ M a) v d) : RpA K H' (fun a => Zc a ∨ M' a) v d :=
  r.mv (fun a o e n t => st.keep a o e (fun z => n (.inr z)) t) (fun a na z => z.imp id fun m => (st.own a m).elim id fun e => absurd e na) st.tups st.frzs
theorem RpK.stp {K : PySem.W.Frag} {Zc : Addr → Prop} {M M' : Addr → Prop} {H H' : Hp} (st : Stp M H M' H') {v : List (Key × V)} {d : List (PyData × PyData)} (r : RpK K H (fun a => Zc a ∨ M a) v d) : RpK K H' (fun a => Zc a ∨ M' a) v d :=
  r.mv (fun a o e n t => st.keep a o e (fun z => n (.inr z)) t) (fun a na z => z.imp id fun m => (st.own a m).elim id fun e => absurd e na) st.tups st.frzs
theorem PreOk.stp {ρ' : Env} {H' : Hp} {v : V} {p : Pre} (x : PreOk G ρ σ hd H v p) (st : Stp (Mo ρ σ hd) H (Mo ρ' σ hd) H') : PreOk G ρ' σ hd H' v p := by
  cases p with
  | val d => exact Rp.stp st x
  | sl i => exact x
/-- one after the other -/
theorem seqE {m : M (Bool × PyData)} {f : Bool × PyData → Env → Hand → Rs α} {k : α → Env → Hand → Hp → Prop} (R : Rel G hd ρ h σ H) (o : Out G W σ hd ρ H ((m ρ h).bind f) k) {Q : VK}
    (hq : ∀ p ρ1 h1 v H1, m ρ h = .ok p ρ1 h1 → Rel G hd ρ1 h1 σ H1 → Stp (Mo ρ σ hd) H (Mo ρ1 σ hd) H1 → Res G hd ρ1 h1 σ H1 v p → Out G W σ hd ρ1 H1 (f p ρ1 h1) k → Q v H1) : tE G.S W m σ H Q := by
  refine ⟨G, rfl, hd, ρ, h, R, ?_⟩
  cases e : m ρ h with
  | ok p ρ1 h1 =>
    rw [e] at o
    exact fun H1 R1 s1 v r => hq p ρ1 h1 v H1 e R1 s1 r (Out.from (show Out G W σ hd ρ H (f p ρ1 h1) k from o) s1)
  | exc c ρ1 h1 => rw [e] at o; exact o
  | fail => rw [e] at o; exact o
theorem seqP {m : M Pre} {f : Pre → Env → Hand → Rs α} {k : α → Env → Hand → Hp → Prop} (R : Rel G hd ρ h σ H) (o : Out G W σ hd ρ H ((m ρ h).bind f) k) {Q : VK}
    (hq : ∀ p ρ1 h1 v H1, m ρ h = .ok p ρ1 h1 → Rel G hd ρ1 h1 σ H1 → Stp (Mo ρ σ hd) H (Mo ρ1 σ hd) H1 → PreOk G ρ1 σ hd H1 v p → Out G W σ hd ρ1 H1 (f p ρ1 h1) k → Q v H1) : tP G.S W m σ H Q := by
  refine ⟨G, rfl, hd, ρ, h, R, ?_⟩
  cases e : m ρ h with
  | ok p ρ1 h1 =>
    rw [e] at o
    exact fun H1 R1 s1 v r => hq p ρ1 h1 v H1 e R1 s1 r (Out.from (show Out G W σ hd ρ H (f p ρ1 h1) k from o) s1)
  | exc c ρ1 h1 => rw [e] at o; exact o
  | fail => rw [e] at o; exact o
theorem seqT {m : M Bool} {f : Bool → Env → Hand → Rs α} {k : α → Env → Hand → Hp → Prop} (R : Rel G hd ρ h σ H) (o : Out G W σ hd ρ H ((m ρ h).bind f) k) {Q : Bool → Hp → Prop}
    (hq : ∀ p ρ1 h1 H1, m ρ h = .ok p ρ1 h1 → Rel G hd ρ1 h1 σ H1 → Stp (Mo ρ σ hd) H (Mo ρ1 σ hd) H1 → Out G W σ hd ρ1 H1 (f p ρ1 h1) k → Q p H1) : tT G.S W m σ H Q := by
  refine ⟨G, rfl, hd, ρ, h, R, ?_⟩
  cases e : m ρ h with
  | ok p ρ1 h1 =>
    rw [e] at o
    exact fun H1 R1 s1 => hq p ρ1 h1 H1 e R1 s1 (Out.from (show Out G W σ hd ρ H (f p ρ1 h1) k from o) s1)
  | exc c ρ1 h1 => rw [e] at o; exact o
  | fail => rw [e] at o; exact o
theorem Out.ofO {β : Type} {o : Option α} {f : α → Env → Hand → Rs β} {k : β → Env → Hand → Hp → Prop} (x : Out G W σ hd ρ H ((PyD.ofO o ρ h).bind f) k) : ∃ a, o = some a ∧ Out G W σ hd ρ H (f a ρ h) k := by
  cases o with
  | none => exact x.elim
  | some a => exact ⟨a, rfl, x⟩
theorem Out.ofO1 {o : Option α} {k : α → Env → Hand → Hp → Prop} (x : Out G W σ hd ρ H (PyD.ofO o ρ h) k) : ∃ a, o = some a ∧ Out G W σ hd ρ H (.ok a ρ h) k := by
  cases o with
  | none => exact x.elim
  | some a => exact ⟨a, rfl, x⟩
theorem PE.imp {X : Cx} {e : Expr} {t t' : TE} (p : PE X e t) (h : ∀ σ H Q, t' σ H Q → t σ H Q) : PE X e t' := ⟨fun pins s σ H Q I q => p.run pins s σ H Q I (h σ H Q q)⟩
theorem PT.imp {X : Cx} {e : Expr} {t t' : TT} (p : PT X e t) (h : ∀ σ H Q, t' σ H Q → t σ H Q) : PT X e t' := ⟨fun pins s σ H Q I q => p.run pins s σ H Q I (h σ H Q q)⟩
theorem PW.imp {X : Cx} {e : Expr} {t t' : TT} (p : PW X e t) (h : ∀ σ H Q, t' σ H Q → t σ H Q) : PW X e t' := ⟨fun w pins s σ H Q I q => p.run w pins s σ H Q I (h σ H Q q)⟩
theorem PA.imp {X : Cx} {e : List Expr} {t t' : TA} (p : PA X e t) (h : ∀ σ H Q, t' σ H Q → t σ H Q) : PA X e t' := ⟨fun pos pins s σ H Q I q => p.run pos pins s σ H Q I (h σ H Q q)⟩
theorem PS.imp {X : Cx} {e : Stmt} {t t' : TS} (p : PS X e t) (h : ∀ D σ H, t' D σ H → t D σ H) : PS X e t' := ⟨fun pins s σ H D I q => p.run pins s σ H D I (h D σ H q)⟩
theorem PSs.imp {X : Cx} {e : List Stmt} {t t' : TS} (p : PSs X e t) (h : ∀ D σ H, t' D σ H → t D σ H) : PSs X e t' := ⟨fun pins s σ H D I q => p.run pins s σ H D I (h D σ H q)⟩
/-- a plain value, nothing new -/
theorem Res.plain {v : V} {d : PyData} (r : Rp G.K H (G.Z ρ σ hd) v d) : Res G hd ρ h σ H v (false, d) := ⟨r, fun z => by cases z⟩
theorem Res.any {v : V} {p : Bool × PyData} (r : Res G hd ρ h σ H v p) : Res G hd ρ h σ H v (false, p.2) := ⟨r.1, fun z => by cases z⟩
theorem Mo.dom (R : Rel G hd ρ h σ H) {a : Addr} (m : Mo ρ σ hd a) : H a ≠ none := by
  rcases m with m | ⟨i, d, e1, e2⟩
  · have hh := R.hnd
    cases h with
    | none => rw [show hd = none from hh] at m; cases m
    | some ds =>
      obtain ⟨b, e3, xs, e4, _⟩ := hh
      rw [m] at e3; cases e3
      rw [e4]; simp
  · obtain ⟨b, e3, r, _⟩ := R.slot i _ e1
    rw [e2] at e3; cases e3
    exact r.dom
theorem Rel.fresh (R : Rel G hd ρ h σ H) {p : Addr} (n : H p = none) : ¬ G.Z ρ σ hd p := fun z => z.elim (fun z => R.zdom p z n) fun z => Mo.dom R z n
/-- what stands at an operand -/
inductive Bo (K : PySem.W.Frag) (H : Hp) (Z : Addr → Prop) : V → PyData → Prop
  | rp {v : V} {d : PyData} : Rp K H Z v d → Bo K H Z v d
  | rt {a : Addr} {d : PyData} : Root K H Z a d → Bo K H Z (.ref a) d
theorem Rel.bo (R : Rel G hd ρ h σ H) {v : V} {p : Pre} {d : PyData} (x : PreOk G ρ σ hd H v p) (e : getP ρ h p = some d) : Bo G.K H (G.Z ρ σ hd) v d := by
  cases p with
  | val d' => simp only [getP, Option.some.injEq] at e; subst e; exact .rp x
  | sl i =>
    simp only [getP] at e
    have x' : σ[i]? = some (some v) := x
    cases q : ρ[i]? with
    | none => rw [q] at e; cases e
    | some s =>
      rw [q] at e
      have so := R.slot i s q
      cases s <;> simp only [reduceCtorEq, Option.some.injEq] at e
      · subst e
        obtain ⟨v', e1, r⟩ := so
        rw [x'] at e1; cases e1
        exact .rp r
      · subst e
        obtain ⟨a, e1, r, _⟩ := so
        rw [x'] at e1; cases e1
        exact .rt r
      · subst e
        obtain ⟨a, e1, r, _⟩ := so
        rw [x'] at e1; cases e1
        exact .rt r
      · obtain ⟨a, e1, e2⟩ := so
        rw [x'] at e2; cases e2
        have hh := R.hnd
        cases h with
        | none => cases e
        | some ds =>
          cases e
          obtain ⟨b, e3, xs, e4, l, q4⟩ := hh
          rw [e1] at e3; cases e3
          exact .rt (.lst e4 l q4)
end
end PyD

/-! PyE: the operations, over the layer. -/
namespace PyD
open PySem L2 LamX

/-- what an operation hands back -/
def NewR (K : PySem.W.Frag) (H H' : Hp) (Z : Addr → Prop) (v : V) (p : Bool × PyData) : Prop :=
  (p.1 = false ∧ Rp K H' Z v p.2) ∨ (p.1 = true ∧ ∃ a, v = .ref a ∧ H a = none ∧ Root K H' (fun b => Z b ∨ b = a) a p.2)
section
variable {K : PySem.W.Frag} {H H' : Hp} {Z : Addr → Prop}
theorem NewR.pl {v : V} {d : PyData} (r : Rp K H' Z v d) : NewR K H H' Z v (false, d) := .inl ⟨rfl, r⟩
/-- a new list -/
theorem NewR.lst {p : Addr} {xs : List V} {ds : List PyData} (n : H p = none) (l : xs.length ≤ sizeLine) (q : RpA K H Z xs ds) : NewR K H (upd H p (.lst xs)) Z (.ref p) (true, .list ds) :=
  .inr ⟨rfl, p, rfl, n, .lst upd_same l ((q.also n).same (same_upd n))⟩
/-- a new tuple -/
theorem NewR.tup {p : Addr} {xs : List V} {ds : List PyData} (n : H p = none) (l : xs.length ≤ sizeLine) (q : RpA K H Z xs ds) : NewR K H (upd H p (.tup xs)) Z (.ref p) (false, .tuple ds) :=
  .inl ⟨rfl, .tup (.inl (.inl upd_same)) l (q.same (same_upd n))⟩
theorem Res.ofNew {G : Gh} {hd : Option Addr} {ρ : Env} {h : Hand} {σ : L2.St} {v : V} {p : Bool × PyData} (R : Rel G hd ρ h σ H) (e : Same H H') (n : NewR G.K H H' (G.Z ρ σ hd) v p) : Res G hd ρ h σ H' v p := by
  rcases n with ⟨e1, r⟩ | ⟨e1, a, rfl, na, r⟩
  · exact ⟨r, fun z => by rw [e1] at z; cases z⟩
  · have nz := R.fresh na
    have r2 : Root G.K H' ((G.plus a).Z ρ σ hd) a p.2 := r.mv (fun _ e _ _ => e) (fun _ _ e _ _ => e) (fun b _ z => by
      rcases z with (z | z) | z
      · exact .inl (.inl z)
      · exact .inr z
      · exact .inl (.inr z)) (fun _ _ e => e) fun _ _ _ e => e
    have r3 : Rp G.K H' (G.Z ρ σ hd) (.ref a) p.2 := (r.mv (Z' := G.Z ρ σ hd) (fun _ e _ _ => e) (fun _ _ e _ _ => e) (fun b _ z => .inl z) (fun _ _ e => e) fun _ _ _ e => e).rp nz
    exact ⟨r3, fun _ => ⟨a, rfl, .inr (R.stp.there a na), nz, r2, R.also na e r.dom⟩⟩
/-! what an operand is -/
theorem Bo.int {v : V} {i : Int} (b : Bo K H Z v (.int i)) : v = .int i := by
  cases b with
  | rp r => cases r; rfl
  | rt r => cases r
theorem Bo.bl {v : V} {i : Bool} (b : Bo K H Z v (.bool i)) : v = .bl i := by
  cases b with
  | rp r => cases r; rfl
  | rt r => cases r
theorem Bo.str {v : V} {i : Str} (b : Bo K H Z v (.str i)) : v = .str i := by
  cases b with
  | rp r => cases r; rfl
  | rt r => cases r
theorem Bo.non {v : V} (b : Bo K H Z v .none) : v = .non := by
  cases b with
  | rp r => cases r; rfl
  | rt r => cases r
theorem Bo.list {v : V} {ds : List PyData} (b : Bo K H Z v (.list ds)) : ∃ a xs, v = .ref a ∧ H a = some (.lst xs) ∧ xs.length ≤ sizeLine ∧ RpA K H Z xs ds := by
  cases b with
  | rp r => cases r with | lst e _ l q => exact ⟨_, _, rfl, e, l, q⟩
  | rt r => cases r with | lst e l q => exact ⟨_, _, rfl, e, l, q⟩
theorem Bo.tuple {v : V} {ds : List PyData} (b : Bo K H Z v (.tuple ds)) : ∃ a xs, v = .ref a ∧ SqT K H a xs ∧ xs.length ≤ sizeLine ∧ RpA K H Z xs ds := by
  cases b with
  | rp r => cases r with | tup e l q => exact ⟨_, _, rfl, e, l, q⟩
  | rt r => cases r
theorem Bo.dict {v : V} {ds : List (PyData × PyData)} (b : Bo K H Z v (.dict ds)) : ∃ a xs, v = .ref a ∧ H a = some (.dK xs) ∧ RpK K H Z xs ds := by
  cases b with
  | rp r => cases r with | dic e _ q => exact ⟨_, _, rfl, e, q⟩
  | rt r => cases r with | dic e q => exact ⟨_, _, rfl, e, q⟩
theorem Rp.vint {v : V} {i : Int} (b : Rp K H Z v (.int i)) : v = .int i := by cases b; rfl
theorem Rp.vbl {v : V} {i : Bool} (b : Rp K H Z v (.bool i)) : v = .bl i := by cases b; rfl
/-! data that == can look at -/
mutual
theorem Rp.dp : ∀ {v : V} {d : PyData}, Rp K H Z v d → d.canLay0 = true → Dp K H v d
  | _, _, .non, _ => .non
  | _, _, .bl b, _ => .bl b
  | _, _, .int i, _ => .int i
  | _, _, .str x, _ => .str x
  | _, _, .lst r _ _ q, h => .lst (SqL.of r) (RpA.dp q (by simpa only [PyData.canLay0] using h))
  | _, _, .tup r _ q, h => .tup r (RpA.dp q (by simpa only [PyData.canLay0] using h))
  | _, _, .dic _ _ _, h => by simp [PyData.canLay0] at h
theorem RpA.dp : ∀ {v : List V} {d : List PyData}, RpA K H Z v d → PyData.canLayAll0 d = true → DpAll K H v d
  | _, _, .nil, _ => .nil
  | _, _, .cons a b, h => by
    simp only [PyData.canLayAll0, Bool.and_eq_true] at h
    exact .cons (Rp.dp a h.1) (RpA.dp b h.2)
end
theorem Bo.dp {v : V} {d : PyData} (b : Bo K H Z v d) (h : d.canLay0 = true) : Dp K H v d := by
  cases b with
  | rp r => exact r.dp h
  | rt r =>
    cases r with
    | lst e l q => exact .lst (SqL.of e) (RpA.dp q (by simpa only [PyData.canLay0] using h))
    | dic e q => simp [PyData.canLay0] at h
theorem shaped_lay {d : PyData} (h : SeqAt.shaped d = true) : d.canLay0 = true := by
  unfold SeqAt.shaped at h
  exact (Bool.and_eq_true_iff.mp h).1
theorem sz : big = sizeLine := by rw [sizeLine_eq]; rfl
end

section
variable {X : Cx}
theorem OpR.imp {f : Value → Value → Sem Value} {r r' : R2} (o : OpR X f r) (h : ∀ x y H Q, r' x y H Q → r x y H Q) : OpR X f r' := fun pins s σ H x y v u Q I rx ry q => o pins s σ H x y v u Q I rx ry (h _ _ _ _ q)
theorem OpR.cases {f : Value → Value → Sem Value} {r' : R2} (o : ∀ x y H Q, r' x y H Q → ∃ r, OpR X f r ∧ r x y H Q) : OpR X f r' := fun pins s σ H x y v u Q I rx ry q => by
  obtain ⟨r, h1, h2⟩ := o _ _ _ _ q
  exact h1 pins s σ H x y v u Q I rx ry h2
theorem CallR.cases {f : Value} {r' : List V → Hp → VK → Prop} (o : ∀ x H Q, r' x H Q → ∃ r, CallR X f r ∧ r x H Q) : CallR X f r' := fun pins s σ H x v Q I rx q => by
  obtain ⟨r, h1, h2⟩ := o _ _ _ q
  exact h1 pins s σ H x v Q I rx h2
def opB : Bop → Operator
  | .add => .Add
  | .sub => .Sub
  | .mul => .Mult
  | .fdiv => .FloorDiv
  | .mod => .Mod
  | .pow => .Pow
def rBop (K : PySem.W.Frag) (o : Bop) : R2 := fun x y H Q => ∃ Z d e z, Bo K H Z x d ∧ Bo K H Z y e ∧ bop o d e = some z ∧ ∀ v H', Same H H' → NewR K H H' Z v z → Q v H'
theorem cutV_cut (xs : List V) (lo hi : Option Int) : cutV xs lo hi = cut xs lo hi := rfl
theorem RpA.cut {K : PySem.W.Frag} {H : Hp} {Z : Addr → Prop} {xs : List V} {ds : List PyData} (q : RpA K H Z xs ds) (lo hi : Option Int) : RpA K H Z (cut xs lo hi) (cut ds lo hi) := by
  unfold PyD.cut
  rw [q.len]
  exact (q.drop _).take _
theorem RpA.repl {K : PySem.W.Frag} {H : Hp} {Z : Addr → Prop} {xs : List V} {ds : List PyData} (q : RpA K H Z xs ds) : ∀ k : Nat, RpA K H Z (List.replicate k xs).flatten (List.replicate k ds).flatten
  | 0 => .nil
  | k + 1 => by
    rw [List.replicate_succ, List.flatten_cons, List.replicate_succ, List.flatten_cons]
    exact q.app (q.repl k)
theorem len_repl {α : Type} (xs : List α) : ∀ k : Nat, (List.replicate k xs).flatten.length = xs.length * k
  | 0 => by simp
  | k + 1 => by rw [List.replicate_succ, List.flatten_cons, List.length_append, len_repl xs k, Nat.mul_succ, Nat.add_comm]
theorem op_bop (o : Bop) : OpR X (binaryOp (opB o)) (rBop X.K o) := by
  refine OpR.cases fun x y H Q ⟨Z, d, e, z, bx, by_, hz, q⟩ => ?_
  unfold bop at hz
  split at hz <;> first | cases hz; done | skip
  · cases hz
    rw [bx.int, by_.int]
    exact ⟨_, op_add, _, _, rfl, rfl, q _ _ (fun _ _ e => e) (.pl (.int _))⟩
  · cases hz
    rw [bx.int, by_.int]
    exact ⟨_, op_sub, _, _, rfl, rfl, q _ _ (fun _ _ e => e) (.pl (.int _))⟩
  · split at hz
    · rename_i hm
      cases hz
      rw [bx.int, by_.int]
      refine ⟨_, op_mul, _, _, rfl, rfl, ?_, q _ _ (fun _ _ e => e) (.pl (.int _))⟩
      unfold mulOk at hm
      rcases Bool.or_eq_true_iff.mp hm with h | h
      · have := of_decide_eq_true h
        exact .inl (by omega)
      · have := of_decide_eq_true h
        exact .inr (by omega)
    · cases hz
  · split at hz
    · rename_i hm
      cases hz
      rw [bx.int, by_.int]
      exact ⟨_, op_fdivW, _, _, rfl, rfl, wide_div (b := 200) hm.1 (by have := hm.1; have := hm.2; omega) (by omega) (by omega), q _ _ (fun _ _ e => e) (.pl (.int _))⟩
    · cases hz
  · split at hz
    · rename_i hm
      cases hz
      rw [bx.int, by_.int]
      exact ⟨_, op_mod, _, _, rfl, rfl, hm, q _ _ (fun _ _ e => e) (.pl (.int _))⟩
    · cases hz
  · split at hz
    · rename_i hm
      cases hz
      rw [bx.int, by_.int]
      exact ⟨_, op_pow, _, _, rfl, rfl, hm, q _ _ (fun _ _ e => e) (.pl (.int _))⟩
    · cases hz
  · split at hz
    · rename_i hm
      cases hz
      rw [bx.str, by_.str]
      exact ⟨_, op_add_str, _, _, rfl, rfl, by rw [← sz]; exact hm, q _ _ (fun _ _ e => e) (.pl (.str _))⟩
    · cases hz
  · split at hz
    · rename_i hm
      cases hz
      obtain ⟨a, xs, rfl, h1, l1, q1⟩ := bx.list
      obtain ⟨b, ys, rfl, h2, l2, q2⟩ := by_.list
      have hl : xs.length + ys.length ≤ sizeLine := by rw [q1.len, q2.len, ← sz]; exact hm
      refine ⟨_, op_cat, _, _, _, _, rfl, rfl, h1, h2, hl, fun p n => q _ _ (same_upd n) (NewR.lst n (by rw [List.length_append]; exact hl) (q1.app q2))⟩
    · cases hz
  · split at hz
    · rename_i hm
      cases hz
      obtain ⟨a, xs, rfl, h1, l1, q1⟩ := bx.tuple
      obtain ⟨b, ys, rfl, h2, l2, q2⟩ := by_.tuple
      have hl : xs.length + ys.length ≤ sizeLine := by rw [q1.len, q2.len, ← sz]; exact hm
      refine ⟨_, op_catA, _, _, _, _, rfl, rfl, h1, h2, hl, fun e => ?_, fun _ e => ?_, fun _ _ p n => q _ _ (same_upd n) (NewR.tup n (by rw [List.length_append]; exact hl) (q1.app q2))⟩
      · subst e
        cases q1
        exact q _ _ (fun _ _ e => e) (.pl (.tup h2 l2 q2))
      · subst e
        cases q2
        rw [List.append_nil] at q
        exact q _ _ (fun _ _ e => e) (.pl (.tup h1 l1 q1))
    · cases hz
  · split at hz
    · rename_i hm
      cases hz
      obtain ⟨a, xs, rfl, h1, l1, q1⟩ := bx.list
      rw [by_.int]
      obtain ⟨m1, m2, m3⟩ := hm
      refine ⟨_, op_rep, _, _, _, rfl, rfl, h1, by omega, by omega, by rw [q1.len, ← sz]; exact m3, fun p n => q _ _ (same_upd n) (NewR.lst n (by rw [len_repl, q1.len, ← sz]; exact m3) (q1.repl _))⟩
    · cases hz
  · split at hz
    · rename_i hm
      cases hz
      obtain ⟨a, xs, rfl, h1, l1, q1⟩ := bx.tuple
      rw [by_.int]
      obtain ⟨m0, m1, m2, m3⟩ := hm
      have hne : xs ≠ [] := fun e => by subst e; cases q1; exact Nat.lt_irrefl _ m0
      refine ⟨_, op_repT, _, _, _, rfl, rfl, h1, hne, m1, m2, by rw [q1.len]; exact m3, fun p n => q _ _ (same_upd n) (NewR.tup n ?_ (q1.repl _))⟩
      rw [len_repl, q1.len, sizeLine_eq]
      exact Nat.le_trans (Nat.mul_le_mul m3 (show _ ≤ 1000 by omega)) (by decide)
    · cases hz
end
end PyD

/-! PyE2: comparisons, places, slices, isinstance. -/
namespace PyD
open PySem L2 LamX
section
variable {X : Cx}
def opC : Cop → CmpOp
  | .eq => .Eq
  | .ne => .NotEq
  | .lt => .Lt
  | .le => .LtE
  | .gt => .Gt
  | .ge => .GtE
  | .inn => .In
  | .nin => .NotIn
def rInT (K : PySem.W.Frag) : R2 := fun x y H Q => ∃ d ds, Dp K H x d ∧ Dp K H y (.tuple ds) ∧ SeqAt.shaped d = true ∧ SeqAt.shaped (.tuple ds) = true ∧ Q (.bl (ds.any fun z => PyData.eqv z d)) H
def rNotInT (K : PySem.W.Frag) : R2 := fun x y H Q => ∃ d ds, Dp K H x d ∧ Dp K H y (.tuple ds) ∧ SeqAt.shaped d = true ∧ SeqAt.shaped (.tuple ds) = true ∧ Q (.bl (!ds.any fun z => PyData.eqv z d)) H
theorem room_in {A : Around} {d : PyData} {ds : List PyData} (sd : SeqAt.shaped d = true) (hu : A.units + 65 < cLine) : A.units + 1 + min (PyData.depthAll ds) d.depth < cLine := by
  unfold SeqAt.shaped at sd
  have := of_decide_eq_true (Bool.and_eq_true_iff.mp sd).2
  have h2 : min (PyData.depthAll ds) d.depth ≤ d.depth := Nat.min_le_right _ _
  omega
theorem lay_tup {ds : List PyData} (h : SeqAt.shaped (.tuple ds) = true) : PyData.canLayAll0 ds = true := by
  have := shaped_lay h
  simpa only [PyData.canLay0] using this
theorem lay_lst {ds : List PyData} (h : SeqAt.shaped (.list ds) = true) : PyData.canLayAll0 ds = true := by
  have := shaped_lay h
  simpa only [PyData.canLay0] using this
theorem op_inT (hu : X.A.units + 65 < cLine) : OpR X (compareOp .In) (rInT X.K) := by
  intro pins s σ H x y v u Q I rx ry h
  obtain ⟨d, ds, hd, he, sd, se, q⟩ := h
  obtain ⟨as, r1⟩ := Dp.reads I d x v hd rx
  obtain ⟨bs, r2⟩ := Dp.reads I (.tuple ds) y u he ry
  exact SeqAt.in_tuple_reads r2 r1 (lay_tup se) (shaped_lay sd) (room_in sd hu) ⟨.bl _, H, I, rfl, q⟩
theorem op_notInT (hu : X.A.units + 65 < cLine) : OpR X (compareOp .NotIn) (rNotInT X.K) := by
  intro pins s σ H x y v u Q I rx ry h
  obtain ⟨d, ds, hd, he, sd, se, q⟩ := h
  obtain ⟨as, r1⟩ := Dp.reads I d x v hd rx
  obtain ⟨bs, r2⟩ := Dp.reads I (.tuple ds) y u he ry
  exact SeqAt.notIn_tuple_reads r2 r1 (lay_tup se) (shaped_lay sd) (room_in sd hu) ⟨.bl _, H, I, rfl, q⟩
theorem op_inL (hu : X.A.units + 65 < cLine) : OpR X (compareOp .In) (rInD X.K) := by
  intro pins s σ H x y v u Q I rx ry h
  obtain ⟨d, ds, hd, he, sd, se, q⟩ := h
  obtain ⟨as, r1⟩ := Dp.reads I d x v hd rx
  obtain ⟨bs, r2⟩ := Dp.reads I (.list ds) y u he ry
  exact SeqAt.in_list_reads r2 r1 (lay_lst se) (shaped_lay sd) (room_in sd hu) ⟨.bl _, H, I, rfl, q⟩
theorem op_notInL (hu : X.A.units + 65 < cLine) : OpR X (compareOp .NotIn) (rNotInD X.K) := by
  intro pins s σ H x y v u Q I rx ry h
  obtain ⟨d, ds, hd, he, sd, se, q⟩ := h
  obtain ⟨as, r1⟩ := Dp.reads I d x v hd rx
  obtain ⟨bs, r2⟩ := Dp.reads I (.list ds) y u he ry
  exact SeqAt.notIn_list_reads r2 r1 (lay_lst se) (shaped_lay sd) (room_in sd hu) ⟨.bl _, H, I, rfl, q⟩
def rCop (K : PySem.W.Frag) (o : Cop) : R2 := fun x y H Q => ∃ Z d e z, Bo K H Z x d ∧ Bo K H Z y e ∧ cop o d e = some z ∧ Q (.bl z) H
theorem op_inK (hu : X.A.units + 1 < cLine) : OpR X (compareOp .In) (fun x y H Q => ∃ a kvs k, x = kV k ∧ y = .ref a ∧ H a = some (.dK kvs) ∧ Q (.bl (valV kvs k).isSome) H) := by
  intro pins s σ H x y v u Q I rx ry h
  obtain ⟨a, kvs, k, rfl, rfl, e, q⟩ := h
  cases ry
  exact d_in hu I (.k e) rx fun s' I' => ⟨.bl _, H, I', rfl, q⟩
theorem op_ninK (hu : X.A.units + 1 < cLine) : OpR X (compareOp .NotIn) (fun x y H Q => ∃ a kvs k, x = kV k ∧ y = .ref a ∧ H a = some (.dK kvs) ∧ Q (.bl (!(valV kvs k).isSome)) H) := by
  intro pins s σ H x y v u Q I rx ry h
  obtain ⟨a, kvs, k, rfl, rfl, e, q⟩ := h
  cases ry
  exact d_notIn hu I (.k e) rx fun s' I' => ⟨.bl _, H, I', rfl, q⟩
theorem op_cop (o : Cop) (hu : X.A.units + 65 < cLine) : OpR X (compareOp (opC o)) (rCop X.K o) := by
  refine OpR.cases fun x y H Q ⟨Z, d, e, z, bx, by_, hz, q⟩ => ?_
  unfold cop at hz
  split at hz <;> first | cases hz; done | skip
  · split at hz
    · rename_i hm
      cases hz
      obtain ⟨h1, h2⟩ := Bool.and_eq_true_iff.mp hm
      exact ⟨_, op_eqD (by omega), _, _, bx.dp (shaped_lay h1), by_.dp (shaped_lay h2), h1, h2, q⟩
    · cases hz
  · split at hz
    · rename_i hm
      cases hz
      obtain ⟨h1, h2⟩ := Bool.and_eq_true_iff.mp hm
      exact ⟨_, op_neD (by omega), _, _, bx.dp (shaped_lay h1), by_.dp (shaped_lay h2), h1, h2, q⟩
    · cases hz
  · cases hz; rw [bx.int, by_.int]; exact ⟨_, op_lt, _, _, rfl, rfl, q⟩
  · cases hz; rw [bx.int, by_.int]; exact ⟨_, op_le, _, _, rfl, rfl, q⟩
  · cases hz; rw [bx.int, by_.int]; exact ⟨_, op_gt, _, _, rfl, rfl, q⟩
  · cases hz; rw [bx.int, by_.int]; exact ⟨_, op_ge, _, _, rfl, rfl, q⟩
  · split at hz
    · rename_i hm
      cases hz
      obtain ⟨h1, h2⟩ := Bool.and_eq_true_iff.mp hm
      exact ⟨_, op_inL hu, _, _, bx.dp (shaped_lay h1), by_.dp (shaped_lay h2), h1, h2, q⟩
    · cases hz
  · split at hz
    · rename_i hm
      cases hz
      obtain ⟨h1, h2⟩ := Bool.and_eq_true_iff.mp hm
      exact ⟨_, op_inT hu, _, _, bx.dp (shaped_lay h1), by_.dp (shaped_lay h2), h1, h2, q⟩
    · cases hz
  · cases hz; rw [bx.str, by_.str]; exact ⟨_, op_in_str, _, _, rfl, rfl, q⟩
  · split at hz
    · rename_i hm
      cases hz
      obtain ⟨h1, h2⟩ := Bool.and_eq_true_iff.mp hm
      exact ⟨_, op_notInL hu, _, _, bx.dp (shaped_lay h1), by_.dp (shaped_lay h2), h1, h2, q⟩
    · cases hz
  · split at hz
    · rename_i hm
      cases hz
      obtain ⟨h1, h2⟩ := Bool.and_eq_true_iff.mp hm
      exact ⟨_, op_notInT hu, _, _, bx.dp (shaped_lay h1), by_.dp (shaped_lay h2), h1, h2, q⟩
    · cases hz
  · cases hz; rw [bx.str, by_.str]; exact ⟨_, op_notin_str, _, _, rfl, rfl, q⟩
  · obtain ⟨k, hk, rfl⟩ := Option.map_eq_some_iff.mp hz
    obtain ⟨a, kvs, rfl, h1, q1⟩ := by_.dict
    have ex : x = kV k := by
      cases bx with
      | rp r => exact kV_of r hk
      | rt r => cases r <;> cases hk
    subst ex
    refine ⟨_, op_inK (by omega), a, kvs, k, rfl, rfl, h1, ?_⟩
    rcases q1.get k with ⟨g1, g2⟩ | ⟨y, e1, g1, g2, _⟩ <;> (rw [g2] at q; rw [g1]; exact q)
  · obtain ⟨k, hk, rfl⟩ := Option.map_eq_some_iff.mp hz
    obtain ⟨a, kvs, rfl, h1, q1⟩ := by_.dict
    have ex : x = kV k := by
      cases bx with
      | rp r => exact kV_of r hk
      | rt r => cases r <;> cases hk
    subst ex
    refine ⟨_, op_ninK (by omega), a, kvs, k, rfl, rfl, h1, ?_⟩
    rcases q1.get k with ⟨g1, g2⟩ | ⟨y, e1, g1, g2, _⟩ <;> (rw [g2] at q; rw [g1]; exact q)
/-! ### places -/
theorem atI_rp {K : PySem.W.Frag} {H : Hp} {Z : Addr → Prop} {xs : List V} {ds : List PyData} {i : Int} {d : PyData} (q : RpA K H Z xs ds) (h : atI ds i = some d) : ∃ v, atI xs i = some v ∧ Rp K H Z v d := by
  unfold atI at h ⊢
  rw [q.len]
  cases e : ixN ds.length i with
  | none => rw [e] at h; cases h
  | some j =>
    rw [e] at h
    exact q.get h
def rIdx (K : PySem.W.Frag) : R2 := fun x y H Q => ∃ Z d e z, Bo K H Z x d ∧ Rp K H Z y e ∧ PyD.idx d e = some z ∧ ∀ v, Rp K H Z v z → Q v H
theorem ix_idx : IxR X (rIdx X.K) := by
  have imp : ∀ x y H Q, rIdx X.K x y H Q → rIx X.K x y H Q := by
    rintro x y H Q ⟨Z, d, e, z, bx, by_, hz, q⟩
    unfold PyD.idx at hz
    split at hz <;> first | cases hz; done | skip
    · rw [by_.vint]
      obtain ⟨a, xs, rfl, h1, _, q1⟩ := bx.list
      obtain ⟨v, e1, r⟩ := atI_rp q1 hz
      exact .inl ⟨a, xs, _, v, rfl, rfl, SqL.of h1, e1, q v r⟩
    · rw [by_.vint]
      obtain ⟨a, xs, rfl, h1, _, q1⟩ := bx.tuple
      obtain ⟨v, e1, r⟩ := atI_rp q1 hz
      exact .inr (.inl ⟨a, xs, _, v, rfl, rfl, h1, e1, q v r⟩)
    · rw [by_.vint, bx.str]
      split at hz
      · rename_i hl
        obtain ⟨c, e1, rfl⟩ := Option.map_eq_some_iff.mp hz
        exact .inr (.inr ⟨_, _, c, rfl, rfl, by rw [← sz]; exact hl, e1, q _ (.str _)⟩)
      · cases hz
  exact fun e1 e2 pins s σ H x y v u Q I rx ry q hs => ix_seq e1 e2 pins s σ H x y v u Q I rx ry (imp _ _ _ _ q) hs
/-! ### slices -/
inductive Bs (K : PySem.W.Frag) (H : Hp) (Z : Addr → Prop) : V → PyData → Prop
  | bo {v : V} {d : PyData} : Bo K H Z v d → Bs K H Z v d
  | scr {a : Addr} {xs : List V} {ds : List PyData} : SqF K H a xs → xs.length ≤ sizeLine → RpA K H Z xs ds → Bs K H Z (.ref a) (.list ds)
theorem Bs.list {K : PySem.W.Frag} {H : Hp} {Z : Addr → Prop} {v : V} {ds : List PyData} (b : Bs K H Z v (.list ds)) : ∃ a xs, v = .ref a ∧ SqL K H a xs ∧ xs.length ≤ sizeLine ∧ RpA K H Z xs ds := by
  cases b with
  | bo b => obtain ⟨a, xs, e, h, l, q⟩ := b.list; exact ⟨a, xs, e, SqL.of h, l, q⟩
  | scr f l q => exact ⟨_, _, rfl, f.sql, l, q⟩
theorem Bs.tuple {K : PySem.W.Frag} {H : Hp} {Z : Addr → Prop} {v : V} {ds : List PyData} (b : Bs K H Z v (.tuple ds)) : ∃ a xs, v = .ref a ∧ SqT K H a xs ∧ xs.length ≤ sizeLine ∧ RpA K H Z xs ds := by
  cases b with
  | bo b => exact b.tuple
theorem Bs.str {K : PySem.W.Frag} {H : Hp} {Z : Addr → Prop} {v : V} {x : Str} (b : Bs K H Z v (.str x)) : v = .str x := by
  cases b with
  | bo b => exact b.str
def rSlc (K : PySem.W.Frag) : V → Option Int → Option Int → Hp → VK → Prop := fun x lo hi H Q => ∃ Z d z, Bs K H Z x d ∧ PyD.slc d lo hi = some z ∧ ∀ v H', Same H H' → NewR K H H' Z v z → Q v H'
theorem cut_len {α : Type} (xs : List α) (lo hi : Option Int) : (cut xs lo hi).length ≤ xs.length := by
  unfold cut
  rw [List.length_take, List.length_drop]
  omega
theorem cut_whole {α : Type} {xs : List α} {lo hi : Option Int} (h : _root_.HT.sIx xs.length 0 lo = 0 ∧ _root_.HT.sIx xs.length xs.length hi = xs.length) : cut xs lo hi = xs := by
  unfold cut
  rw [h.1, h.2]
  simp
theorem sl_slc : SlR X (rSlc X.K) := by
  have imp : ∀ x lo hi H Q, rSlc X.K x lo hi H Q → (rSlL X.K x lo hi H Q ∨ rSlA X.K x lo hi H Q) ∨ C8.rSlX x lo hi H Q := by
    rintro x lo hi H Q ⟨Z, d, z, bx, hz, q⟩
    unfold PyD.slc at hz
    split at hz <;> first | cases hz; done | skip
    · cases hz
      obtain ⟨a, xs, rfl, h1, l, q1⟩ := bx.list
      exact .inl (.inl ⟨a, xs, rfl, h1, fun p n => q _ _ (same_upd n) (NewR.lst n (Nat.le_trans (cut_len _ _ _) l) (q1.cut _ _))⟩)
    · cases hz
      obtain ⟨a, xs, rfl, h1, l, q1⟩ := bx.tuple
      refine .inl (.inr ⟨a, xs, rfl, h1, fun hw => ?_, fun _ p n => q _ _ (same_upd n) (NewR.tup n (Nat.le_trans (cut_len _ _ _) l) (q1.cut _ _))⟩)
      refine q _ _ (fun _ _ e => e) (.pl ?_)
      rw [q1.len] at hw
      rw [cut_whole hw]
      exact .tup h1 l q1
    · split at hz
      · rename_i hl
        cases hz
        rw [bx.str]
        exact .inr ⟨_, rfl, by rw [← sz]; exact hl, q _ _ (fun _ _ e => e) (.pl (.str _))⟩
      · cases hz
  intro pins s σ H x v vl vu lo hi sl Q I rx hs pl pu q
  exact ((sl_list.or sl_tupA).or C8.sl_txt) pins s σ H x v vl vu lo hi sl Q I rx hs pl pu (imp _ _ _ _ _ q)
/-! ### isinstance -/
def tyN : Ty → String
  | .int => "int"
  | .bool => "bool"
  | .str => "str"
  | .tuple => "tuple"
  | .list => "list"
  | .dict => "dict"
def dTy : PyData → String
  | .none => "NoneType"
  | .bool _ => "bool"
  | .int _ => "int"
  | .str _ => "str"
  | .list _ => "list"
  | .tuple _ => "tuple"
  | .dict _ => "dict"
theorem kit_isTy (t : Ty) (d : PyData) : kitB (dTy d) (tyN t) = some (isTy t d) := by
  cases t <;> cases d <;> (simp only [dTy, tyN, isTy]; decide +kernel)
def rIsa (K : PySem.W.Frag) (t : Ty) : List V → Hp → VK → Prop := fun xs H Q => ∃ Z x d, xs = [x, .ty (tyN t)] ∧ Bo K H Z x d ∧ Q (.bl (isTy t d)) H
theorem call_isa (t : Ty) : CallR X (.builtin "isinstance") (rIsa X.K t) := by
  intro pins s σ H xs us Q I r h
  obtain ⟨Z, x, d, rfl, bx, q⟩ := h
  obtain ⟨u, w', rfl, r1, r2⟩ := vals2 r
  obtain rfl : w' = Value.type (tyN t) := r2
  have ke : PySem.W.kitOne X.K (.type (dTy d)) (.type (tyN t)) = some (isTy t d) := kit_ty (kit_isTy t d)
  have fin : ∀ tk, EP X pins σ Q (.bool (isTy t d)) { s with toks := tk } := fun tk => ⟨.bl _, H, I.tok _, rfl, q⟩
  cases d with
  | none => rw [bx.non] at r1; exact isinst_ok I r1 .non ke fin
  | bool b => rw [bx.bl] at r1; exact isinst_ok I r1 (.bl _) ke fin
  | int i => rw [bx.int] at r1; exact isinst_ok I r1 (.int _) ke fin
  | str x => rw [bx.str] at r1; exact isinst_ok I r1 (.str _) ke fin
  | list ds =>
    obtain ⟨a, ys, rfl, h1, _, _⟩ := bx.list
    exact isinst_ok I r1 (.lst h1) ke fin
  | tuple ds =>
    obtain ⟨a, ys, rfl, h1, _, _⟩ := bx.tuple
    obtain rfl : u = Value.ref a := r1
    obtain ⟨its, _, ⟨o, e1, e2, _⟩, _⟩ := I.tuple h1
    exact PySem.W.kia_one PySem.W.kitx_tuple I.kIn ⟨o, e1, e2⟩ ke (fun z => nomatch z) fin
  | dict ds =>
    obtain ⟨a, ys, rfl, h1, _⟩ := bx.dict
    exact isinst_ok I r1 (.dK h1) ke fin
end
end PyD

/-! PyE3: built-in functions. -/
namespace PyD
open PySem L2 LamX
section
variable {K : PySem.W.Frag} {H : Hp} {Z : Addr → Prop}
inductive BoA (K : PySem.W.Frag) (H : Hp) (Z : Addr → Prop) : List V → List PyData → Prop
  | nil : BoA K H Z [] []
  | cons {v : V} {vs : List V} {d : PyData} {ds : List PyData} : Bo K H Z v d → BoA K H Z vs ds → BoA K H Z (v :: vs) (d :: ds)
theorem BoA.one {vs : List V} {d : PyData} (b : BoA K H Z vs [d]) : ∃ v, vs = [v] ∧ Bo K H Z v d := by
  cases b with
  | cons a b => cases b; exact ⟨_, rfl, a⟩
theorem BoA.two {vs : List V} {d e : PyData} (b : BoA K H Z vs [d, e]) : ∃ v w, vs = [v, w] ∧ Bo K H Z v d ∧ Bo K H Z w e := by
  cases b with
  | cons a b => cases b with
    | cons c b => cases b; exact ⟨_, _, rfl, a, c⟩
theorem BoA.zero {vs : List V} (b : BoA K H Z vs []) : vs = [] := by cases b; rfl
end
section
variable {X : Cx} {pins : List (Addr × Obj)} {σ : L2.St} {H : Hp} {s : Shared} {Z : Addr → Prop}
theorem all_shaped {ds : List PyData} (h : shapedB ds = true) : PyData.canLayAll0 ds = true ∧ PyData.depthAll ds ≤ 64 := by
  unfold shapedB at h
  induction ds with
  | nil => exact ⟨rfl, Nat.zero_le _⟩
  | cons d ds ih =>
    rw [List.all_cons, Bool.and_eq_true] at h
    obtain ⟨h1, h2⟩ := h
    obtain ⟨i1, i2⟩ := ih h2
    unfold SeqAt.shaped at h1
    obtain ⟨h3, h4⟩ := Bool.and_eq_true_iff.mp h1
    have h5 := of_decide_eq_true h4
    refine ⟨by simp only [PyData.canLayAll0, h3, i1, Bool.and_self], ?_⟩
    show max d.depth (PyData.depthAll ds) ≤ 64
    omega
theorem alike_of {ds : List PyData} (h : minOk ds = true) : PySem.W.AlikeAll ds ∧ PyData.canLayAll0 ds = true ∧ PyData.depthAll ds ≤ 64 := by
  unfold minOk at h
  rw [Bool.and_eq_true, Bool.and_eq_true] at h
  obtain ⟨⟨h1, h2⟩, h3⟩ := h
  refine ⟨⟨fun x hx y hy => ?_, fun x hx e => ?_⟩, all_shaped h3⟩
  · unfold alikeB at h1
    exact List.all_eq_true.mp (List.all_eq_true.mp h1 x hx) y hy
  · have := List.all_eq_true.mp h2 x hx
    subst e
    cases this
theorem RpA.mem : ∀ {v : List V} {d : List PyData} {us : List Value} {i : Nat} {u : Value}, RpA X.K H Z v d → Vals v us → us[i]? = some u → ∃ x e, v[i]? = some x ∧ d[i]? = some e ∧ RelV x u ∧ Rp X.K H Z x e
  | _, _, _, _, _, .nil, .nil, h => by simp at h
  | _, _, _, 0, _, .cons a _, .cons r _, h => by simp at h; subst h; exact ⟨_, _, rfl, rfl, r, a⟩
  | _, _, _, i + 1, _, .cons _ b, .cons _ t, h => by
    obtain ⟨x, e, h1, h2, h3, h4⟩ := RpA.mem (i := i) b t (by simpa using h)
    exact ⟨x, e, by simpa using h1, by simpa using h2, h3, h4⟩
theorem lay_get {ds : List PyData} (h : PyData.canLayAll0 ds = true) {i : Nat} {d : PyData} (e : ds[i]? = some d) : d.canLay0 = true := by
  induction ds generalizing i with
  | nil => simp at e
  | cons a r ih =>
    simp only [PyData.canLayAll0, Bool.and_eq_true] at h
    cases i with
    | zero => simp at e; subst e; exact h.1
    | succ i => exact ih h.2 (by simpa using e)
theorem minD_lay {ds : List PyData} : ∀ {x : PyData}, x.canLay0 = true → PyData.canLayAll0 ds = true → (PySem.W.minD x ds).canLay0 = true := by
  induction ds with
  | nil => intro x h _; exact h
  | cons a r ih =>
    intro x h h2
    simp only [PyData.canLayAll0, Bool.and_eq_true] at h2
    show (PySem.W.minD (if PySem.W.dataLt a x then a else x) r).canLay0 = true
    refine ih ?_ h2.2
    split
    · exact h2.1
    · exact h
theorem maxD_lay {ds : List PyData} : ∀ {x : PyData}, x.canLay0 = true → PyData.canLayAll0 ds = true → (PySem.W.maxD x ds).canLay0 = true := by
  induction ds with
  | nil => intro x h _; exact h
  | cons a r ih =>
    intro x h h2
    simp only [PyData.canLayAll0, Bool.and_eq_true] at h2
    show (PySem.W.maxD _ r).canLay0 = true
    refine ih ?_ h2.2
    dsimp only
    split
    · exact h2.1
    · exact h
theorem RpA.reads (I : Inv X pins σ H s) {v : List V} {ds : List PyData} {us : List Value} (q : RpA X.K H Z v ds) (r : Vals v us) (h : PyData.canLayAll0 ds = true) : ∃ as, ReadsAll s.heap us ds as := Dp.readsAll I ds v us (q.dp h) r
/-- an item that reads as d stands for d -/
theorem pick_rp (I : Inv X pins σ H s) {v : List V} {ds : List PyData} {us : List Value} (q : RpA X.K H Z v ds) (r : Vals v us) (h : PyData.canLayAll0 ds = true) {i : Nat} {u : Value} {d : PyData} {h' : Heap} {bs : List Addr} (e : us[i]? = some u) (rd : Reads h' u d bs)
    (hd : d.canLay0 = true) (k : ∀ b o, s.heap.get? b = some o → h'.get? b = some o) : ∃ x, RelV x u ∧ Rp X.K H Z x d := by
  obtain ⟨x, e1, h1, h2, h3, h4⟩ := RpA.mem q r e
  obtain ⟨as, r1⟩ := Dp.reads I e1 x u (h4.dp (lay_get h h2)) h3
  have r2 : Reads h' u e1 as := PyProof.Rows.Reads.keeps k r1
  have := (SeqAt.readOf_eq (lay_get h h2) r2).symm.trans (SeqAt.readOf_eq hd rd)
  subst this
  exact ⟨x, h3, h4⟩
theorem tupIs {h : Heap} {a : Addr} {its : Array Value} (x : PyProof.Rows.IsTup h a its) : h.IsTuple a its := by
  obtain ⟨o, h1, h2, n, h3⟩ := x
  exact ⟨o, h1, h2, n, h3⟩
theorem ints_get {ns : List Int} {us : List Value} {i : Nat} {v : Value} (r : Vals (ns.map V.int) us) (e : us[i]? = some v) : ∃ t, v = .int (ns.getD i 0) t := by
  induction ns generalizing us i with
  | nil => cases r; simp at e
  | cons a l ih =>
    cases r with
    | cons r1 r2 =>
      cases i with
      | zero => simp at e; subst e; exact r1
      | succ i => exact ih r2 (by simpa using e)
def rBfn (K : PySem.W.Frag) (b : Bif) : List V → Hp → VK → Prop := fun vs H Q => ∃ Z ds z, BoA K H Z vs ds ∧ bfn b ds = some z ∧ ∀ v H', Same H H' → NewR K H H' Z v z → Q v H'
def opF : Bif → Value
  | .len => .builtin "len"
  | .abs => .builtin "abs"
  | .int => .type "int"
  | .tuple => .type "tuple"
  | .list => .type "list"
  | .all => .builtin "all"
  | .any => .builtin "any"
  | .sum => .builtin "sum"
  | .min => .builtin "min"
  | .max => .builtin "max"
  | .sorted => .builtin "sorted"
  | .repr => .builtin "repr"
  | .str => .type "str"
def rMinL (K : PySem.W.Frag) : List V → Hp → VK → Prop := fun vs H Q => ∃ (Z : Addr → Prop) (a : Addr) (xs : List V) (d : PyData) (ds : List PyData), vs = [.ref a] ∧ (H a = some (.lst xs) ∨ SqT K H a xs) ∧ RpA K H Z xs (d :: ds) ∧ minOk (d :: ds) = true ∧ ∀ v, Rp K H Z v (PySem.W.minD d ds) → Q v H
def rMaxL (K : PySem.W.Frag) : List V → Hp → VK → Prop := fun vs H Q => ∃ (Z : Addr → Prop) (a : Addr) (xs : List V) (d : PyData) (ds : List PyData), vs = [.ref a] ∧ (H a = some (.lst xs) ∨ SqT K H a xs) ∧ RpA K H Z xs (d :: ds) ∧ minOk (d :: ds) = true ∧ ∀ v, Rp K H Z v (PySem.W.maxD d ds) → Q v H
theorem cr_minL (hc : X.calm = true) (hu : X.A.units + 70 < cLine) : CallR X (.builtin "min") (rMinL X.K) := by
  intro pins s σ H vs us Q I r h
  obtain ⟨Z, a, xs, d, ds, rfl, hs, q1, hm, q⟩ := h
  obtain ⟨al, lay, dep⟩ := alike_of hm
  rw [Vals.ref1 r]
  have lay' : (PySem.W.minD d ds).canLay0 = true := by
    simp only [PyData.canLayAll0, Bool.and_eq_true] at lay
    exact minD_lay lay.1 lay.2
  rcases hs with hs | hs
  · obtain ⟨its, rv, hl, _⟩ := I.list (SqL.of hs)
    obtain ⟨as, rd⟩ := RpA.reads I q1 rv lay
    refine PySem.W.min_list_data (I.ok.hd hc) hl.isList (by simpa using rd) al (by omega) fun i v h' tk bs e1 r1 k => ?_
    obtain ⟨x, rx, rp⟩ := pick_rp I q1 rv lay (by simpa using e1) r1 lay' k
    exact ⟨x, H, I.kept k, rx, q x rp⟩
  · obtain ⟨its, rv, hl, _⟩ := I.tuple hs
    obtain ⟨as, rd⟩ := RpA.reads I q1 rv lay
    refine PySem.W.min_tuple_data (I.ok.hd hc) (tupIs hl) (by simpa using rd) al (by omega) fun i v h' tk bs e1 r1 k => ?_
    obtain ⟨x, rx, rp⟩ := pick_rp I q1 rv lay (by simpa using e1) r1 lay' k
    exact ⟨x, H, I.kept k, rx, q x rp⟩
theorem cr_maxL (hc : X.calm = true) (hu : X.A.units + 70 < cLine) : CallR X (.builtin "max") (rMaxL X.K) := by
  intro pins s σ H vs us Q I r h
  obtain ⟨Z, a, xs, d, ds, rfl, hs, q1, hm, q⟩ := h
  obtain ⟨al, lay, dep⟩ := alike_of hm
  rw [Vals.ref1 r]
  have lay' : (PySem.W.maxD d ds).canLay0 = true := by
    simp only [PyData.canLayAll0, Bool.and_eq_true] at lay
    exact maxD_lay lay.1 lay.2
  rcases hs with hs | hs
  · obtain ⟨its, rv, hl, _⟩ := I.list (SqL.of hs)
    obtain ⟨as, rd⟩ := RpA.reads I q1 rv lay
    refine PySem.W.max_list_data (I.ok.hd hc) hl.isList (by simpa using rd) al (by omega) fun i v h' tk bs e1 r1 k => ?_
    obtain ⟨x, rx, rp⟩ := pick_rp I q1 rv lay (by simpa using e1) r1 lay' k
    exact ⟨x, H, I.kept k, rx, q x rp⟩
  · obtain ⟨its, rv, hl, _⟩ := I.tuple hs
    obtain ⟨as, rd⟩ := RpA.reads I q1 rv lay
    refine PySem.W.max_tuple_data (I.ok.hd hc) (tupIs hl) (by simpa using rd) al (by omega) fun i v h' tk bs e1 r1 k => ?_
    obtain ⟨x, rx, rp⟩ := pick_rp I q1 rv lay (by simpa using e1) r1 lay' k
    exact ⟨x, H, I.kept k, rx, q x rp⟩
/-! sum of a tuple of ints -/
def rSumT (K : PySem.W.Frag) : List V → Hp → VK → Prop := fun vs H Q => ∃ (a : Addr) (ns : List Int), vs = [V.ref a] ∧ SqT K H a (ns.map V.int) ∧ Q (.int ns.sum) H
theorem preSum_list : ∀ (ns : List Int) (f : Nat → Int), (∀ i, i < ns.length → f i = ns.getD i 0) → preSum f ns.length = ns.sum := by
  intro ns f h
  have h1 : ∀ k, k ≤ ns.length → preSum f k = (ns.take k).sum := by
    intro k
    induction k with
    | zero => intro _; rfl
    | succ k ih =>
      intro hk
      show preSum f k + f k = _
      rw [ih (by omega), h k (by omega), List.take_add_one, List.getElem?_eq_getElem (by omega), List.sum_append, List.getD_eq_getElem?_getD, List.getElem?_eq_getElem (by omega)]
      simp
  rw [h1 _ (Nat.le_refl _), List.take_length]
theorem cr_sumT (hc : X.calm = true) : CallR X (.builtin "sum") (rSumT X.K) := by
  intro pins s σ H vs us Q I r h
  obtain ⟨a, ns, rfl, hs, q⟩ := h
  rw [Vals.ref1 r]
  obtain ⟨its, rv, hl, _⟩ := I.tuple hs
  have hi := rv.ints
  have hlen : its.length = ns.length := by rw [← rv.length, List.length_map]
  refine call_sum_walkAnyS (PySem.W.iter_tupleW (A := X.A.in1) (I.ok.hd hc) (tupIs hl) fun s₂ e W st hfp hw hk => ?_)
  refine ⟨_, _, _, _, _, _, _, fun i => ns.getD i 0, rfl, W, st, hfp, fun i v hP => ?_, fun s' t' m => ?_⟩
  · have e1 : its[i]? = some v := by simpa using hP
    exact ints_get rv e1
  · obtain ⟨h', tk, rfl, hk'⟩ := PySem.W.moved_old e rfl m
    refine ⟨.int _, H, I.kept hk', ⟨_, rfl⟩, ?_⟩
    have e3 : preSum (fun i => ns.getD i 0) its.toArray.size = ns.sum := by
      rw [List.size_toArray, hlen]
      exact preSum_list ns _ fun i _ => rfl
    rw [e3]
    exact q
end
end PyD

/-! PyE4: sorted; every built-in function by its data. -/
namespace PyD
open PySem L2 LamX
section
variable {X : Cx}
theorem sort_of {ds : List PyData} (h : sortOk ds = true) : PySem.W.AllAlike (ds.map id) ∧ PySem.W.Sortable (ds.map id) ∧ PyData.canLayAll0 ds = true ∧ ∀ d ∈ ds, d.depth ≤ 64 := by
  unfold sortOk at h
  rw [Bool.and_eq_true, Bool.and_eq_true] at h
  obtain ⟨⟨h1, h2⟩, h3⟩ := h
  rw [List.map_id]
  refine ⟨fun x hx y hy => ?_, ?_, (all_shaped h3).1, fun d hd => ?_⟩
  · unfold alikeB at h1
    exact List.all_eq_true.mp (List.all_eq_true.mp h1 x hx) y hy
  · rcases Bool.or_eq_true_iff.mp h2 with h2 | h2
    · refine .inl fun d hd => ?_
      have := List.all_eq_true.mp h2 d hd
      cases d with
      | tuple xs => cases xs with
        | nil => cases this
        | cons x r => exact ⟨x, r, rfl⟩
      | _ => cases this
    · refine .inr fun d hd => ?_
      have := List.all_eq_true.mp h2 d hd
      refine ⟨fun e => (by subst e; cases this), fun xs e => (by subst e; cases this)⟩
  · have := List.all_eq_true.mp h3 d hd
    unfold SeqAt.shaped at this
    exact of_decide_eq_true (Bool.and_eq_true_iff.mp this).2
theorem each_of {K : PySem.W.Frag} {H : Hp} {Z : Addr → Prop} : ∀ {xs : List V} {us : List Value} {ds : List PyData}, RpA K H Z xs ds → Vals xs us → PySem.W.EachIs (fun v d => ∃ x, RelV x v ∧ Rp K H Z x d) us ds
  | _, _, _, .nil, .nil => .nil
  | _, _, _, .cons a b, .cons r t => .cons ⟨_, r, a⟩ (each_of b t)
theorem of_each {K : PySem.W.Frag} {H : Hp} {Z : Addr → Prop} : ∀ {us : List Value} {ds : List PyData}, PySem.W.EachIs (fun v d => ∃ x, RelV x v ∧ Rp K H Z x d) us ds → ∃ xs, Vals xs us ∧ RpA K H Z xs ds
  | _, _, .nil => ⟨[], .nil, .nil⟩
  | _, _, .cons ⟨x, r, a⟩ t => by
    obtain ⟨xs, h1, h2⟩ := of_each t
    exact ⟨x :: xs, .cons r h1, .cons a h2⟩
theorem each_reads {h : Heap} : ∀ {us : List Value} {ds : List PyData} {as : List Addr}, ReadsAll h us ds as → PySem.W.EachIs (fun v d => ∃ as, Reads h v (id d) as) us ds
  | _, _, _, .nil => .nil
  | _, _, _, .cons r t => .cons ⟨_, r⟩ (each_reads t)
def rSortL (K : PySem.W.Frag) : List V → Hp → VK → Prop := fun vs H Q => ∃ (Z : Addr → Prop) (a : Addr) (xs : List V) (ds : List PyData), vs = [.ref a] ∧ H a = some (.lst xs) ∧ RpA K H Z xs ds ∧ sortOk ds = true ∧ ds.length ≤ sizeLine ∧
  ∀ ys p, ys.length ≤ sizeLine → RpA K H Z ys (sortD ds) → H p = none → Q (.ref p) (upd H p (.lst ys))
theorem cr_sortL (hu : X.A.units + 70 < cLine) : CallR X (.builtin "sorted") (rSortL X.K) := by
  intro pins s σ H vs us Q I r h
  obtain ⟨Z, a, xs, ds, rfl, hs, q1, hm, hL, q⟩ := h
  obtain ⟨al, so, lay, dep⟩ := sort_of hm
  rw [Vals.ref1 r]
  obtain ⟨its, rv, hl, _⟩ := I.list (SqL.of hs)
  obtain ⟨as, rd⟩ := RpA.reads I q1 rv lay
  refine PySem.W.sorted_data (enc := id) hl.isList (each_of q1 rv) (each_reads rd) al so hL (fun b hb => by have := dep b hb; show X.A.units + 2 + b.depth < _; omega) fun out hlen ho => ?_
  obtain ⟨ys, r1, q2⟩ := of_each ho
  obtain ⟨ep, he'⟩ := PyProof.Rows.sortedAll_at s.heap its out.toArray
  have hlen' : ys.length ≤ sizeLine := by rw [r1.length, hlen]; exact hL
  refine ⟨.ref _, upd H (s.heap.objs.size + 1) (.lst ys), I.laid (t' := s.toks) (fun _ _ => PyProof.Rows.sortedAll_old) (Nat.le_succ _) ⟨hlen', out, ep, r1, ?_⟩, rfl, q ys _ hlen' q2 (I.hok.fresh (Nat.le_succ _))⟩
  simpa using he'
def calmB : Bif → Bool
  | .all | .any | .sum | .min | .max | .list => true
  | _ => false
theorem Bo.relv_ref {K : PySem.W.Frag} {H : Hp} {Z : Addr → Prop} {v : V} {d : PyData} (b : Bo K H Z v d) : (d = .none ∧ v = .non) ∨ (∃ x, d = .bool x ∧ v = .bl x) ∨ (∃ x, d = .int x ∧ v = .int x) ∨ (∃ x, d = .str x ∧ v = .str x) ∨ ∃ a, v = .ref a := by
  cases d with
  | none => exact .inl ⟨rfl, b.non⟩
  | bool x => exact .inr (.inl ⟨x, rfl, b.bl⟩)
  | int x => exact .inr (.inr (.inl ⟨x, rfl, b.int⟩))
  | str x => exact .inr (.inr (.inr (.inl ⟨x, rfl, b.str⟩)))
  | list xs => obtain ⟨a, _, e, _⟩ := b.list; exact .inr (.inr (.inr (.inr ⟨a, e⟩)))
  | tuple xs => obtain ⟨a, _, e, _⟩ := b.tuple; exact .inr (.inr (.inr (.inr ⟨a, e⟩)))
  | dict xs => obtain ⟨a, _, e, _⟩ := b.dict; exact .inr (.inr (.inr (.inr ⟨a, e⟩)))
theorem cr_repr (hg : X.A.guards = some []) (hu : X.A.units + 70 < cLine) : CallR X (.builtin "repr") (fun vs H Q => ∃ Z v d, vs = [v] ∧ Bo X.K H Z v d ∧ reprOk d = true ∧ Q (.str d.shown) H) := by
  intro pins s σ H xs us Q I r h
  obtain ⟨Z, v, d, rfl, b, hk, q⟩ := h
  unfold reprOk at hk
  simp only [Bool.and_eq_true] at hk
  obtain ⟨⟨⟨⟨k1, k2⟩, k3⟩, k4⟩, k5⟩ := hk
  have k3 := of_decide_eq_true k3
  have k4 := of_decide_eq_true k4
  have hz : d.shown.length ≤ sizeLine := by rw [← sz]; exact k4
  rcases b.relv_ref with ⟨rfl, rfl⟩ | ⟨x, rfl, rfl⟩ | ⟨x, rfl, rfl⟩ | ⟨x, rfl, rfl⟩ | ⟨a, rfl⟩
  · obtain ⟨u, rfl, ru⟩ := r.one
    cases ru
    exact PySem.P.repr_of_none ⟨.str _, H, I.tok _, ⟨_, rfl⟩, q⟩
  · obtain ⟨u, rfl, ru⟩ := r.one
    cases ru
    exact PySem.P.repr_of_bool ⟨.str _, H, I.tok _, ⟨_, rfl⟩, q⟩
  · obtain ⟨u, rfl, ru⟩ := r.one
    obtain ⟨t, rfl⟩ := ru
    have k2 : decide (x.natAbs.log2 < 1920) = true := k2
    exact PySem.P.repr_of_int (of_decide_eq_true k2) ⟨.str _, H, I.tok _, ⟨_, rfl⟩, q⟩
  · obtain ⟨u, rfl, ru⟩ := r.one
    obtain ⟨t, rfl⟩ := ru
    exact PySem.P.repr_of_str ⟨.str _, H, I.tok _, ⟨_, rfl⟩, q⟩ hz
  · obtain ⟨u, rfl, ru⟩ := r.one
    obtain ⟨as, hr⟩ := Dp.reads I d _ _ (b.dp k1) ru
    cases ru
    exact PySem.repr_of_reads' hr k2 (PyData.noDict_hsm (PyData.hasDict_of_canLay _ k1)) hg (by omega) (fun _ _ e => e) (fun h' u tk hkk => ⟨.str _, H, I.kept (t' := tk) hkk, ⟨_, rfl⟩, q⟩) hz
theorem cr_lenK : CallR X (.builtin "len") (fun vs H Q => ∃ a kvs, vs = [.ref a] ∧ H a = some (.dK kvs) ∧ Q (.int kvs.length) H) := by
  intro pins s σ H xs us Q I r h
  obtain ⟨a, kvs, rfl, e, q⟩ := h
  obtain ⟨u, rfl, ru⟩ := r.one
  cases ru
  exact d_len I (.inl e) fun t s' I' => ⟨.int _, H, I', ⟨t, rfl⟩, q⟩
theorem cr_listK (hc : X.calm = true) : CallR X (.type "list") (fun vs H Q => ∃ a kvs, vs = [.ref a] ∧ H a = some (.dK kvs) ∧ (kvs.length ≤ sizeLine → ∀ q, H q = none → Q (.ref q) (upd H q (.lst (kvs.map fun kv => kV kv.1))))) := by
  intro pins s σ H xs us Q I r h
  obtain ⟨a, kvs, rfl, e, q⟩ := h
  obtain ⟨z, _⟩ := dk_of I.hok e
  exact call_list_dK hc pins s σ H [.ref a] us Q I r ⟨a, kvs, rfl, e, q z⟩
theorem cr_bfn (b : Bif) (hc : calmB b = true → X.calm = true) (hu : X.A.units + 70 < cLine) (hg : X.A.guards = some []) : CallR X (opF b) (rBfn X.K b) := by
  refine CallR.cases fun vs H Q ⟨Z, ds, z, bx, hz, q⟩ => ?_
  have same : ∀ v, Rp X.K H Z v z.2 → z.1 = false → Q v H := fun v r e => q v H (fun _ _ e => e) (.inl ⟨e, r⟩)
  unfold bfn at hz
  split at hz <;> first | cases hz; done | skip
  · cases hz; obtain ⟨v, rfl, b1⟩ := bx.one; obtain ⟨a, xs, rfl, h1, l, q1⟩ := b1.list
    exact ⟨_, call_len_seq, a, xs, rfl, .inl (SqL.of h1), same _ (by rw [q1.len]; exact .int _) rfl⟩
  · cases hz; obtain ⟨v, rfl, b1⟩ := bx.one; obtain ⟨a, xs, rfl, h1, l, q1⟩ := b1.tuple
    exact ⟨_, call_len_seq, a, xs, rfl, .inr h1, same _ (by rw [q1.len]; exact .int _) rfl⟩
  · split at hz
    · rename_i hl
      cases hz; obtain ⟨v, rfl, b1⟩ := bx.one; rw [b1.str]
      exact ⟨_, call_len_str, _, rfl, by rw [← sz]; exact hl, same _ (.int _) rfl⟩
    · cases hz
  · cases hz; obtain ⟨v, rfl, b1⟩ := bx.one; rw [b1.int]
    exact ⟨_, call_abs, _, rfl, same _ (.int _) rfl⟩
  · cases hz; obtain ⟨v, rfl, b1⟩ := bx.one; rw [b1.int]
    exact ⟨_, call_int1, .inl ⟨_, rfl, same _ (.int _) rfl⟩⟩
  · cases hz; obtain ⟨v, rfl, b1⟩ := bx.one; rw [b1.bl]
    exact ⟨_, call_int1, .inr ⟨_, rfl, same _ (.int _) rfl⟩⟩
  · cases hz; obtain ⟨v, rfl, b1⟩ := bx.one; obtain ⟨a, xs, rfl, h1, l, q1⟩ := b1.list
    exact ⟨_, call_tuple_of, a, xs, rfl, .inl ⟨SqL.of h1, fun p n => q _ _ (same_upd n) (NewR.tup n l q1)⟩⟩
  · cases hz; obtain ⟨v, rfl, b1⟩ := bx.one; obtain ⟨a, xs, rfl, h1, l, q1⟩ := b1.tuple
    exact ⟨_, call_tuple_of, a, xs, rfl, .inr ⟨h1, same _ (.tup h1 l q1) rfl⟩⟩
  · cases hz; obtain ⟨v, rfl, b1⟩ := bx.one; obtain ⟨a, xs, rfl, h1, l, q1⟩ := b1.list
    exact ⟨_, call_list_of, a, xs, rfl, .inl (SqL.of h1), fun p n => q _ _ (same_upd n) (NewR.lst n l q1)⟩
  · cases hz; obtain ⟨v, rfl, b1⟩ := bx.one; obtain ⟨a, xs, rfl, h1, l, q1⟩ := b1.tuple
    exact ⟨_, call_list_of, a, xs, rfl, .inr h1, fun p n => q _ _ (same_upd n) (NewR.lst n l q1)⟩
  · obtain ⟨bs, e1, rfl⟩ := Option.map_eq_some_iff.mp hz
    obtain ⟨v, rfl, b1⟩ := bx.one; obtain ⟨a, xs, rfl, h1, l, q1⟩ := b1.list
    have e2 := q1.bools e1
    subst e2
    exact ⟨_, cr_all (hc rfl), a, bs, rfl, SqL.of h1, same _ (.bl _) rfl⟩
  · obtain ⟨bs, e1, rfl⟩ := Option.map_eq_some_iff.mp hz
    obtain ⟨v, rfl, b1⟩ := bx.one; obtain ⟨a, xs, rfl, h1, l, q1⟩ := b1.list
    have e2 := q1.bools e1
    subst e2
    exact ⟨_, cr_any (hc rfl), a, bs, rfl, SqL.of h1, same _ (.bl _) rfl⟩
  · obtain ⟨bs, e1, rfl⟩ := Option.map_eq_some_iff.mp hz
    obtain ⟨v, rfl, b1⟩ := bx.one; obtain ⟨a, xs, rfl, h1, l, q1⟩ := b1.list
    have e2 := q1.ints e1
    subst e2
    exact ⟨_, cr_sum (hc rfl), a, bs, rfl, SqL.of h1, same _ (.int _) rfl⟩
  · obtain ⟨bs, e1, rfl⟩ := Option.map_eq_some_iff.mp hz
    obtain ⟨v, rfl, b1⟩ := bx.one; obtain ⟨a, xs, rfl, h1, l, q1⟩ := b1.tuple
    have e2 := q1.ints e1
    subst e2
    exact ⟨_, cr_sumT (hc rfl), a, bs, rfl, h1, same _ (.int _) rfl⟩
  · split at hz
    · rename_i hm
      cases hz; obtain ⟨v, rfl, b1⟩ := bx.one; obtain ⟨a, xs, rfl, h1, l, q1⟩ := b1.list
      exact ⟨_, cr_minL (hc rfl) hu, Z, a, xs, _, _, rfl, .inl h1, q1, hm, fun v r => same v r rfl⟩
    · cases hz
  · split at hz
    · rename_i hm
      cases hz; obtain ⟨v, rfl, b1⟩ := bx.one; obtain ⟨a, xs, rfl, h1, l, q1⟩ := b1.list
      exact ⟨_, cr_maxL (hc rfl) hu, Z, a, xs, _, _, rfl, .inl h1, q1, hm, fun v r => same v r rfl⟩
    · cases hz
  · split at hz
    · rename_i hm
      cases hz; obtain ⟨v, rfl, b1⟩ := bx.one; obtain ⟨a, xs, rfl, h1, l, q1⟩ := b1.tuple
      exact ⟨_, cr_minL (hc rfl) hu, Z, a, xs, _, _, rfl, .inr h1, q1, hm, fun v r => same v r rfl⟩
    · cases hz
  · split at hz
    · rename_i hm
      cases hz; obtain ⟨v, rfl, b1⟩ := bx.one; obtain ⟨a, xs, rfl, h1, l, q1⟩ := b1.tuple
      exact ⟨_, cr_maxL (hc rfl) hu, Z, a, xs, _, _, rfl, .inr h1, q1, hm, fun v r => same v r rfl⟩
    · cases hz
  · split at hz
    · rename_i hm
      cases hz; obtain ⟨v, rfl, b1⟩ := bx.one; obtain ⟨a, xs, rfl, h1, l, q1⟩ := b1.list
      exact ⟨_, cr_sortL hu, Z, a, xs, _, rfl, h1, q1, hm, by rw [← q1.len]; exact l, fun ys p hy q2 n => q _ _ (same_upd n) (NewR.lst n hy q2)⟩
    · cases hz
  · cases hz; obtain ⟨v, w, rfl, b1, b2⟩ := bx.two; rw [b1.int, b2.int]
    exact ⟨_, call_max2 (hc rfl), _, _, rfl, same _ (.int _) rfl⟩
  · cases hz; obtain ⟨v, w, rfl, b1, b2⟩ := bx.two; rw [b1.int, b2.int]
    exact ⟨_, call_min2 (hc rfl), _, _, rfl, same _ (.int _) rfl⟩
  · cases hz; obtain ⟨v, rfl, b1⟩ := bx.one; obtain ⟨a, kvs, rfl, h1, q1⟩ := b1.dict
    exact ⟨_, cr_lenK, a, kvs, rfl, h1, same _ (by rw [q1.len]; exact .int _) rfl⟩
  · cases hz; obtain ⟨v, rfl, b1⟩ := bx.one; obtain ⟨a, kvs, rfl, h1, q1⟩ := b1.dict
    exact ⟨_, cr_listK (hc rfl), a, kvs, rfl, h1, fun l p n => q _ _ (same_upd n) (NewR.lst n (by rw [List.length_map]; exact l) q1.keys)⟩
  · split at hz
    · rename_i hk
      cases hz; obtain ⟨v, rfl, b1⟩ := bx.one
      exact ⟨_, cr_repr hg hu, Z, v, _, rfl, b1, hk, same _ (.str _) rfl⟩
    · cases hz
end
end PyD

/-! PyE5: t[::-1]. -/
namespace PyD
open PySem PySem.Spec PyProof.Rows L2 LamX
section
variable {prog : Program} {w : World} {A : Around} {E : Value → Shared → Prop} {s : Shared}
theorem places_rev (n : Nat) : Builtin.Slice.slicePlaces ((n : Int) - 1) (-1) (-1) = n := by
  unfold Builtin.Slice.slicePlaces
  have h1 : ¬ ((-1 : Int) > 0) := by omega
  rw [if_neg h1]
  split
  · rw [show -(-1 : Int) = 1 from rfl, Int.ediv_one]; omega
  · omega
theorem sliceApplied_rev {sl : Addr} {vl vu vs : Value} {n : Nat} {Q : Int × Int × Nat → Shared → Prop} (hs : s.heap.IsSliceOf sl vl vu vs) (pl : IsPart vl none) (pu : IsPart vu none) (ps : IsPart vs (some (-1)))
    (h : Q ((n : Int) - 1, -1, n) s) : wpAny (model prog w) A (Builtin.Slice.sliceApplied (.ref sl) (pure (n : Int))) Q E s := by
  obtain ⟨os, hos, hcs, hds⟩ := id hs
  unfold Builtin.Slice.sliceApplied Builtin.Slice.sliceFields
  refine wpAny_bind (wpAny_bind (wpAny_field hos hds (x := vl) rfl (wpAny_bind (wpAny_field hos hds (x := vu) rfl (wpAny_bind (wpAny_field hos hds (x := vs) rfl (wpAny_pure ?_)))))))
  refine wpAny_bind (HT.slicePart_ ps ?_)
  show wpAny _ _ (if ((-1 : Int) == 0) = true then _ else _) _ _ s
  rw [if_neg (by decide)]
  refine wpAny_bind (HT.slicePart_ pl (wpAny_bind (HT.slicePart_ pu (wpAny_bind (wpAny_pure ?_)))))
  show wpAny _ _ (pure ((n : Int) - 1, (-1 : Int), Builtin.Slice.slicePlaces ((n : Int) - 1) (-1) (-1))) _ _ s
  rw [places_rev]
  exact wpAny_pure h
theorem fm_congr {α β : Type} {f g : α → Option β} : ∀ {l : List α}, (∀ x ∈ l, f x = g x) → l.filterMap f = l.filterMap g
  | [], _ => rfl
  | x :: l, h => by
    rw [List.filterMap_cons, List.filterMap_cons, h x (List.mem_cons_self ..), fm_congr fun y hy => h y (List.mem_cons_of_mem _ hy)]
theorem pick_rev (xs : Array Value) : ((List.range xs.size).filterMap fun (m : Nat) => xs[((xs.size : Int) - 1 + (m : Int) * -1).toNat]?).toArray = xs.toList.reverse.toArray := by
  have e : (List.range xs.size).filterMap (fun (m : Nat) => xs[((xs.size : Int) - 1 + (m : Int) * -1).toNat]?) = (List.range xs.size).filterMap (fun (m : Nat) => xs.toList.reverse.toArray[(((0 : Nat) : Int) + (m : Int) * 1).toNat]?) := by
    refine fm_congr fun m hm => ?_
    have hm := List.mem_range.mp hm
    have e1 : ((xs.size : Int) - 1 + (m : Int) * -1).toNat = xs.size - 1 - m := by omega
    have e2 : (((0 : Nat) : Int) + (m : Int) * 1).toNat = m := by omega
    rw [e1, e2]
    have e3 : xs.toList.reverse.toArray[m]? = xs.toList.reverse[m]? := by simp
    rw [e3, List.getElem?_reverse (by rw [Array.length_toList]; exact hm), Array.length_toList]
    simp
  rw [e, HT.pick_gen, List.take_of_length_le (by simp)]
  simp
theorem getItem_tuple_rev {t sl : Addr} {items : Array Value} {vl vu vs : Value} {Q : Value → Shared → Prop} (ht : IsTup s.heap t items) (hs : s.heap.IsSliceOf sl vl vu vs) (pl : IsPart vl none) (pu : IsPart vu none) (ps : IsPart vs (some (-1)))
    (h : Q (.ref s.heap.objs.size) { s with heap := s.heap.push { cls := .type "tuple", data := .seq items.toList.reverse.toArray } })
    (hsz : items.size ≤ sizeLine) : wpAny (model prog w) A (getItem (.ref t) (.ref sl)) Q E s := by
  have hrev : sizeOk (.seq items.toList.reverse.toArray) := by
    show items.toList.reverse.toArray.size ≤ sizeLine
    rw [List.size_toArray, List.length_reverse, Array.length_toList]
    exact hsz
  obtain ⟨os, hos, hcs, hds⟩ := id hs
  have hTs : s.TypeIs (.ref sl) "slice" := ⟨os, hos, hcs⟩
  unfold getItem
  try with_reducible refine wpAny_holding ?_
  first | refine wpAny_bind (wpAny_pure ?_) | skip
  refine wpAny_bind (wpAny_sequenceKey ht.typeIs (by decide) ?_)
  refine wpAny_bind (wpAny_callSpecial?_slot (name := Str.ofString "__getitem__") ht.typeIs PyProof.Rows.slot_tuple_getitem
    (wpAny_call_entry PyProof.Rows.slot_tuple_getitem ht.typeIs entry_tuple_getitem ?_ (args_tuple_getitem _ _)))
  show wpAny _ _ (Builtin.Tuple.tupleItemsOf (.ref t) >>= _) _ _ s
  refine wpAny_bind (tupleItemsOf_ ht ?_)
  refine wpAny_bind (wpAny_typeOf hTs ?_)
  rw [if_pos (by decide)]
  refine wpAny_bind (sliceApplied_rev hs pl pu ps ?_)
  have hno : ¬ ((((items.size : Int) - 1) == 0 && (-1 : Int) == 1 && items.size == items.size) = true) := by
    intro q
    rw [Bool.and_eq_true, Bool.and_eq_true] at q
    exact absurd q.1.2 (by decide)
  show wpAny _ _ (if (((items.size : Int) - 1) == 0 && (-1 : Int) == 1 && items.size == items.size) = true then _ else _) _ _ s
  rw [if_neg hno, pick_rev]
  first
    | exact wpAny_bind (m := Builtin.Tuple.tupleExact _) (wpAny_newObj_type (wpAny_pure ⟨_, rfl, wpAny_pure h⟩) hrev)
    | exact wpAny_bind (m := Builtin.Tuple.tupleExact _) (wpAny_newObj_type (wpAny_bind (wpAny_pure (wpAny_pure ⟨_, rfl, wpAny_pure h⟩))) hrev)
    | exact wpAny_bind (wpAny_bind (m := Builtin.Tuple.tupleExact _) (wpAny_newObj_type (wpAny_pure (wpAny_pure ⟨_, rfl, wpAny_pure h⟩)) hrev))
    | exact wpAny_bind (wpAny_bind (m := Builtin.Tuple.tupleExact _) (wpAny_newObj_type (wpAny_pure ⟨_, rfl, wpAny_pure h⟩) hrev))
end
/-- xs[::-1] of a list or a tuple -/
def tRevK (K : PySem.W.Frag) (te : TE) : TE := fun σ H Q => te σ H fun x H1 => (∃ a xs, x = .ref a ∧ SqL K H1 a xs ∧ ∀ p, H1 p = none → Q (.ref p) (L2.upd H1 p (.lst xs.reverse))) ∨ ∃ a xs, x = .ref a ∧ SqT K H1 a xs ∧ ∀ p, H1 p = none → Q (.ref p) (L2.upd H1 p (.tup xs.reverse))
theorem pe_revK {X : Cx} {e : Expr} {te : TE} {k : Nat} {p1 p2 p3 pos : Pos} (he : PE X e te) : PE X (.Subscript e (.Slice none none (some (.UnaryOp .USub (.Constant (.int 1) k p1) p2)) p3) pos) (tRevK X.K te) := by
  refine ⟨fun pins s σ H Q I h => ?_⟩
  refine Subscript_ (thn (he.run pins s σ H _ I h) fun v s1 ⟨x, H1, I1, r1, q1⟩ => ?_)
  have hst : PO X (some (.UnaryOp .USub (.Constant (.int 1) k p1) p2)) (tPart (tUn (rU fun i => .int (-i)) (tC (.int 1)))) := po_some (pe_un un_neg pe_int)
  refine wpAny_Slice (thn (po_none.run pins s1 σ H1 (fun o H2 => o = none ∧ H2 = H1) I1 ⟨rfl, rfl⟩) fun vl s2 ⟨l, H2, I2, pl, el, e2⟩ => ?_)
  subst el e2
  refine thn (po_none.run pins s2 σ H2 (fun o H3 => o = none ∧ H3 = H2) I2 ⟨rfl, rfl⟩) fun vu s3 ⟨u, H3, I3, pu, eu, e3⟩ => ?_
  subst eu e3
  refine thn (hst.run pins s3 σ H3 (fun o H4 => o = some (-1) ∧ H4 = H3) I3 ⟨1, rfl, -1, rfl, rfl, rfl⟩) fun vs s4 ⟨o, H4, I4, ps, eo, e4⟩ => ?_
  subst eo e4
  have I5 : L2.Inv X pins σ H4 { s4 with heap := s4.heap.push { cls := .type "slice", data := .fields #[vl, vu, vs] } } := I4.kept (t' := s4.toks) fun b ob q => Heap.get?_push_of_some _ q
  show wpAny (model X.prog X.w) X.A (subscriptTail e (.Slice none none (some (.UnaryOp .USub (.Constant (.int 1) k p1) p2)) p3) v (.ref s4.heap.objs.size)) (EP X pins σ Q) X.xe { s4 with heap := s4.heap.push { cls := .type "slice", data := .fields #[vl, vu, vs] } }
  rcases q1 with ⟨a, xs, ex, hx, q⟩ | ⟨a, xs, ex, hx, q⟩
  · subst ex
    cases r1
    obtain ⟨its, r, ht, hz⟩ := I5.list hx
    have hlen := r.length
    refine tail_any (ops := [.ref a, .ref s4.heap.objs.size]) ht.isList.typeIs (PySem.slot_list_getitem.lookup) ?_ (by with_unfolding_all rfl)
    refine wpAny_getItem_list_slice ht.isList (Heap.IsSliceOf.new _ vl vu vs) pl pu ps (by decide) ?_ (by rw [List.size_toArray]; omega)
    rw [PySem.W.krv_pick]
    refine ⟨.ref _, _, I5.laid (t' := s4.toks) (o := .lst xs.reverse) (fun b ob q => Heap.get?_push_of_some _ q) (Nat.le_refl _) ?_, rfl, q _ (I5.hok.fresh (Nat.le_refl _))⟩
    exact ⟨by rw [List.length_reverse]; exact hz, _, 0, r.reverse, Heap.get?_push_size _ rfl⟩
  · subst ex
    cases r1
    obtain ⟨its, r, ht, hz⟩ := I5.tuple hx
    have hlen := r.length
    refine tail_any (ops := [.ref a, .ref s4.heap.objs.size]) ht.typeIs (PyProof.Rows.slot_tuple_getitem.lookup) ?_ (by with_unfolding_all rfl)
    refine getItem_tuple_rev ht (Heap.IsSliceOf.new _ vl vu vs) pl pu ps ?_ (by rw [List.size_toArray]; omega)
    refine ⟨.ref _, _, I5.laid (t' := s4.toks) (o := .tup xs.reverse) (fun b ob q => Heap.get?_push_of_some _ q) (Nat.le_refl _) ?_, rfl, q _ (I5.hok.fresh (Nat.le_refl _))⟩
    exact ⟨by rw [List.length_reverse]; exact hz, _, r.reverse, IsTup.new _ _⟩
end PyD

/-! PyE6: t[:0:-1] of a tuple. -/
namespace PyD
open PySem PySem.Spec PyProof.Rows L2 LamX
section
variable {prog : Program} {w : World} {A : Around} {E : Value → Shared → Prop} {s : Shared}
theorem places_rev1 (n : Nat) : Builtin.Slice.slicePlaces ((n : Int) - 1) (min 0 ((n : Int) - 1)) (-1) = n - 1 := by
  unfold Builtin.Slice.slicePlaces
  have h1 : ¬ ((-1 : Int) > 0) := by omega
  rw [if_neg h1]
  split
  · rw [show -(-1 : Int) = 1 from rfl, Int.ediv_one]; omega
  · omega
theorem sliceApplied_rev1 {sl : Addr} {vl vu vs : Value} {n : Nat} {Q : Int × Int × Nat → Shared → Prop} (hs : s.heap.IsSliceOf sl vl vu vs) (pl : IsPart vl none) (pu : IsPart vu (some 0)) (ps : IsPart vs (some (-1)))
    (h : Q ((n : Int) - 1, -1, n - 1) s) : wpAny (model prog w) A (Builtin.Slice.sliceApplied (.ref sl) (pure (n : Int))) Q E s := by
  obtain ⟨os, hos, hcs, hds⟩ := id hs
  unfold Builtin.Slice.sliceApplied Builtin.Slice.sliceFields
  refine wpAny_bind (wpAny_bind (wpAny_field hos hds (x := vl) rfl (wpAny_bind (wpAny_field hos hds (x := vu) rfl (wpAny_bind (wpAny_field hos hds (x := vs) rfl (wpAny_pure ?_)))))))
  refine wpAny_bind (HT.slicePart_ ps ?_)
  show wpAny _ _ (if ((-1 : Int) == 0) = true then _ else _) _ _ s
  rw [if_neg (by decide)]
  refine wpAny_bind (HT.slicePart_ pl (wpAny_bind (HT.slicePart_ pu (wpAny_bind (wpAny_pure ?_)))))
  show wpAny _ _ (pure ((n : Int) - 1, (-1 : Int), Builtin.Slice.slicePlaces ((n : Int) - 1) (min 0 ((n : Int) - 1)) (-1))) _ _ s
  rw [places_rev1]
  exact wpAny_pure h
theorem pick_rev1 (xs : Array Value) : ((List.range (xs.size - 1)).filterMap fun (m : Nat) => xs[((xs.size : Int) - 1 + (m : Int) * -1).toNat]?).toArray = (xs.toList.drop 1).reverse.toArray := by
  have e : (List.range (xs.size - 1)).filterMap (fun (m : Nat) => xs[((xs.size : Int) - 1 + (m : Int) * -1).toNat]?) = (List.range (xs.size - 1)).filterMap (fun (m : Nat) => (xs.toList.drop 1).reverse.toArray[(((0 : Nat) : Int) + (m : Int) * 1).toNat]?) := by
    refine fm_congr fun m hm => ?_
    have hm := List.mem_range.mp hm
    have e1 : ((xs.size : Int) - 1 + (m : Int) * -1).toNat = xs.size - 1 - m := by omega
    have e2 : (((0 : Nat) : Int) + (m : Int) * 1).toNat = m := by omega
    rw [e1, e2]
    have e3 : (xs.toList.drop 1).reverse.toArray[m]? = (xs.toList.drop 1).reverse[m]? := by simp
    rw [e3, List.getElem?_reverse (by rw [List.length_drop, Array.length_toList]; exact hm), List.length_drop, Array.length_toList, List.getElem?_drop, Array.getElem?_toList]
    congr 1
    omega
  rw [e, HT.pick_gen, List.take_of_length_le (by simp)]
  simp
theorem getItem_tuple_rev1 {t sl : Addr} {items : Array Value} {vl vu vs : Value} {Q : Value → Shared → Prop} (ht : IsTup s.heap t items) (hs : s.heap.IsSliceOf sl vl vu vs) (pl : IsPart vl none) (pu : IsPart vu (some 0)) (ps : IsPart vs (some (-1)))
    (h : Q (.ref s.heap.objs.size) { s with heap := s.heap.push { cls := .type "tuple", data := .seq (items.toList.drop 1).reverse.toArray } })
    (hsz : items.size ≤ sizeLine) : wpAny (model prog w) A (getItem (.ref t) (.ref sl)) Q E s := by
  have hrev : sizeOk (.seq (items.toList.drop 1).reverse.toArray) := by
    show (items.toList.drop 1).reverse.toArray.size ≤ sizeLine
    rw [List.size_toArray, List.length_reverse, List.length_drop, Array.length_toList]
    exact Nat.le_trans (Nat.sub_le ..) hsz
  obtain ⟨os, hos, hcs, hds⟩ := id hs
  have hTs : s.TypeIs (.ref sl) "slice" := ⟨os, hos, hcs⟩
  unfold getItem
  try with_reducible refine wpAny_holding ?_
  first | refine wpAny_bind (wpAny_pure ?_) | skip
  refine wpAny_bind (wpAny_sequenceKey ht.typeIs (by decide) ?_)
  refine wpAny_bind (wpAny_callSpecial?_slot (name := Str.ofString "__getitem__") ht.typeIs PyProof.Rows.slot_tuple_getitem
    (wpAny_call_entry PyProof.Rows.slot_tuple_getitem ht.typeIs entry_tuple_getitem ?_ (args_tuple_getitem _ _)))
  show wpAny _ _ (Builtin.Tuple.tupleItemsOf (.ref t) >>= _) _ _ s
  refine wpAny_bind (tupleItemsOf_ ht ?_)
  refine wpAny_bind (wpAny_typeOf hTs ?_)
  rw [if_pos (by decide)]
  refine wpAny_bind (sliceApplied_rev1 hs pl pu ps ?_)
  have hno : ¬ ((((items.size : Int) - 1) == 0 && (-1 : Int) == 1 && items.size - 1 == items.size) = true) := by
    intro q
    rw [Bool.and_eq_true, Bool.and_eq_true] at q
    exact absurd q.1.2 (by decide)
  show wpAny _ _ (if (((items.size : Int) - 1) == 0 && (-1 : Int) == 1 && items.size - 1 == items.size) = true then _ else _) _ _ s
  rw [if_neg hno, pick_rev1]
  first
    | exact wpAny_bind (m := Builtin.Tuple.tupleExact _) (wpAny_newObj_type (wpAny_pure ⟨_, rfl, wpAny_pure h⟩) hrev)
    | exact wpAny_bind (m := Builtin.Tuple.tupleExact _) (wpAny_newObj_type (wpAny_bind (wpAny_pure (wpAny_pure ⟨_, rfl, wpAny_pure h⟩))) hrev)
    | exact wpAny_bind (wpAny_bind (m := Builtin.Tuple.tupleExact _) (wpAny_newObj_type (wpAny_pure (wpAny_pure ⟨_, rfl, wpAny_pure h⟩)) hrev))
    | exact wpAny_bind (wpAny_bind (m := Builtin.Tuple.tupleExact _) (wpAny_newObj_type (wpAny_pure ⟨_, rfl, wpAny_pure h⟩) hrev))
end
/-- xs[:0:-1] of a tuple -/
def tRevT (K : PySem.W.Frag) (te : TE) : TE := fun σ H Q => te σ H fun x H1 => ∃ a xs, x = .ref a ∧ SqT K H1 a xs ∧ ∀ p, H1 p = none → Q (.ref p) (L2.upd H1 p (.tup (xs.drop 1).reverse))
theorem pe_revT {X : Cx} {e : Expr} {te : TE} {k k0 : Nat} {p1 p2 p3 q0 pos : Pos} (he : PE X e te) : PE X (.Subscript e (.Slice none (some (.Constant (.int 0) k0 q0)) (some (.UnaryOp .USub (.Constant (.int 1) k p1) p2)) p3) pos) (tRevT X.K te) := by
  refine ⟨fun pins s σ H Q I h => ?_⟩
  refine Subscript_ (thn (he.run pins s σ H _ I h) fun v s1 ⟨x, H1, I1, r1, q1⟩ => ?_)
  have hst : PO X (some (.UnaryOp .USub (.Constant (.int 1) k p1) p2)) (tPart (tUn (rU fun i => .int (-i)) (tC (.int 1)))) := po_some (pe_un un_neg pe_int)
  have hup : PO X (some (.Constant (.int 0) k0 q0)) (tPart (tC (.int 0))) := po_some pe_int
  refine wpAny_Slice (thn (po_none.run pins s1 σ H1 (fun o H2 => o = none ∧ H2 = H1) I1 ⟨rfl, rfl⟩) fun vl s2 ⟨l, H2, I2, pl, el, e2⟩ => ?_)
  subst el e2
  refine thn (hup.run pins s2 σ H2 (fun o H3 => o = some 0 ∧ H3 = H2) I2 ⟨0, rfl, rfl, rfl⟩) fun vu s3 ⟨u, H3, I3, pu, eu, e3⟩ => ?_
  subst eu e3
  refine thn (hst.run pins s3 σ H3 (fun o H4 => o = some (-1) ∧ H4 = H3) I3 ⟨1, rfl, -1, rfl, rfl, rfl⟩) fun vs s4 ⟨o, H4, I4, ps, eo, e4⟩ => ?_
  subst eo e4
  have I5 : L2.Inv X pins σ H4 { s4 with heap := s4.heap.push { cls := .type "slice", data := .fields #[vl, vu, vs] } } := I4.kept (t' := s4.toks) fun b ob q => Heap.get?_push_of_some _ q
  show wpAny (model X.prog X.w) X.A (subscriptTail e (.Slice none (some (.Constant (.int 0) k0 q0)) (some (.UnaryOp .USub (.Constant (.int 1) k p1) p2)) p3) v (.ref s4.heap.objs.size)) (EP X pins σ Q) X.xe { s4 with heap := s4.heap.push { cls := .type "slice", data := .fields #[vl, vu, vs] } }
  obtain ⟨a, xs, ex, hx, q⟩ := q1
  subst ex
  cases r1
  obtain ⟨its, r, ht, hz⟩ := I5.tuple hx
  have hlen := r.length
  refine tail_any (ops := [.ref a, .ref s4.heap.objs.size]) ht.typeIs (PyProof.Rows.slot_tuple_getitem.lookup) ?_ (by with_unfolding_all rfl)
  refine getItem_tuple_rev1 ht (Heap.IsSliceOf.new _ vl vu vs) pl pu ps ?_ (by rw [List.size_toArray]; omega)
  refine ⟨.ref _, _, I5.laid (t' := s4.toks) (o := .tup (xs.drop 1).reverse) (fun b ob q => Heap.get?_push_of_some _ q) (Nat.le_refl _) ?_, rfl, q _ (I5.hok.fresh (Nat.le_refl _))⟩
  exact ⟨by rw [List.length_reverse, List.length_drop]; exact Nat.le_trans (Nat.sub_le ..) hz, _, (r.drop 1).reverse, IsTup.new _ _⟩
end PyD

/-! PyF: the plain expressions, one by one. -/
namespace PyD
open PySem L2 LamX

section
variable {X : Cx} {S : Sx} {W : WX} {C : Cl} {e ea eb ec : E} {x y z : Expr} {pos : Pos}
def notStar : Expr → Bool
  | .Starred _ _ => false
  | _ => true
theorem star_cons {x : Expr} {r : List Expr} {env : PySem.Env} (h : notStar x = true) : starEach (x :: r) env = (false, eval x env) :: starEach r env := by
  cases x <;> first | rfl | cases h
theorem star_any {pos : Pos} {env : PySem.Env} : ∀ {xs : List Expr}, xs.all notStar = true → (backTo pos (starEach xs env)).any (·.1) = false
  | [], _ => rfl
  | x :: r, h => by
    rw [List.all_cons, Bool.and_eq_true] at h
    rw [star_cons h.1]
    show (false || (backTo pos (starEach r env)).any (·.1)) = false
    rw [star_any h.2]
    rfl
theorem Rel.live {G : Gh} {hd : Option Addr} {ρ : Env} {h : Hand} {σ : L2.St} {H : Hp} (R : Rel G hd ρ h σ H) {i : Nat} {s : Sl} (e : ρ[i]? = some s) (l : PyD.live s = true) : ∃ v, σ[i]? = some (some v) := by
  have := R.slot i s e
  cases s with
  | non => cases l
  | exc c => cases l
  | sh d => obtain ⟨v, e, _⟩ := this; exact ⟨v, e⟩
  | own d => obtain ⟨v, e, _⟩ := this; exact ⟨_, e⟩
  | bor d => obtain ⟨v, e, _⟩ := this; exact ⟨_, e⟩
  | fn k => exact ⟨_, this.1⟩
  | hnd => obtain ⟨v, _, e⟩ := this; exact ⟨_, e⟩
  | scr d => obtain ⟨v, _, e, _⟩ := this; exact ⟨_, e⟩
theorem Out.slR {α β : Type} {G : Gh} {hd : Option Addr} {ρ : Env} {h : Hand} {σ : L2.St} {H : Hp} {a : α} {i : Nat} {k : α → Env → Hand → Hp → Prop} (R : Rel G hd ρ h σ H) (o : Out G W σ hd ρ H (slR a i ρ h) k) : (∃ v, σ[i]? = some (some v)) ∧ k a ρ h H := by
  unfold PyD.slR at o
  cases q : ρ[i]? with
  | none => rw [q] at o; exact o.elim
  | some s =>
    rw [q] at o
    dsimp only at o
    by_cases hl : PyD.live s = true
    · rw [if_pos hl] at o
      exact ⟨R.live q hl, o H R (Stp.refl _ _)⟩
    · rw [if_neg hl] at o
      exact o.elim
/-- an operand: of its expression -/
theorem pre_of (hE : PE X x (tE S W (ev C e))) (hv : ∀ i, e = .var i → PE X x (tVar i)) : PE X x (tP S W (preOf e (ev C e))) := by
  have gen : (∀ i, e ≠ .var i) → PE X x (tP S W (preOf e (ev C e))) := fun hn => by
    refine PE.imp hE fun σ H Q h => ?_
    obtain ⟨G, rfl, hd, ρ, h, R, o⟩ := h
    have em : preOf e (ev C e) ρ h = (ev C e ρ h).bind fun p ρ' h' => .ok (.val p.2) ρ' h' := by
      cases e <;> first | rfl | exact absurd rfl (hn _)
    rw [em] at o
    exact seqE R o fun p ρ1 h1 v H1 _ R1 s1 r o1 => o1 H1 R1 (Stp.refl _ _) v r.1
  cases e with
  | var i =>
    refine PE.imp (hv i rfl) fun σ H Q h => ?_
    obtain ⟨G, rfl, hd, ρ, h, R, o⟩ := h
    obtain ⟨⟨v, hs⟩, o'⟩ := Out.slR (α := Pre) (β := Pre) R o
    exact ⟨v, hs, o' v hs⟩
  | _ => exact gen fun i z => by cases z
theorem Out.fin {α : Type} {G : Gh} {hd : Option Addr} {ρ : Env} {h : Hand} {σ : L2.St} {H : Hp} {a : α} {k : α → Env → Hand → Hp → Prop} (R : Rel G hd ρ h σ H) (o : Out G W σ hd ρ H (.ok a ρ h) k) {H' : Hp} (e : Same H H') : k a ρ h H' := o H' (R.same e) (Stp.same e)
/-! ### names, constants -/
theorem s_var {i : Nat} (hv : PE X x (tVar i)) : PE X x (tE S W (ev C (.var i))) := by
  refine PE.imp hv fun σ H Q h => ?_
  obtain ⟨G, rfl, hd, ρ, h, R, o⟩ := h
  unfold ev at o
  cases q : ρ[i]? with
  | none => rw [q] at o; exact o.elim
  | some s =>
    rw [q] at o
    cases s with
    | sh d =>
      obtain ⟨v, e1, r⟩ := R.slot i _ q
      exact ⟨v, e1, o H R (Stp.refl _ _) v (.plain r)⟩
    | own d =>
      obtain ⟨R', st, a, ea, r⟩ := R.freeze q
      exact ⟨_, ea, o H R' st _ (.plain r)⟩
    | _ => exact o.elim
theorem s_fz {i : Nat} (hv : PE X x (tVar i)) : PE X x (tE S W (ev C (.fz i))) := by
  have := s_var (S := S) (W := W) (C := C) hv
  unfold ev at this ⊢
  exact this
theorem s_const {v : V} {d : PyData} (hp : PE X x (tC v)) (he : ∀ ρ h, ev C e ρ h = .ok (false, d) ρ h) (r : ∀ K H Z, Rp K H Z v d) : PE X x (tE S W (ev C e)) := by
  refine PE.imp hp fun σ H Q h => ?_
  obtain ⟨G, rfl, hd, ρ, h, R, o⟩ := h
  rw [he] at o
  exact o H R (Stp.refl _ _) v (.plain (r _ _ _))
theorem s_glb {k : Nat} {v : V} {d : PyData} (hp : PE X x (tC v)) (hk : C.gl k = some d) (r : ∀ H Z, Rp S.K H Z v d) : PE X x (tE S W (ev C (.glb k))) := by
  refine PE.imp hp fun σ H Q h => ?_
  obtain ⟨G, rfl, hd, ρ, h, R, o⟩ := h
  unfold ev at o
  rw [hk] at o
  exact o H R (Stp.refl _ _) v (.plain (r _ _))
/-! ### operators -/
theorem s_bin {o : Bop} (ha : PE X x (tP S W (preOf ea (ev C ea)))) (hb : PE X y (tP S W (preOf eb (ev C eb)))) (hK : X.K = S.K) : PE X (.BinOp x (opB o) y pos) (tE S W (ev C (.bin o ea eb))) := by
  refine PE.imp (pe_op (op_bop o) ha hb) fun σ H Q h => ?_
  obtain ⟨G, rfl, hd, ρ, h, R, oo⟩ := h
  unfold ev at oo
  refine seqP R oo fun p ρ1 h1 v1 H1 _ R1 s1 r1 o1 => seqP R1 o1 fun q ρ2 h2 v2 H2 _ R2 s2 r2 o2 => ?_
  obtain ⟨d1, e1, o3⟩ := Out.ofO o2
  obtain ⟨d2, e2, o4⟩ := Out.ofO o3
  obtain ⟨z, e3, o5⟩ := Out.ofO1 o4
  refine ⟨G.Z ρ2 σ hd, d1, d2, z, by rw [hK]; exact R2.bo (r1.stp s2) e1, by rw [hK]; exact R2.bo r2 e2, e3, fun v H' sm nr => ?_⟩
  exact Out.fin R2 o5 sm v (Res.ofNew R2 sm (by rw [hK] at nr; exact nr))
theorem s_cmp {o : Cop} (ha : PE X x (tP S W (preOf ea (ev C ea)))) (hb : PE X y (tP S W (preOf eb (ev C eb)))) (hK : X.K = S.K) (hu : X.A.units + 65 < cLine) (hm : behindInMarks (opC o) y = false) :
    PE X (.Compare x [opC o] [y] pos) (tE S W (ev C (.cmp o ea eb))) := by
  refine PE.imp (pe_cmpR (op_cop o hu) ha hb hm) fun σ H Q h => ?_
  obtain ⟨G, rfl, hd, ρ, h, R, oo⟩ := h
  unfold ev at oo
  refine seqP R oo fun p ρ1 h1 v1 H1 _ R1 s1 r1 o1 => seqP R1 o1 fun q ρ2 h2 v2 H2 _ R2 s2 r2 o2 => ?_
  obtain ⟨d1, e1, o3⟩ := Out.ofO o2
  obtain ⟨d2, e2, o4⟩ := Out.ofO o3
  obtain ⟨z, e3, o5⟩ := Out.ofO o4
  exact ⟨G.Z ρ2 σ hd, d1, d2, z, by rw [hK]; exact R2.bo (r1.stp s2) e1, by rw [hK]; exact R2.bo r2 e2, e3, o5 H2 R2 (Stp.refl _ _) _ (.plain (.bl _))⟩
theorem s_cmpT {o : Cop} (ha : PE X x (tP S W (preOf ea (ev C ea)))) (hb : PE X y (tP S W (preOf eb (ev C eb)))) (hK : X.K = S.K) (hu : X.A.units + 65 < cLine) (hm : behindInMarks (opC o) y = false) :
    PT X (.Compare x [opC o] [y] pos) (tT S W (fun ρ h => asBool (ev C (.cmp o ea eb) ρ h))) := by
  refine PT.imp (pt_cmpR (op_cop o hu) ha hb hm) fun σ H Q h => ?_
  obtain ⟨G, rfl, hd, ρ, h, R, oo⟩ := h
  unfold asBool ev at oo
  have bb : ∀ {α β γ : Type} (r : Rs α) (f : α → Env → Hand → Rs β) (g : β → Env → Hand → Rs γ), (r.bind f).bind g = r.bind fun a ρ h => (f a ρ h).bind g := by
    intro α β γ r f g; cases r <;> rfl
  simp only [bb] at oo
  refine seqP R oo fun p ρ1 h1 v1 H1 _ R1 s1 r1 o1 => seqP R1 o1 fun q ρ2 h2 v2 H2 _ R2 s2 r2 o2 => ?_
  obtain ⟨d1, e1, o3⟩ := Out.ofO o2
  obtain ⟨d2, e2, o4⟩ := Out.ofO o3
  obtain ⟨z, e3, o5⟩ := Out.ofO o4
  exact ⟨G.Z ρ2 σ hd, d1, d2, z, by rw [hK]; exact R2.bo (r1.stp s2) e1, by rw [hK]; exact R2.bo r2 e2, e3, _, rfl, o5 H2 R2 (Stp.refl _ _)⟩
theorem bind_bind {α β γ : Type} (r : Rs α) (f : α → Env → Hand → Rs β) (g : β → Env → Hand → Rs γ) : (r.bind f).bind g = r.bind fun a ρ h => (f a ρ h).bind g := by cases r <;> rfl
section
variable {α : Type} {G : Gh} {hd : Option Addr} {ρ : Env} {h : Hand} {σ : L2.St} {H : Hp}
theorem seqB {m : M (Bool × PyData)} {f : Bool → Env → Hand → Rs α} {k : α → Env → Hand → Hp → Prop} (R : Rel G hd ρ h σ H) (o : Out G W σ hd ρ H ((asBool (m ρ h)).bind f) k) {Q : VK}
    (hq : ∀ b ρ1 h1 H1, Rel G hd ρ1 h1 σ H1 → Stp (Mo ρ σ hd) H (Mo ρ1 σ hd) H1 → Out G W σ hd ρ1 H1 (f b ρ1 h1) k → Q (.bl b) H1) : tE G.S W m σ H Q := by
  unfold asBool at o
  rw [bind_bind] at o
  refine seqE R o fun p ρ1 h1 v H1 _ R1 s1 r o1 => ?_
  obtain ⟨fr, d⟩ := p
  cases d with
  | bool b =>
    rw [r.1.vbl]
    exact hq b ρ1 h1 H1 R1 s1 o1
  | _ => exact o1.elim
theorem seqI {m : M (Bool × PyData)} {f : Int → Env → Hand → Rs α} {k : α → Env → Hand → Hp → Prop} (R : Rel G hd ρ h σ H) (o : Out G W σ hd ρ H ((asIntR (m ρ h)).bind f) k) {Q : VK}
    (hq : ∀ b ρ1 h1 H1, Rel G hd ρ1 h1 σ H1 → Stp (Mo ρ σ hd) H (Mo ρ1 σ hd) H1 → Out G W σ hd ρ1 H1 (f b ρ1 h1) k → Q (.int b) H1) : tE G.S W m σ H Q := by
  unfold asIntR at o
  rw [bind_bind] at o
  refine seqE R o fun p ρ1 h1 v H1 _ R1 s1 r o1 => ?_
  obtain ⟨fr, d⟩ := p
  cases d with
  | int b =>
    rw [r.1.vint]
    exact hq b ρ1 h1 H1 R1 s1 o1
  | _ => exact o1.elim
end
theorem tT_bind {α : Type} {G : Gh} {hd : Option Addr} {ρ : Env} {σ : L2.St} {H : Hp} {r : Rs α} {k : α → Env → Hand → Hp → Prop} (o : Out G W σ hd ρ H r k) : Out G W σ hd ρ H (r.bind fun b ρ h => .ok b ρ h) k := by
  cases r <;> exact o
/-- a test told by its value -/
theorem tT_of {t : TE} (h : ∀ σ H Q, tE S W (ev C e) σ H Q → t σ H Q) (p : PT X x (tTest t)) : PT X x (tT S W (fun ρ h => asBool (ev C e ρ h))) := by
  refine PT.imp p fun σ H Q h' => h σ H _ ?_
  obtain ⟨G, rfl, hd, ρ, h, R, o⟩ := h'
  exact seqB R (tT_bind o) fun b ρ1 h1 H1 R1 s1 o1 => ⟨b, rfl, o1 H1 R1 (Stp.refl _ _)⟩
/-- a test of a value -/
theorem t_val (hE : PE X x (tE S W (ev C e))) (he : ∀ whole, PySem.isTrue x X.env whole = (do let v ← whole; standAt x.pos; holding [v] (truthy v))) : PT X x (tT S W (fun ρ h => asBool (ev C e ρ h))) := by
  refine PT.imp (pt_val hE he) fun σ H Q h => ?_
  obtain ⟨G, rfl, hd, ρ, h, R, o⟩ := h
  exact seqB R (tT_bind o) fun b ρ1 h1 H1 R1 s1 o1 => ⟨b, rfl, o1 H1 R1 (Stp.refl _ _)⟩
theorem s_neg (ha : PE X x (tE S W (ev C ea))) : PE X (.UnaryOp .USub x pos) (tE S W (ev C (.neg ea))) := by
  refine PE.imp (pe_un un_neg ha) fun σ H Q h => ?_
  obtain ⟨G, rfl, hd, ρ, h, R, oo⟩ := h
  unfold ev at oo
  exact seqI R oo fun i ρ1 h1 H1 R1 s1 o1 => ⟨i, rfl, o1 H1 R1 (Stp.refl _ _) _ (.plain (.int _))⟩
theorem s_nt (ha : PE X x (tE S W (ev C ea))) : PE X (.UnaryOp .Not x pos) (tE S W (ev C (.nt ea))) := by
  refine PE.imp (pe_not ha) fun σ H Q h => ?_
  obtain ⟨G, rfl, hd, ρ, h, R, oo⟩ := h
  unfold ev at oo
  exact seqB R oo fun i ρ1 h1 H1 R1 s1 o1 => ⟨i, rfl, o1 H1 R1 (Stp.refl _ _) _ (.plain (.bl _))⟩
theorem s_ntT (ha : PT X x (tT S W (fun ρ h => asBool (ev C ea ρ h)))) : PT X (.UnaryOp .Not x pos) (tT S W (fun ρ h => asBool (ev C (.nt ea) ρ h))) := by
  refine PT.imp (pt_not ha) fun σ H Q h => ?_
  obtain ⟨G, rfl, hd, ρ, h, R, oo⟩ := h
  unfold ev at oo
  have o2 : Out G W σ hd ρ H ((asBool (ev C ea ρ h)).bind fun b ρ h => .ok (!b) ρ h) (fun p ρ' h' H' => Q p H') := by
    have e : asBool ((asBool (ev C ea ρ h)).bind fun b ρ h => .ok (false, .bool (!b)) ρ h) = (asBool (ev C ea ρ h)).bind fun b ρ h => .ok (!b) ρ h := by
      cases asBool (ev C ea ρ h) <;> rfl
    exact e ▸ oo
  exact seqT (m := fun ρ h => asBool (ev C ea ρ h)) R o2 fun b ρ1 h1 H1 _ R1 s1 o1 => o1 H1 R1 (Stp.refl _ _)
theorem s_chn {o1 o2 : Cop} (ha : PE X x (tE S W (ev C ea))) (hb : PE X y (tE S W (ev C eb))) (hc : PE X z (tE S W (ev C ec))) (hu : X.A.units + 65 < cLine) (hm : lastMarks [opC o1, opC o2] [y, z] = false) :
    PE X (.Compare x [opC o1, opC o2] [y, z] pos) (tE S W (ev C (.chn o1 o2 ea eb ec))) := by
  refine PE.imp (pe_chain (op_cop o1 hu) (op_cop o2 hu) ha hb hc hm) fun σ H Q h => ?_
  obtain ⟨G, rfl, hd, ρ, h, R, oo⟩ := h
  unfold ev at oo
  refine seqI R oo fun i ρ1 h1 H1 R1 s1 o3 => seqI R1 o3 fun j ρ2 h2 H2 R2 s2 o4 => ?_
  obtain ⟨k, e1, o5⟩ := Out.ofO o4
  refine ⟨fun _ => False, _, _, k, .rp (.int i), .rp (.int j), e1, k, rfl, ?_⟩
  cases k with
  | false => exact o5 H2 R2 (Stp.refl _ _) _ (.plain (.bl _))
  | true =>
    refine seqI R2 o5 fun l ρ3 h3 H3 R3 s3 o6 => ?_
    obtain ⟨b, e2, o7⟩ := Out.ofO o6
    exact ⟨fun _ => False, _, _, b, .rp (.int j), .rp (.int l), e2, o7 H3 R3 (Stp.refl _ _) _ (.plain (.bl _))⟩
theorem t_chn {o1 o2 : Cop} (ha : PE X x (tE S W (ev C ea))) (hb : PE X y (tE S W (ev C eb))) (hc : PE X z (tE S W (ev C ec))) (hu : X.A.units + 65 < cLine) (hm : lastMarks [opC o1, opC o2] [y, z] = false) : PT X (.Compare x [opC o1, opC o2] [y, z] pos) (tT S W (fun ρ h => asBool (ev C (.chn o1 o2 ea eb ec) ρ h))) := by
  refine tT_of (fun σ H Q h => ?_) (pt_chain (op_cop o1 hu) (op_cop o2 hu) ha hb hc hm)
  obtain ⟨G, rfl, hd, ρ, h, R, oo⟩ := h
  unfold ev at oo
  refine seqI R oo fun i ρ1 h1 H1 R1 s1 o3 => seqI R1 o3 fun j ρ2 h2 H2 R2 s2 o4 => ?_
  obtain ⟨k, e1, o5⟩ := Out.ofO o4
  refine ⟨fun _ => False, _, _, k, .rp (.int i), .rp (.int j), e1, k, rfl, ?_⟩
  cases k with
  | false => exact o5 H2 R2 (Stp.refl _ _) _ (.plain (.bl _))
  | true =>
    refine seqI R2 o5 fun l ρ3 h3 H3 R3 s3 o6 => ?_
    obtain ⟨b, e2, o7⟩ := Out.ofO o6
    exact ⟨fun _ => False, _, _, b, .rp (.int j), .rp (.int l), e2, o7 H3 R3 (Stp.refl _ _) _ (.plain (.bl _))⟩
theorem s_ife (hc : PT X z (tT S W (fun ρ h => asBool (ev C ec ρ h)))) (ha : PE X x (tE S W (ev C ea))) (hb : PE X y (tE S W (ev C eb))) : PE X (.IfExp z x y pos) (tE S W (ev C (.ife ec ea eb))) := by
  refine PE.imp (pe_ifExp hc ha hb) fun σ H Q h => ?_
  obtain ⟨G, rfl, hd, ρ, h, R, oo⟩ := h
  unfold ev at oo
  refine seqT (m := fun ρ h => asBool (ev C ec ρ h)) R oo fun b ρ1 h1 H1 _ R1 s1 o1 => ?_
  cases b with
  | true => exact ⟨G, rfl, hd, ρ1, h1, R1, o1⟩
  | false => exact ⟨G, rfl, hd, ρ1, h1, R1, o1⟩
/-! is None, is not None, is True .. -/
theorem i_isn (hK : X.K = S.K) {σ : L2.St} {H : Hp} {Q : VK} (h : tE S W (ev C (.isn ea)) σ H Q) : tIsN (tP S W (preOf ea (ev C ea))) σ H Q := by
  obtain ⟨G, rfl, hd, ρ, h, R, oo⟩ := h
  unfold ev at oo
  refine seqP R oo fun p ρ1 h1 v1 H1 _ R1 s1 r1 o1 => ?_
  obtain ⟨d, e1, o3⟩ := Out.ofO o1
  have q := o3 H1 R1 (Stp.refl _ _) (.bl (decide (v1 = .non))) (.plain ?_)
  · exact q
  · have b := R1.bo r1 e1
    have e : isNoneD d = decide (v1 = .non) := by
      cases d with
      | none => rw [b.non]; rfl
      | bool k => rw [b.bl]; rfl
      | int k => rw [b.int]; rfl
      | str k => rw [b.str]; rfl
      | list k => obtain ⟨a, _, e, _⟩ := b.list; rw [e]; rfl
      | tuple k => obtain ⟨a, _, e, _⟩ := b.tuple; rw [e]; rfl
      | dict k => obtain ⟨a, _, e, _⟩ := b.dict; rw [e]; rfl
    rw [← e]
    exact .bl _
theorem s_isn {j : Nat} {p2 : Pos} (ha : PE X x (tP S W (preOf ea (ev C ea)))) (hK : X.K = S.K) : PE X (.Compare x [.Is] [.Constant .none j p2] pos) (tE S W (ev C (.isn ea))) := PE.imp (pe_cmp (pc_isN ha)) fun _ _ _ h => i_isn hK h
theorem t_isn {j : Nat} {p2 : Pos} (ha : PE X x (tP S W (preOf ea (ev C ea)))) (hK : X.K = S.K) : PT X (.Compare x [.Is] [.Constant .none j p2] pos) (tT S W (fun ρ h => asBool (ev C (.isn ea) ρ h))) := tT_of (fun _ _ _ h => i_isn hK h) (pt_cmp (pc_isN ha))
theorem i_isnn (hK : X.K = S.K) {σ : L2.St} {H : Hp} {Q : VK} (h : tE S W (ev C (.isnn ea)) σ H Q) : tNotN (tP S W (preOf ea (ev C ea))) σ H Q := by
  obtain ⟨G, rfl, hd, ρ, h, R, oo⟩ := h
  unfold ev at oo
  refine seqP R oo fun p ρ1 h1 v1 H1 _ R1 s1 r1 o1 => ?_
  obtain ⟨d, e1, o3⟩ := Out.ofO o1
  have q := o3 H1 R1 (Stp.refl _ _) (.bl (!decide (v1 = .non))) (.plain ?_)
  · exact q
  · have b := R1.bo r1 e1
    have e : (!isNoneD d) = !decide (v1 = .non) := by
      cases d with
      | none => rw [b.non]; rfl
      | bool k => rw [b.bl]; rfl
      | int k => rw [b.int]; rfl
      | str k => rw [b.str]; rfl
      | list k => obtain ⟨a, _, e, _⟩ := b.list; rw [e]; rfl
      | tuple k => obtain ⟨a, _, e, _⟩ := b.tuple; rw [e]; rfl
      | dict k => obtain ⟨a, _, e, _⟩ := b.dict; rw [e]; rfl
    rw [← e]
    exact .bl _
theorem s_isnn {j : Nat} {p2 : Pos} (ha : PE X x (tP S W (preOf ea (ev C ea)))) (hK : X.K = S.K) : PE X (.Compare x [.IsNot] [.Constant .none j p2] pos) (tE S W (ev C (.isnn ea))) := PE.imp (pe_cmp (pc_notN ha)) fun _ _ _ h => i_isnn hK h
theorem t_isnn {j : Nat} {p2 : Pos} (ha : PE X x (tP S W (preOf ea (ev C ea)))) (hK : X.K = S.K) : PT X (.Compare x [.IsNot] [.Constant .none j p2] pos) (tT S W (fun ρ h => asBool (ev C (.isnn ea) ρ h))) := tT_of (fun _ _ _ h => i_isnn hK h) (pt_cmp (pc_notN ha))
theorem s_isb {b : Bool} {j : Nat} {p2 : Pos} (ha : PE X x (tE S W (ev C ea))) : PE X (.Compare x [.Is] [.Constant (.bool b) j p2] pos) (tE S W (ev C (.isb ea b))) := by
  refine PE.imp (pe_cmpR op_isBl ha pe_bl rfl) fun σ H Q h => ?_
  obtain ⟨G, rfl, hd, ρ, h, R, oo⟩ := h
  unfold ev at oo
  refine seqB R oo fun c ρ1 h1 H1 R1 s1 o1 => ⟨c, b, rfl, rfl, ?_⟩
  have := o1 H1 R1 (Stp.refl _ _) (.bl (c == b)) (.plain (.bl _))
  have e : (c == b) = decide (c = b) := by cases c <;> cases b <;> rfl
  rw [← e]; exact this
theorem t_isb {b : Bool} {j : Nat} {p2 : Pos} (ha : PE X x (tE S W (ev C ea))) : PT X (.Compare x [.Is] [.Constant (.bool b) j p2] pos) (tT S W (fun ρ h => asBool (ev C (.isb ea b) ρ h))) := by
  refine tT_of (fun σ H Q h => ?_) (pt_cmpR op_isBl ha pe_bl rfl)
  obtain ⟨G, rfl, hd, ρ, h, R, oo⟩ := h
  unfold ev at oo
  refine seqB R oo fun c ρ1 h1 H1 R1 s1 o1 => ⟨c, b, rfl, rfl, ?_⟩
  have := o1 H1 R1 (Stp.refl _ _) (.bl (c == b)) (.plain (.bl _))
  have e : (c == b) = decide (c = b) := by cases c <;> cases b <;> rfl
  rw [← e]; exact this
theorem s_isnb {b : Bool} {j : Nat} {p2 : Pos} (ha : PE X x (tE S W (ev C ea))) : PE X (.Compare x [.IsNot] [.Constant (.bool b) j p2] pos) (tE S W (ev C (.isnb ea b))) := by
  refine PE.imp (pe_cmpR op_notBl ha pe_bl rfl) fun σ H Q h => ?_
  obtain ⟨G, rfl, hd, ρ, h, R, oo⟩ := h
  unfold ev at oo
  refine seqB R oo fun c ρ1 h1 H1 R1 s1 o1 => ⟨c, b, rfl, rfl, ?_⟩
  have := o1 H1 R1 (Stp.refl _ _) (.bl (!(c == b))) (.plain (.bl _))
  have e : (!(c == b)) = !decide (c = b) := by cases c <;> cases b <;> rfl
  rw [← e]; exact this
theorem t_isnb {b : Bool} {j : Nat} {p2 : Pos} (ha : PE X x (tE S W (ev C ea))) : PT X (.Compare x [.IsNot] [.Constant (.bool b) j p2] pos) (tT S W (fun ρ h => asBool (ev C (.isnb ea b) ρ h))) := by
  refine tT_of (fun σ H Q h => ?_) (pt_cmpR op_notBl ha pe_bl rfl)
  obtain ⟨G, rfl, hd, ρ, h, R, oo⟩ := h
  unfold ev at oo
  refine seqB R oo fun c ρ1 h1 H1 R1 s1 o1 => ⟨c, b, rfl, rfl, ?_⟩
  have := o1 H1 R1 (Stp.refl _ _) (.bl (!(c == b))) (.plain (.bl _))
  have e : (!(c == b)) = !decide (c = b) := by cases c <;> cases b <;> rfl
  rw [← e]; exact this
/-! places, slices -/
theorem plainIx {b : Expr} (h : (match b with | .Slice _ _ _ _ => false | _ => true) = true) : PlainIx b := by
  intro o i
  cases b <;> first | rfl | cases h
theorem s_idx (ha : PE X x (tP S W (preOf ea (ev C ea)))) (hb : PE X y (tE S W (ev C eb))) (hK : X.K = S.K) (hs : PlainIx y) : PE X (.Subscript x y pos) (tE S W (ev C (.idx ea eb))) := by
  refine PE.imp (pe_ix ix_idx ha hb hs) fun σ H Q h => ?_
  obtain ⟨G, rfl, hd, ρ, h, R, oo⟩ := h
  unfold ev at oo
  refine seqP R oo fun p ρ1 h1 v1 H1 _ R1 s1 r1 o1 => seqE R1 o1 fun q ρ2 h2 v2 H2 _ R2 s2 r2 o2 => ?_
  obtain ⟨d1, e1, o3⟩ := Out.ofO o2
  obtain ⟨d2, e2, o4⟩ := Out.ofO o3
  exact ⟨G.Z ρ2 σ hd, d1, q.2, d2, by rw [hK]; exact R2.bo (r1.stp s2) e1, by rw [hK]; exact r2.1, e2, fun v r => o4 H2 R2 (Stp.refl _ _) v (.plain (by rw [hK] at r; exact r))⟩
/-- a part of a slice -/
def tO (S : Sx) (W : WX) (m : M (Option Int)) : L2.St → Hp → (Option Int → Hp → Prop) → Prop := fun σ H Q => ∃ G, G.S = S ∧ ∃ hd ρ h, Rel G hd ρ h σ H ∧ Out G W σ hd ρ H (m ρ h) fun p ρ' h' H' => Q p H'
theorem PO.imp {o : Option Expr} {t t' : TO} (p : PO X o t) (h : ∀ σ H Q, t' σ H Q → t σ H Q) : PO X o t' := ⟨fun pins s σ H Q I q => p.run pins s σ H Q I (h σ H Q q)⟩
theorem o_no : PO X none (tO S W (evo C .no)) := by
  refine PO.imp po_none fun σ H Q h => ?_
  obtain ⟨G, rfl, hd, ρ, h, R, oo⟩ := h
  unfold evo at oo
  exact oo H R (Stp.refl _ _)
theorem o_so (ha : PE X x (tE S W (ev C ea))) : PO X (some x) (tO S W (evo C (.so ea))) := by
  refine PO.imp (po_some ha) fun σ H Q h => ?_
  obtain ⟨G, rfl, hd, ρ, h, R, oo⟩ := h
  unfold evo at oo
  exact seqI R oo fun i ρ1 h1 H1 R1 s1 o1 => ⟨i, rfl, o1 H1 R1 (Stp.refl _ _)⟩
theorem seqO {α : Type} {G : Gh} {hd : Option Addr} {ρ : Env} {h : Hand} {σ : L2.St} {H : Hp} {m : M (Option Int)} {f : Option Int → Env → Hand → Rs α} {k : α → Env → Hand → Hp → Prop} (R : Rel G hd ρ h σ H) (o : Out G W σ hd ρ H ((m ρ h).bind f) k) {Q : Option Int → Hp → Prop}
    (hq : ∀ p ρ1 h1 H1, Rel G hd ρ1 h1 σ H1 → Stp (Mo ρ σ hd) H (Mo ρ1 σ hd) H1 → Out G W σ hd ρ1 H1 (f p ρ1 h1) k → Q p H1) : tO G.S W m σ H Q := by
  refine ⟨G, rfl, hd, ρ, h, R, ?_⟩
  cases e : m ρ h with
  | ok p ρ1 h1 =>
    rw [e] at o
    exact fun H1 R1 s1 => hq p ρ1 h1 H1 R1 s1 (Out.from (show Out G W σ hd ρ H (f p ρ1 h1) k from o) s1)
  | exc c ρ1 h1 => rw [e] at o; exact o
  | fail => rw [e] at o; exact o
theorem Rel.bs {G : Gh} {hd : Option Addr} {ρ : Env} {h : Hand} {σ : L2.St} {H : Hp} (R : Rel G hd ρ h σ H) {v : V} {p : Pre} {d : PyData} (x : PreOk G ρ σ hd H v p) (e : getC ρ h p = some d) : Bs G.K H (G.Z ρ σ hd) v d := by
  cases p with
  | val d' => exact .bo (R.bo (p := .val d') x e)
  | sl i =>
    unfold getC at e
    dsimp only at e
    split at e
    · rename_i ds q
      cases e
      obtain ⟨a, xs, e1, f, l, q2⟩ := R.slot i _ q
      rw [show σ[i]? = some (some v) from x] at e1
      cases e1
      exact .scr f l q2
    · exact .bo (R.bo (p := .sl i) x e)
theorem s_slc {lo hi : Option Expr} {el eh : Eo} {p2 : Pos} (ha : PE X x (tP S W (preOf ea (ev C ea)))) (hl : PO X lo (tO S W (evo C el))) (hh : PO X hi (tO S W (evo C eh))) (hK : X.K = S.K) : PE X (.Subscript x (.Slice lo hi none p2) pos) (tE S W (ev C (.slc ea el eh))) := by
  refine PE.imp (pe_slice sl_slc ha hl hh) fun σ H Q h => ?_
  obtain ⟨G, rfl, hd, ρ, h, R, oo⟩ := h
  unfold ev at oo
  refine seqP R oo fun p ρ1 h1 v1 H1 _ R1 s1 r1 o1 => seqO R1 o1 fun l ρ2 h2 H2 R2 s2 o2 => seqO R2 o2 fun u ρ3 h3 H3 R3 s3 o3 => ?_
  obtain ⟨d, e1, o4⟩ := Out.ofO o3
  obtain ⟨z, e2, o5⟩ := Out.ofO1 o4
  exact ⟨G.Z ρ3 σ hd, d, z, by rw [hK]; exact R3.bs ((r1.stp s2).stp s3) e1, e2, fun v H' sm nr => Out.fin R3 o5 sm v (Res.ofNew R3 sm (by rw [hK] at nr; exact nr))⟩
theorem s_rev {k : Nat} {p1 p2 p3 : Pos} (ha : PE X x (tP S W (preOf ea (ev C ea)))) (hK : X.K = S.K) : PE X (.Subscript x (.Slice none none (some (.UnaryOp .USub (.Constant (.int 1) k p1) p2)) p3) pos) (tE S W (ev C (.rev ea))) := by
  refine PE.imp (pe_revK ha) fun σ H Q h => ?_
  obtain ⟨G, rfl, hd, ρ, h, R, oo⟩ := h
  unfold ev at oo
  refine seqP R oo fun p ρ1 h1 v1 H1 _ R1 s1 r1 o1 => ?_
  obtain ⟨d, e1, o3⟩ := Out.ofO o1
  obtain ⟨z, e2, o5⟩ := Out.ofO1 o3
  cases d with
  | list ds =>
    cases e2
    obtain ⟨a, xs, rfl, hH, l, q⟩ := (R1.bo r1 e1).list
    exact .inl ⟨a, xs, rfl, by rw [hK]; exact SqL.of hH, fun p n => Out.fin R1 o5 (same_upd n) _ (Res.ofNew R1 (same_upd n) (NewR.lst n (by rw [List.length_reverse]; exact l) q.reverse))⟩
  | tuple ds =>
    cases e2
    obtain ⟨a, xs, rfl, hH, l, q⟩ := (R1.bo r1 e1).tuple
    exact .inr ⟨a, xs, rfl, by rw [hK]; exact hH, fun p n => Out.fin R1 o5 (same_upd n) _ (Res.ofNew R1 (same_upd n) (NewR.tup n (by rw [List.length_reverse]; exact l) q.reverse))⟩
  | _ => cases e2
theorem s_revt {k k0 : Nat} {p1 p2 p3 q0 : Pos} (ha : PE X x (tP S W (preOf ea (ev C ea)))) (hK : X.K = S.K) : PE X (.Subscript x (.Slice none (some (.Constant (.int 0) k0 q0)) (some (.UnaryOp .USub (.Constant (.int 1) k p1) p2)) p3) pos) (tE S W (ev C (.revt ea))) := by
  refine PE.imp (pe_revT ha) fun σ H Q h => ?_
  obtain ⟨G, rfl, hd, ρ, h, R, oo⟩ := h
  unfold ev at oo
  refine seqP R oo fun p ρ1 h1 v1 H1 _ R1 s1 r1 o1 => ?_
  obtain ⟨d, e1, o3⟩ := Out.ofO o1
  obtain ⟨z, e2, o5⟩ := Out.ofO1 o3
  cases d with
  | tuple ds =>
    cases e2
    obtain ⟨a, xs, rfl, hH, l, q⟩ := (R1.bo r1 e1).tuple
    exact ⟨a, xs, rfl, by rw [hK]; exact hH, fun p n => Out.fin R1 o5 (same_upd n) _ (Res.ofNew R1 (same_upd n) (NewR.tup n (by rw [List.length_reverse, List.length_drop]; exact Nat.le_trans (Nat.sub_le ..) l) (q.drop 1).reverse))⟩
  | _ => cases e2
theorem nosl_of {r : Expr} (h : (match r with | .Slice _ _ _ _ => false | _ => true) = true) : NoSl r := by
  intro o i
  cases r <;> first | rfl | cases h
theorem s_dgt (ha : PE X x (tP S W (preOf ea (ev C ea)))) (hb : PE X y (tE S W (ev C eb))) (hK : X.K = S.K) (hu : X.A.units + 70 < cLine) (hs : NoSl y) : PE X (.Subscript x y pos) (tE S W (ev C (.dgt ea eb))) := by
  refine PE.imp (pe_dget (by omega) ha hb hs) fun σ H Q h => ?_
  obtain ⟨G, rfl, hd, ρ, h, R, oo⟩ := h
  unfold ev at oo
  refine seqP R oo fun p ρ1 h1 v1 H1 _ R1 s1 r1 o1 => seqE R1 o1 fun q ρ2 h2 v2 H2 _ R2 s2 r2 o2 => ?_
  obtain ⟨d, e1, o3⟩ := Out.ofO o2
  obtain ⟨z, e2, o4⟩ := Out.ofO o3
  cases d with
  | dict es =>
    obtain ⟨k, hk, hg⟩ := Option.bind_eq_some_iff.mp (show (keyOf q.2).bind (dget es) = some z from e2)
    obtain ⟨a, kvs, rfl, hH, q1⟩ := (R2.bo (r1.stp s2) e1).dict
    have ek := kV_of r2.1 hk
    subst ek
    rcases q1.get k with ⟨_, g⟩ | ⟨x, e, g1, g2, r⟩
    · rw [g] at hg; cases hg
    · rw [g2] at hg; cases hg
      exact ⟨a, x, rfl, by rw [← g1]; exact DGet.k hH, o4 H2 R2 (Stp.refl _ _) x (.plain r)⟩
  | _ => cases e2
theorem s_skip : PE X x (tE S W (ev C .skip)) := ⟨fun pins s σ H Q I h => by
  obtain ⟨G, rfl, hd, ρ, h, R, oo⟩ := h
  exact oo.elim⟩
theorem t_skip : PT X x (tT S W (fun ρ h => asBool (ev C .skip ρ h))) := ⟨fun pins s σ H Q I h => by
  obtain ⟨G, rfl, hd, ρ, h, R, oo⟩ := h
  exact oo.elim⟩
/-! isinstance -/
theorem s_isi {t : Ty} {p p1 p2 : Pos} {n : Str} (ha : PE X x (tP S W (preOf ea (ev C ea)))) (hK : X.K = S.K) (hg : Gl X "isinstance") (hm : X.mg "isinstance" = none) (hn : PE X (.Name n p2) (tC (.ty (tyN t)))) (hs : notStar x = true) :
    PE X (.Call (.Name "isinstance" p) [x, .Name n p2] [] pos) (tE S W (ev C (.isi ea t))) := by
  refine PE.imp (pe_callB (call_isa t) hg hm (by rfl) (pa_cons ha (pa_cons hn pa_nil) (star_cons hs)) (he := star_cons hs)) fun σ H Q h => ?_
  obtain ⟨G, rfl, hd, ρ, h, R, oo⟩ := h
  unfold ev at oo
  refine seqP R oo fun p ρ1 h1 v1 H1 _ R1 s1 r1 o1 => ?_
  obtain ⟨d, e1, o3⟩ := Out.ofO o1
  exact ⟨G.Z ρ1 σ hd, v1, d, rfl, by rw [hK]; exact R1.bo r1 e1, o3 H1 R1 (Stp.refl _ _) _ (.plain (.bl _))⟩
end
end PyD

/-! PyG: argument lists, displays, built-in functions, and | or, pop; defs and their calls. -/
namespace PyD
open PySem L2 LamX

section
variable {X : Cx} {S : Sx} {W : WX} {C : Cl} {e ea eb ec : E} {es : Es} {x y z : Expr} {xs : List Expr} {pos : Pos}
def tAs (S : Sx) (W : WX) (m : M (List PyData)) : TA := fun σ H Q => ∃ G, G.S = S ∧ ∃ hd ρ h, Rel G hd ρ h σ H ∧ Out G W σ hd ρ H (m ρ h) fun ds ρ' h' H' => ∀ vs, RpA G.K H' (G.Z ρ' σ hd) vs ds → Q vs H'
inductive PreOks (G : Gh) (ρ : Env) (σ : L2.St) (hd : Option Addr) (H : Hp) : List V → List Pre → Prop
  | nil : PreOks G ρ σ hd H [] []
  | cons {v : V} {vs : List V} {p : Pre} {ps : List Pre} : PreOk G ρ σ hd H v p → PreOks G ρ σ hd H vs ps → PreOks G ρ σ hd H (v :: vs) (p :: ps)
def PreAOk (G : Gh) (ρ : Env) (σ : L2.St) (hd : Option Addr) (H : Hp) (v : V) : PreA → Prop
  | .val d => Rp G.K H (G.Z ρ σ hd) v d
  | .sl i => σ[i]? = some (some v)
  | .fn k => v = .ref (G.fa k) ∧ k < G.S.nf
inductive PreAs (G : Gh) (ρ : Env) (σ : L2.St) (hd : Option Addr) (H : Hp) : List V → List PreA → Prop
  | nil : PreAs G ρ σ hd H [] []
  | cons {v : V} {vs : List V} {p : PreA} {ps : List PreA} : PreAOk G ρ σ hd H v p → PreAs G ρ σ hd H vs ps → PreAs G ρ σ hd H (v :: vs) (p :: ps)
def tAp (S : Sx) (W : WX) (m : M (List Pre)) : TA := fun σ H Q => ∃ G, G.S = S ∧ ∃ hd ρ h, Rel G hd ρ h σ H ∧ Out G W σ hd ρ H (m ρ h) fun ds ρ' h' H' => ∀ vs, PreOks G ρ' σ hd H' vs ds → Q vs H'
def tAa (S : Sx) (W : WX) (m : M (List PreA)) : TA := fun σ H Q => ∃ G, G.S = S ∧ ∃ hd ρ h, Rel G hd ρ h σ H ∧ Out G W σ hd ρ H (m ρ h) fun ds ρ' h' H' => ∀ vs, PreAs G ρ' σ hd H' vs ds → Q vs H'
def tA1 (S : Sx) (W : WX) (m : M PreA) : TE := fun σ H Q => ∃ G, G.S = S ∧ ∃ hd ρ h, Rel G hd ρ h σ H ∧ Out G W σ hd ρ H (m ρ h) fun p ρ' h' H' => ∀ v, PreAOk G ρ' σ hd H' v p → Q v H'
section
variable {α : Type} {G : Gh} {hd : Option Addr} {ρ ρ' : Env} {h : Hand} {σ : L2.St} {H H' : Hp}
theorem PreOks.stp {vs : List V} {ps : List Pre} (a : PreOks G ρ σ hd H vs ps) (st : Stp (Mo ρ σ hd) H (Mo ρ' σ hd) H') : PreOks G ρ' σ hd H' vs ps := by
  induction a with
  | nil => exact .nil
  | cons p _ ih => exact .cons (p.stp st) ih
theorem PreAOk.stp {v : V} {p : PreA} (a : PreAOk G ρ σ hd H v p) (st : Stp (Mo ρ σ hd) H (Mo ρ' σ hd) H') : PreAOk G ρ' σ hd H' v p := by
  cases p with
  | val d => exact Rp.stp st a
  | sl i => exact a
  | fn k => exact a
theorem PreAs.stp {vs : List V} {ps : List PreA} (a : PreAs G ρ σ hd H vs ps) (st : Stp (Mo ρ σ hd) H (Mo ρ' σ hd) H') : PreAs G ρ' σ hd H' vs ps := by
  induction a with
  | nil => exact .nil
  | cons p _ ih => exact .cons (p.stp st) ih
theorem seqAs {m : M (List PyData)} {f : List PyData → Env → Hand → Rs α} {k : α → Env → Hand → Hp → Prop} (R : Rel G hd ρ h σ H) (o : Out G W σ hd ρ H ((m ρ h).bind f) k) {Q : List V → Hp → Prop}
    (hq : ∀ ds ρ1 h1 vs H1, Rel G hd ρ1 h1 σ H1 → Stp (Mo ρ σ hd) H (Mo ρ1 σ hd) H1 → RpA G.K H1 (G.Z ρ1 σ hd) vs ds → Out G W σ hd ρ1 H1 (f ds ρ1 h1) k → Q vs H1) : tAs G.S W m σ H Q := by
  refine ⟨G, rfl, hd, ρ, h, R, ?_⟩
  cases e : m ρ h with
  | ok p ρ1 h1 =>
    rw [e] at o
    exact fun H1 R1 s1 v r => hq p ρ1 h1 v H1 R1 s1 r (Out.from (show Out G W σ hd ρ H (f p ρ1 h1) k from o) s1)
  | exc c ρ1 h1 => rw [e] at o; exact o
  | fail => rw [e] at o; exact o
theorem seqAp {m : M (List Pre)} {f : List Pre → Env → Hand → Rs α} {k : α → Env → Hand → Hp → Prop} (R : Rel G hd ρ h σ H) (o : Out G W σ hd ρ H ((m ρ h).bind f) k) {Q : List V → Hp → Prop}
    (hq : ∀ ds ρ1 h1 vs H1, Rel G hd ρ1 h1 σ H1 → Stp (Mo ρ σ hd) H (Mo ρ1 σ hd) H1 → PreOks G ρ1 σ hd H1 vs ds → Out G W σ hd ρ1 H1 (f ds ρ1 h1) k → Q vs H1) : tAp G.S W m σ H Q := by
  refine ⟨G, rfl, hd, ρ, h, R, ?_⟩
  cases e : m ρ h with
  | ok p ρ1 h1 =>
    rw [e] at o
    exact fun H1 R1 s1 v r => hq p ρ1 h1 v H1 R1 s1 r (Out.from (show Out G W σ hd ρ H (f p ρ1 h1) k from o) s1)
  | exc c ρ1 h1 => rw [e] at o; exact o
  | fail => rw [e] at o; exact o
theorem seqAa {m : M (List PreA)} {f : List PreA → Env → Hand → Rs α} {k : α → Env → Hand → Hp → Prop} (R : Rel G hd ρ h σ H) (o : Out G W σ hd ρ H ((m ρ h).bind f) k) {Q : List V → Hp → Prop}
    (hq : ∀ ds ρ1 h1 vs H1, Rel G hd ρ1 h1 σ H1 → Stp (Mo ρ σ hd) H (Mo ρ1 σ hd) H1 → PreAs G ρ1 σ hd H1 vs ds → Out G W σ hd ρ1 H1 (f ds ρ1 h1) k → Q vs H1) : tAa G.S W m σ H Q := by
  refine ⟨G, rfl, hd, ρ, h, R, ?_⟩
  cases e : m ρ h with
  | ok p ρ1 h1 =>
    rw [e] at o
    exact fun H1 R1 s1 v r => hq p ρ1 h1 v H1 R1 s1 r (Out.from (show Out G W σ hd ρ H (f p ρ1 h1) k from o) s1)
  | exc c ρ1 h1 => rw [e] at o; exact o
  | fail => rw [e] at o; exact o
theorem seqA1 {m : M PreA} {f : PreA → Env → Hand → Rs α} {k : α → Env → Hand → Hp → Prop} (R : Rel G hd ρ h σ H) (o : Out G W σ hd ρ H ((m ρ h).bind f) k) {Q : VK}
    (hq : ∀ ds ρ1 h1 vs H1, Rel G hd ρ1 h1 σ H1 → Stp (Mo ρ σ hd) H (Mo ρ1 σ hd) H1 → PreAOk G ρ1 σ hd H1 vs ds → Out G W σ hd ρ1 H1 (f ds ρ1 h1) k → Q vs H1) : tA1 G.S W m σ H Q := by
  refine ⟨G, rfl, hd, ρ, h, R, ?_⟩
  cases e : m ρ h with
  | ok p ρ1 h1 =>
    rw [e] at o
    exact fun H1 R1 s1 v r => hq p ρ1 h1 v H1 R1 s1 r (Out.from (show Out G W σ hd ρ H (f p ρ1 h1) k from o) s1)
  | exc c ρ1 h1 => rw [e] at o; exact o
  | fail => rw [e] at o; exact o
end
/-! lists of values, operands, arguments -/
theorem as_nil : PA X [] (tAs S W (evs C .nil)) := by
  refine PA.imp pa_nil fun σ H Q h => ?_
  obtain ⟨G, rfl, hd, ρ, h, R, oo⟩ := h
  unfold evs at oo
  exact oo H R (Stp.refl _ _) [] .nil
theorem as_cons (ha : PE X x (tE S W (ev C e))) (hr : PA X xs (tAs S W (evs C es))) (hs : notStar x = true) : PA X (x :: xs) (tAs S W (evs C (.cons e es))) := by
  refine PA.imp (pa_cons ha hr (star_cons hs)) fun σ H Q h => ?_
  obtain ⟨G, rfl, hd, ρ, h, R, oo⟩ := h
  unfold evs at oo
  exact seqE R oo fun p ρ1 h1 v1 H1 _ R1 s1 r1 o1 => seqAs R1 o1 fun ds ρ2 h2 vs H2 R2 s2 r2 o2 => o2 H2 R2 (Stp.refl _ _) _ (.cons (Rp.stp s2 r1.1) r2)
theorem ap_nil : PA X [] (tAp S W (evP C .nil)) := by
  refine PA.imp pa_nil fun σ H Q h => ?_
  obtain ⟨G, rfl, hd, ρ, h, R, oo⟩ := h
  unfold evP at oo
  exact oo H R (Stp.refl _ _) [] .nil
theorem ap_cons (ha : PE X x (tP S W (preOf e (ev C e)))) (hr : PA X xs (tAp S W (evP C es))) (hs : notStar x = true) : PA X (x :: xs) (tAp S W (evP C (.cons e es))) := by
  refine PA.imp (pa_cons ha hr (star_cons hs)) fun σ H Q h => ?_
  obtain ⟨G, rfl, hd, ρ, h, R, oo⟩ := h
  unfold evP at oo
  exact seqP R oo fun p ρ1 h1 v1 H1 _ R1 s1 r1 o1 => seqAp R1 o1 fun ds ρ2 h2 vs H2 R2 s2 r2 o2 => o2 H2 R2 (Stp.refl _ _) _ (.cons (r1.stp s2) r2)
theorem aa_nil : PA X [] (tAa S W (evA C .nil)) := by
  refine PA.imp pa_nil fun σ H Q h => ?_
  obtain ⟨G, rfl, hd, ρ, h, R, oo⟩ := h
  unfold evA at oo
  exact oo H R (Stp.refl _ _) [] .nil
theorem aa_cons (ha : PE X x (tA1 S W (argOf e (ev C e)))) (hr : PA X xs (tAa S W (evA C es))) (hs : notStar x = true) : PA X (x :: xs) (tAa S W (evA C (.cons e es))) := by
  refine PA.imp (pa_cons ha hr (star_cons hs)) fun σ H Q h => ?_
  obtain ⟨G, rfl, hd, ρ, h, R, oo⟩ := h
  unfold evA at oo
  exact seqA1 R oo fun p ρ1 h1 v1 H1 R1 s1 r1 o1 => seqAa R1 o1 fun ds ρ2 h2 vs H2 R2 s2 r2 o2 => o2 H2 R2 (Stp.refl _ _) _ (.cons (r1.stp s2) r2)
/-- an argument: of its expression -/
theorem arg_of (hE : (∀ k, e ≠ .fnv k) → PE X x (tE S W (ev C e))) (hv : ∀ i, e = .var i → PE X x (tVar i)) (hf : ∀ k, e = .fnv k → PE X x (tC (.ref (S.fa k))) ∧ k < S.nf) : PE X x (tA1 S W (argOf e (ev C e))) := by
  have gen : (∀ i, e ≠ .var i) → (∀ i, e ≠ .fnv i) → PE X x (tA1 S W (argOf e (ev C e))) := fun hn hn2 => by
    refine PE.imp (hE hn2) fun σ H Q h => ?_
    obtain ⟨G, rfl, hd, ρ, h, R, o⟩ := h
    have em : argOf e (ev C e) ρ h = (ev C e ρ h).bind fun p ρ' h' => .ok (.val p.2) ρ' h' := by
      cases e <;> first | rfl | exact absurd rfl (hn _) | exact absurd rfl (hn2 _)
    rw [em] at o
    exact seqE R o fun p ρ1 h1 v H1 _ R1 s1 r o1 => o1 H1 R1 (Stp.refl _ _) v r.1
  cases e with
  | var i =>
    refine PE.imp (hv i rfl) fun σ H Q h => ?_
    obtain ⟨G, rfl, hd, ρ, h, R, o⟩ := h
    obtain ⟨⟨v, hs⟩, o'⟩ := Out.slR (α := PreA) (β := PreA) R o
    exact ⟨v, hs, o' v hs⟩
  | fnv k =>
    refine PE.imp (hf k rfl).1 fun σ H Q h => ?_
    obtain ⟨G, rfl, hd, ρ, h, R, o⟩ := h
    exact o H R (Stp.refl _ _) _ ⟨rfl, (hf k rfl).2⟩
  | _ => exact gen (fun i z => by cases z) (fun i z => by cases z)
/-! displays -/
def Es.len : Es → Nat
  | .nil => 0
  | .cons _ r => r.len + 1
theorem evs_len : ∀ {es : Es} {ρ h ds ρ' h'}, evs C es ρ h = .ok ds ρ' h' → ds.length = es.len
  | .nil, ρ, h, ds, ρ', h', q => by
    unfold evs at q
    cases q; rfl
  | .cons e r, ρ, h, ds, ρ', h', q => by
    unfold evs at q
    cases q1 : ev C e ρ h with
    | ok p ρ1 h1 =>
      rw [q1] at q
      simp only [bind_ok] at q
      cases q2 : evs C r ρ1 h1 with
      | ok l ρ2 h2 =>
        rw [q2] at q
        cases q
        show l.length + 1 = r.len + 1
        rw [evs_len q2]
      | exc c ρ2 h2 => rw [q2] at q; cases q
      | fail => rw [q2] at q; cases q
    | exc c ρ2 h2 => rw [q1] at q; cases q
    | fail => rw [q1] at q; cases q
theorem s_tup {n : Nat} (ha : PA X xs (tAs S W (evs C es))) (hl : xs.length ≤ 1000) (hx : es.len = xs.length) : PE X (.Tuple xs n pos) (tE S W (ev C (.tup es))) := by
  refine PE.imp (pe_tup ha) fun σ H Q h => ?_
  obtain ⟨G, rfl, hd, ρ, h, R, oo⟩ := h
  unfold ev at oo
  refine ⟨G, rfl, hd, ρ, h, R, ?_⟩
  cases q : evs C es ρ h with
  | ok ds ρ1 h1 =>
    rw [q] at oo
    refine fun H1 R1 s1 vs r => ?_
    have l : vs.length ≤ sizeLine := by rw [r.len, evs_len q, hx]; exact Nat.le_trans hl (by decide)
    exact ⟨l, fun p n => oo _ (R1.same (same_upd n)) (s1.trans (Stp.same (same_upd n))) _ (Res.ofNew R1 (same_upd n) (NewR.tup n l r))⟩
  | exc c ρ1 h1 => rw [q] at oo; exact oo
  | fail => rw [q] at oo; exact oo
theorem s_lst (ha : PA X xs (tAs S W (evs C es))) (hl : xs.length ≤ 1000) (hx : es.len = xs.length) : PE X (.List xs pos) (tE S W (ev C (.lst es))) := by
  refine PE.imp (pe_lst ha) fun σ H Q h => ?_
  obtain ⟨G, rfl, hd, ρ, h, R, oo⟩ := h
  unfold ev at oo
  refine ⟨G, rfl, hd, ρ, h, R, ?_⟩
  cases q : evs C es ρ h with
  | ok ds ρ1 h1 =>
    rw [q] at oo
    refine fun H1 R1 s1 vs r => ?_
    have l : vs.length ≤ sizeLine := by rw [r.len, evs_len q, hx]; exact Nat.le_trans hl (by decide)
    exact ⟨l, fun p n => oo _ (R1.same (same_upd n)) (s1.trans (Stp.same (same_upd n))) _ (Res.ofNew R1 (same_upd n) (NewR.lst n l r))⟩
  | exc c ρ1 h1 => rw [q] at oo; exact oo
  | fail => rw [q] at oo; exact oo
/-! built-in functions -/
theorem Rel.boA {G : Gh} {hd : Option Addr} {ρ : Env} {h : Hand} {σ : L2.St} {H : Hp} (R : Rel G hd ρ h σ H) : ∀ {vs : List V} {ps : List Pre} {ds : List PyData}, PreOks G ρ σ hd H vs ps → getPs ρ h ps = some ds → BoA G.K H (G.Z ρ σ hd) vs ds
  | _, _, _, .nil, e => by
    cases e; exact .nil
  | _, _, ds, .cons (p := p) (ps := ps) a b, e => by
    unfold getPs at e
    cases q1 : getP ρ h p with
    | none => rw [q1] at e; cases e
    | some d =>
      cases q2 : getPs ρ h ps with
      | none => rw [q1, q2] at e; cases e
      | some l =>
        rw [q1, q2] at e
        cases e
        exact .cons (R.bo a q1) (R.boA b q2)
theorem s_bfn {b : Bif} {n : Str} {f : Value} {p : Pos} (hf : opF b = f) (hcall : ∀ {r : List V → Hp → VK → Prop} {t : TA}, CallR X f r → PA X xs t → PE X (.Call (.Name n p) xs [] pos) (tCB r t)) (hc : calmB b = true → X.calm = true) (hu : X.A.units + 70 < cLine) (hgd : X.A.guards = some [])
    (ha : PA X xs (tAp S W (evP C es))) (hK : X.K = S.K) : PE X (.Call (.Name n p) xs [] pos) (tE S W (ev C (.bfn b es))) := by
  refine PE.imp (hcall (hf ▸ cr_bfn b hc hu hgd) ha) fun σ H Q h => ?_
  obtain ⟨G, rfl, hd, ρ, h, R, oo⟩ := h
  unfold ev at oo
  refine seqAp R oo fun ps ρ1 h1 vs H1 R1 s1 r1 o1 => ?_
  obtain ⟨ds, e1, o2⟩ := Out.ofO o1
  obtain ⟨z, e2, o3⟩ := Out.ofO1 o2
  exact ⟨G.Z ρ1 σ hd, ds, z, by rw [hK]; exact R1.boA r1 e1, e2, fun v H' sm nr => Out.fin R1 o3 sm v (Res.ofNew R1 sm (by rw [hK] at nr; exact nr))⟩
/-! and, or -/
theorem evAnd2 {e2 : E} : evAnd C (.cons e (.cons e2 es)) = fun ρ h => (asBool (ev C e ρ h)).bind fun c ρ h => if c then evAnd C (.cons e2 es) ρ h else .ok (false, .bool false) ρ h := by
  rw [evAnd]
  exact fun h => by cases h
theorem evOr2 {e2 : E} : evOr C (.cons e (.cons e2 es)) = fun ρ h => (asBool (ev C e ρ h)).bind fun c ρ h => if c then .ok (false, .bool true) ρ h else evOr C (.cons e2 es) ρ h := by
  rw [evOr]
  exact fun h => by cases h
theorem s_and1 (ha : PE X x (tE S W (ev C e))) : PE X (.BoolOp .And [x] pos) (tE S W (evAnd C (.cons e .nil))) := by
  unfold evAnd
  exact pe_one ha
theorem s_and {e2 : E} (ha : PE X x (tE S W (ev C e))) (hb : PE X (.BoolOp .And (y :: xs) pos) (tE S W (evAnd C (.cons e2 es)))) : PE X (.BoolOp .And (x :: y :: xs) pos) (tE S W (evAnd C (.cons e (.cons e2 es)))) := by
  refine PE.imp (pe_and ha hb) fun σ H Q h => ?_
  obtain ⟨G, rfl, hd, ρ, h, R, oo⟩ := h
  rw [evAnd2] at oo
  refine seqB R oo fun c ρ1 h1 H1 R1 s1 o1 => ⟨c, rfl, ?_⟩
  cases c with
  | true => exact ⟨G, rfl, hd, ρ1, h1, R1, o1⟩
  | false => exact o1 H1 R1 (Stp.refl _ _) _ (.plain (.bl _))
theorem s_or1 (ha : PE X x (tE S W (ev C e))) : PE X (.BoolOp .Or [x] pos) (tE S W (evOr C (.cons e .nil))) := by
  unfold evOr
  exact pe_one ha
theorem s_or {e2 : E} (ha : PE X x (tE S W (ev C e))) (hb : PE X (.BoolOp .Or (y :: xs) pos) (tE S W (evOr C (.cons e2 es)))) : PE X (.BoolOp .Or (x :: y :: xs) pos) (tE S W (evOr C (.cons e (.cons e2 es)))) := by
  refine PE.imp (pe_or ha hb) fun σ H Q h => ?_
  obtain ⟨G, rfl, hd, ρ, h, R, oo⟩ := h
  rw [evOr2] at oo
  refine seqB R oo fun c ρ1 h1 H1 R1 s1 o1 => ⟨c, rfl, ?_⟩
  cases c with
  | false => exact ⟨G, rfl, hd, ρ1, h1, R1, o1⟩
  | true => exact o1 H1 R1 (Stp.refl _ _) _ (.plain (.bl _))
theorem w_and1 (ha : PT X x (tT S W (fun ρ h => asBool (ev C e ρ h)))) : PW X (.BoolOp .And [x] pos) (tT S W (fun ρ h => asBool (evAnd C (.cons e .nil) ρ h))) := by
  unfold evAnd
  exact pw_and1 ha
theorem w_and {e2 : E} (ha : PT X x (tT S W (fun ρ h => asBool (ev C e ρ h)))) (hb : PW X (.BoolOp .And (y :: xs) pos) (tT S W (fun ρ h => asBool (evAnd C (.cons e2 es) ρ h)))) : PW X (.BoolOp .And (x :: y :: xs) pos) (tT S W (fun ρ h => asBool (evAnd C (.cons e (.cons e2 es)) ρ h))) := by
  refine PW.imp (pw_and ha hb) fun σ H Q h => ?_
  obtain ⟨G, rfl, hd, ρ, h, R, oo⟩ := h
  have o2 : Out G W σ hd ρ H ((asBool (ev C e ρ h)).bind fun c ρ h => if c then asBool (evAnd C (.cons e2 es) ρ h) else .ok false ρ h) (fun p ρ' h' H' => Q p H') := by
    have e0 : asBool (evAnd C (.cons e (.cons e2 es)) ρ h) = (asBool (ev C e ρ h)).bind fun c ρ h => if c then asBool (evAnd C (.cons e2 es) ρ h) else .ok false ρ h := by
      rw [evAnd2]
      show asBool ((asBool (ev C e ρ h)).bind _) = _
      cases asBool (ev C e ρ h) with
      | ok c ρ1 h1 => cases c <;> rfl
      | exc c ρ1 h1 => rfl
      | fail => rfl
    exact e0 ▸ oo
  refine seqT (m := fun ρ h => asBool (ev C e ρ h)) R o2 fun b ρ1 h1 H1 _ R1 s1 o1 => ?_
  cases b with
  | true => exact ⟨G, rfl, hd, ρ1, h1, R1, o1⟩
  | false => exact o1 H1 R1 (Stp.refl _ _)
theorem w_or1 (ha : PT X x (tT S W (fun ρ h => asBool (ev C e ρ h)))) : PW X (.BoolOp .Or [x] pos) (tT S W (fun ρ h => asBool (evOr C (.cons e .nil) ρ h))) := by
  unfold evOr
  exact pw_or1 ha
theorem w_or {e2 : E} (ha : PT X x (tT S W (fun ρ h => asBool (ev C e ρ h)))) (hb : PW X (.BoolOp .Or (y :: xs) pos) (tT S W (fun ρ h => asBool (evOr C (.cons e2 es) ρ h)))) : PW X (.BoolOp .Or (x :: y :: xs) pos) (tT S W (fun ρ h => asBool (evOr C (.cons e (.cons e2 es)) ρ h))) := by
  refine PW.imp (pw_or ha hb) fun σ H Q h => ?_
  obtain ⟨G, rfl, hd, ρ, h, R, oo⟩ := h
  have o2 : Out G W σ hd ρ H ((asBool (ev C e ρ h)).bind fun c ρ h => if c then .ok true ρ h else asBool (evOr C (.cons e2 es) ρ h)) (fun p ρ' h' H' => Q p H') := by
    have e0 : asBool (evOr C (.cons e (.cons e2 es)) ρ h) = (asBool (ev C e ρ h)).bind fun c ρ h => if c then .ok true ρ h else asBool (evOr C (.cons e2 es) ρ h) := by
      rw [evOr2]
      show asBool ((asBool (ev C e ρ h)).bind _) = _
      cases asBool (ev C e ρ h) with
      | ok c ρ1 h1 => cases c <;> rfl
      | exc c ρ1 h1 => rfl
      | fail => rfl
    exact e0 ▸ oo
  refine seqT (m := fun ρ h => asBool (ev C e ρ h)) R o2 fun b ρ1 h1 H1 _ R1 s1 o1 => ?_
  cases b with
  | false => exact ⟨G, rfl, hd, ρ1, h1, R1, o1⟩
  | true => exact o1 H1 R1 (Stp.refl _ _)
end
end PyD

/-! PyH: lists of one's own and the hand are changed; names are stored. -/
namespace PyD
open PySem L2 LamX
section
variable {G : Gh} {hd : Option Addr} {ρ : Env} {h : Hand} {σ : L2.St} {H : Hp}
theorem tabs_upd {T : List (Addr × Str)} {l : Addr} {xs ys : List V} (t : Tabs T H) (e : H l = some (.lst xs)) : Tabs T (upd H l (.lst ys)) := fun p hp => by
  obtain ⟨ps, h1, h2, h3⟩ := t p hp
  refine ⟨ps, ?_, h2, fun pos cv hc => ?_⟩
  · rw [upd_ne (ne_of h1 e (by intro z; cases z))]; exact h1
  · obtain ⟨c, e1, e2⟩ := h3 pos cv hc
    refine ⟨c, e1, ?_⟩
    rw [upd_ne (ne_of e2 e (by intro z; unfold CodeO at z; cases z))]; exact e2
theorem upd_stp {M : Addr → Prop} {l : Addr} {xs ys : List V} (hl : M l) (e : H l = some (.lst xs)) : Stp M H M (upd H l (.lst ys)) where
  keep := fun a o ea n _ => by rw [upd_ne (fun z => n (by rw [z]; exact hl))]; exact ea
  own := fun a m => .inl m
  there := fun a n => by
    by_cases z : a = l
    · subst z; rw [upd_same] at n; cases n
    · rw [upd_ne z] at n; exact n
  tups := fun a xs ea => by rw [upd_ne (ne_of ea e (by intro z; cases z))]; exact ea
  frzs := fun a o u ea => by rw [upd_ne (ne_of ea e (by intro z; cases z))]; exact ea
theorem SlotOk.upd {Mx : Addr → Prop} {l : Addr} {xs ys : List V} (hl : Mx l) (e : H l = some (.lst xs)) {s : Sl} {x : Option (Option V)} (hne : ∀ d a, s = .own d → x = some (some (.ref a)) → a ≠ l) (so : SlotOk G H Mx hd s x) : SlotOk G (L2.upd H l (.lst ys)) Mx hd s x := by
  have st := upd_stp (M := Mx) (ys := ys) hl e
  have hk : ∀ a o, H a = some o → ¬ (G.Zc a ∨ Mx a) → (∀ ps, o ≠ .tbl ps) → L2.upd H l (.lst ys) a = some o := fun a o ea n t => st.keep a o ea (fun z => n (.inr z)) t
  cases s with
  | non => trivial
  | sh d =>
    obtain ⟨v, e1, r⟩ := so
    exact ⟨v, e1, r.mv hk (fun _ _ z => z) st.tups st.frzs⟩
  | own d =>
    obtain ⟨a, e1, r, n0⟩ := so
    exact ⟨a, e1, r.mv (fun o ea _ _ => by rw [upd_ne (hne d a rfl e1)]; exact ea) hk (fun _ _ z => z) st.tups st.frzs, n0⟩
  | bor d =>
    obtain ⟨a, e1, r, nm, az⟩ := so
    exact ⟨a, e1, r.mv (fun o ea t _ => st.keep a o ea nm t) hk (fun _ _ z => z) st.tups st.frzs, nm, az⟩
  | fn k => exact so
  | hnd => exact so
  | exc c => exact so
  | scr ds =>
    obtain ⟨a, ys, e1, f, l, q⟩ := so
    exact ⟨a, ys, e1, f.mv st.frzs, l, q.mv hk (fun _ _ z => z) st.tups st.frzs⟩
/-- a list of one's own is changed -/
theorem Rel.updOwn (R : Rel G hd ρ h σ H) {i : Nat} {ds ds' : List PyData} {l : Addr} {xs ys : List V} (ei : ρ[i]? = some (.own (.list ds))) (es : σ[i]? = some (some (.ref l))) (e : H l = some (.lst xs)) (hl : ys.length ≤ sizeLine) (q : RpA G.K H (G.Z ρ σ hd) ys ds') :
    Rel G hd (ρ.set i (.own (.list ds'))) h σ (L2.upd H l (.lst ys)) ∧ Stp (Mo ρ σ hd) H (Mo (ρ.set i (.own (.list ds'))) σ hd) (L2.upd H l (.lst ys)) := by
  have hMl : Mo ρ σ hd l := .inr ⟨i, _, ei, es⟩
  have hM : ∀ a, Mo (ρ.set i (.own (.list ds'))) σ hd a → Mo ρ σ hd a := fun a m => by
    rcases m with m | ⟨j, d, e1, e2⟩
    · exact .inl m
    · by_cases hj : i = j
      · subst hj; exact .inr ⟨i, _, ei, e2⟩
      · rw [List.getElem?_set_ne hj] at e1; exact .inr ⟨j, d, e1, e2⟩
  have hM2 : ∀ a, Mo ρ σ hd a → Mo (ρ.set i (.own (.list ds'))) σ hd a := fun a m => by
    rcases m with m | ⟨j, d, e1, e2⟩
    · exact .inl m
    · by_cases hj : i = j
      · subst hj; exact .inr ⟨i, _, List.getElem?_set_self (slot_lt ei), e2⟩
      · exact .inr ⟨j, d, by rw [List.getElem?_set_ne hj]; exact e1, e2⟩
  have eM : Mo (ρ.set i (.own (.list ds'))) σ hd = Mo ρ σ hd := by
    funext a; exact propext ⟨hM a, hM2 a⟩
  have st := upd_stp (M := Mo ρ σ hd) (ys := ys) hMl e
  obtain ⟨a0, ea0, r0, n0, nz0, nh0⟩ := R.slot i _ ei
  rw [es] at ea0; cases ea0
  have qn : RpA G.K (L2.upd H l (.lst ys)) (G.Z ρ σ hd) ys ds' := RpA.stp st q
  refine ⟨⟨by rw [List.length_set]; exact R.len, fun j s ej => ?_, fun j k d1 d2 b e1 e2 e3 e4 => ?_, ?_, ?_, R.hd0, tabs_upd R.tabs e, fun a z n => R.zdom a z (st.there a n), R.bz⟩, by rw [eM]; exact st⟩
  · rw [eM]
    by_cases hj : i = j
    · subst hj
      rw [List.getElem?_set_self (slot_lt ei)] at ej
      cases ej
      exact ⟨l, es, .lst upd_same hl qn, n0, nz0, nh0⟩
    · rw [List.getElem?_set_ne hj] at ej
      exact (R.slot j s ej).upd hMl e fun d a es2 ea z => hj (R.uniq i j _ d l ei (by rw [ej, es2]) es (by rw [ea, z]))
  · have f : ∀ {k : Nat} {d : PyData}, (ρ.set i (.own (.list ds')))[k]? = some (.own d) → ∃ d, ρ[k]? = some (.own d) := fun {k d'} q => by
      by_cases hk : i = k
      · subst hk; exact ⟨_, ei⟩
      · rw [List.getElem?_set_ne hk] at q; exact ⟨_, q⟩
    obtain ⟨d1', f1⟩ := f e1
    obtain ⟨d2', f2⟩ := f e2
    exact R.uniq j k d1' d2' b f1 f2 e3 e4
  · rw [eM]
    have hh := R.hnd
    cases h with
    | none => exact hh
    | some hs =>
      obtain ⟨b, e1, zs, e2, l2, q2⟩ := hh
      exact ⟨b, e1, zs, by rw [upd_ne (fun z => nh0 (by rw [← z]; exact e1))]; exact e2, l2, RpA.stp st q2⟩
  · rw [eM]; exact R.stp.trans st
theorem tabs_updK {T : List (Addr × Str)} {l : Addr} {xs ys : List (Key × V)} (t : Tabs T H) (e : H l = some (.dK xs)) : Tabs T (upd H l (.dK ys)) := fun p hp => by
  obtain ⟨ps, h1, h2, h3⟩ := t p hp
  refine ⟨ps, ?_, h2, fun pos cv hc => ?_⟩
  · rw [upd_ne (ne_of h1 e (by intro z; cases z))]; exact h1
  · obtain ⟨c, e1, e2⟩ := h3 pos cv hc
    refine ⟨c, e1, ?_⟩
    rw [upd_ne (ne_of e2 e (by intro z; unfold CodeO at z; cases z))]; exact e2
theorem updK_stp {M : Addr → Prop} {l : Addr} {xs ys : List (Key × V)} (hl : M l) (e : H l = some (.dK xs)) : Stp M H M (upd H l (.dK ys)) where
  keep := fun a o ea n _ => by rw [upd_ne (fun z => n (by rw [z]; exact hl))]; exact ea
  own := fun a m => .inl m
  there := fun a n => by
    by_cases z : a = l
    · subst z; rw [upd_same] at n; cases n
    · rw [upd_ne z] at n; exact n
  tups := fun a xs ea => by rw [upd_ne (ne_of ea e (by intro z; cases z))]; exact ea
  frzs := fun a o u ea => by rw [upd_ne (ne_of ea e (by intro z; cases z))]; exact ea
theorem SlotOk.updK {Mx : Addr → Prop} {l : Addr} {xs ys : List (Key × V)} (hl : Mx l) (e : H l = some (.dK xs)) {s : Sl} {x : Option (Option V)} (hne : ∀ d a, s = .own d → x = some (some (.ref a)) → a ≠ l) (so : SlotOk G H Mx hd s x) : SlotOk G (L2.upd H l (.dK ys)) Mx hd s x := by
  have st := updK_stp (M := Mx) (ys := ys) hl e
  have hk : ∀ a o, H a = some o → ¬ (G.Zc a ∨ Mx a) → (∀ ps, o ≠ .tbl ps) → L2.upd H l (.dK ys) a = some o := fun a o ea n t => st.keep a o ea (fun z => n (.inr z)) t
  cases s with
  | non => trivial
  | sh d =>
    obtain ⟨v, e1, r⟩ := so
    exact ⟨v, e1, r.mv hk (fun _ _ z => z) st.tups st.frzs⟩
  | own d =>
    obtain ⟨a, e1, r, n0⟩ := so
    exact ⟨a, e1, r.mv (fun o ea _ _ => by rw [upd_ne (hne d a rfl e1)]; exact ea) hk (fun _ _ z => z) st.tups st.frzs, n0⟩
  | bor d =>
    obtain ⟨a, e1, r, nm, az⟩ := so
    exact ⟨a, e1, r.mv (fun o ea t _ => st.keep a o ea nm t) hk (fun _ _ z => z) st.tups st.frzs, nm, az⟩
  | fn k => exact so
  | hnd => exact so
  | exc c => exact so
  | scr ds =>
    obtain ⟨a, zs, e1, f, l, q⟩ := so
    exact ⟨a, zs, e1, f.mv st.frzs, l, q.mv hk (fun _ _ z => z) st.tups st.frzs⟩
/-- a dict of one's own is changed -/
theorem Rel.updOwnK (R : Rel G hd ρ h σ H) {i : Nat} {ds ds' : List (PyData × PyData)} {l : Addr} {xs ys : List (Key × V)} (ei : ρ[i]? = some (.own (.dict ds))) (es : σ[i]? = some (some (.ref l))) (e : H l = some (.dK xs)) (q : RpK G.K H (G.Z ρ σ hd) ys ds') :
    Rel G hd (ρ.set i (.own (.dict ds'))) h σ (L2.upd H l (.dK ys)) ∧ Stp (Mo ρ σ hd) H (Mo (ρ.set i (.own (.dict ds'))) σ hd) (L2.upd H l (.dK ys)) := by
  have hMl : Mo ρ σ hd l := .inr ⟨i, _, ei, es⟩
  have hM : ∀ a, Mo (ρ.set i (.own (.dict ds'))) σ hd a → Mo ρ σ hd a := fun a m => by
    rcases m with m | ⟨j, d, e1, e2⟩
    · exact .inl m
    · by_cases hj : i = j
      · subst hj; exact .inr ⟨i, _, ei, e2⟩
      · rw [List.getElem?_set_ne hj] at e1; exact .inr ⟨j, d, e1, e2⟩
  have hM2 : ∀ a, Mo ρ σ hd a → Mo (ρ.set i (.own (.dict ds'))) σ hd a := fun a m => by
    rcases m with m | ⟨j, d, e1, e2⟩
    · exact .inl m
    · by_cases hj : i = j
      · subst hj; exact .inr ⟨i, _, List.getElem?_set_self (slot_lt ei), e2⟩
      · exact .inr ⟨j, d, by rw [List.getElem?_set_ne hj]; exact e1, e2⟩
  have eM : Mo (ρ.set i (.own (.dict ds'))) σ hd = Mo ρ σ hd := by
    funext a; exact propext ⟨hM a, hM2 a⟩
  have st := updK_stp (M := Mo ρ σ hd) (ys := ys) hMl e
  obtain ⟨a0, ea0, r0, n0, nz0, nh0⟩ := R.slot i _ ei
  rw [es] at ea0; cases ea0
  have qn : RpK G.K (L2.upd H l (.dK ys)) (G.Z ρ σ hd) ys ds' := RpK.stp st q
  refine ⟨⟨by rw [List.length_set]; exact R.len, fun j s ej => ?_, fun j k d1 d2 b e1 e2 e3 e4 => ?_, ?_, ?_, R.hd0, tabs_updK R.tabs e, fun a z n => R.zdom a z (st.there a n), R.bz⟩, by rw [eM]; exact st⟩
  · rw [eM]
    by_cases hj : i = j
    · subst hj
      rw [List.getElem?_set_self (slot_lt ei)] at ej
      cases ej
      exact ⟨l, es, .dic upd_same qn, n0, nz0, nh0⟩
    · rw [List.getElem?_set_ne hj] at ej
      exact (R.slot j s ej).updK hMl e fun d a es2 ea z => hj (R.uniq i j _ d l ei (by rw [ej, es2]) es (by rw [ea, z]))
  · have f : ∀ {k : Nat} {d : PyData}, (ρ.set i (.own (.dict ds')))[k]? = some (.own d) → ∃ d, ρ[k]? = some (.own d) := fun {k d'} q => by
      by_cases hk : i = k
      · subst hk; exact ⟨_, ei⟩
      · rw [List.getElem?_set_ne hk] at q; exact ⟨_, q⟩
    obtain ⟨d1', f1⟩ := f e1
    obtain ⟨d2', f2⟩ := f e2
    exact R.uniq j k d1' d2' b f1 f2 e3 e4
  · rw [eM]
    have hh := R.hnd
    cases h with
    | none => exact hh
    | some hs =>
      obtain ⟨b, e1, zs, e2, l2, q2⟩ := hh
      exact ⟨b, e1, zs, by rw [upd_ne (fun z => nh0 (by rw [← z]; exact e1))]; exact e2, l2, RpA.stp st q2⟩
  · rw [eM]; exact R.stp.trans st
/-- the hand is changed -/
theorem Rel.updHnd {hs hs' : List PyData} (R : Rel G hd ρ (some hs) σ H) {l : Addr} {xs ys : List V} (eh : hd = some l) (e : H l = some (.lst xs)) (hl : ys.length ≤ sizeLine) (q : RpA G.K H (G.Z ρ σ hd) ys hs') :
    Rel G hd ρ (some hs') σ (L2.upd H l (.lst ys)) ∧ Stp (Mo ρ σ hd) H (Mo ρ σ hd) (L2.upd H l (.lst ys)) := by
  have hMl : Mo ρ σ hd l := .inl eh
  have st := upd_stp (M := Mo ρ σ hd) (ys := ys) hMl e
  have qn : RpA G.K (L2.upd H l (.lst ys)) (G.Z ρ σ hd) ys hs' := RpA.stp st q
  refine ⟨⟨R.len, fun j s ej => ?_, R.uniq, ⟨l, eh, ys, upd_same, hl, qn⟩, R.stp.trans st, R.hd0, tabs_upd R.tabs e, fun a z n => R.zdom a z (st.there a n), R.bz⟩, st⟩
  refine (R.slot j s ej).upd hMl e fun d a es2 ea z => ?_
  subst es2
  obtain ⟨b, e1, _, _, _, nh⟩ := R.slot j _ ej
  rw [ea] at e1; cases e1
  exact nh (by rw [z]; exact eh)
/-! stores -/
theorem Mo.store {i : Nat} {s : Sl} {v : Option V} (hs : ∀ d, s ≠ .own d) {a : Addr} (m : Mo (ρ.set i s) (σ.set i v) hd a) : Mo ρ σ hd a := by
  rcases m with m | ⟨j, d, e1, e2⟩
  · exact .inl m
  · by_cases hj : i = j
    · subst hj
      by_cases hl : i < ρ.length
      · rw [List.getElem?_set_self hl] at e1
        exact absurd (Option.some.inj e1) (hs d)
      · rw [List.getElem?_eq_none (by rw [List.length_set]; omega)] at e1; cases e1
    · rw [List.getElem?_set_ne hj] at e1 e2
      exact .inr ⟨j, d, e1, e2⟩
/-- a value that is not one's own is stored -/
theorem Rel.store (R : Rel G hd ρ h σ H) {i : Nat} {s : Sl} {v : Option V} (hs : ∀ d, s ≠ .own d) (hv : i < ρ.length → SlotOk G H (Mo (ρ.set i s) (σ.set i v) hd) hd s (some v)) : Rel G hd (ρ.set i s) h (σ.set i v) H := by
  have hM : ∀ a, Mo (ρ.set i s) (σ.set i v) hd a → Mo ρ σ hd a := fun a m => Mo.store hs m
  have f : ∀ {k : Nat} {d : PyData}, (ρ.set i s)[k]? = some (.own d) → ρ[k]? = some (.own d) ∧ i ≠ k := fun {k d} q => by
    by_cases hk : i = k
    · subst hk
      by_cases hl : i < ρ.length
      · rw [List.getElem?_set_self hl] at q; exact absurd (Option.some.inj q) (hs d)
      · rw [List.getElem?_eq_none (by rw [List.length_set]; omega)] at q; cases q
    · rw [List.getElem?_set_ne hk] at q; exact ⟨q, hk⟩
  refine ⟨by rw [List.length_set, List.length_set]; exact R.len, fun j t ej => ?_, fun j k d1 d2 b e1 e2 e3 e4 => ?_, ?_, R.stp.trans (Stp.lessM hM), R.hd0, R.tabs, R.zdom, R.bz⟩
  · by_cases hj : i = j
    · subst hj
      by_cases hl : i < ρ.length
      · rw [List.getElem?_set_self hl] at ej
        cases ej
        rw [List.getElem?_set_self (by rw [R.len]; exact hl)]
        exact hv hl
      · rw [List.getElem?_eq_none (by rw [List.length_set]; omega)] at ej; cases ej
    · rw [List.getElem?_set_ne hj] at ej
      rw [List.getElem?_set_ne hj]
      exact (R.slot j t ej).mv rfl rfl rfl rfl (fun a o e1 _ _ => e1) (fun a z => .inl z) (fun _ _ z => z) rfl (fun b _ z => hM b z) (fun a xs e1 => e1) fun a o u e1 => e1
  · obtain ⟨f1, g1⟩ := f e1
    obtain ⟨f2, g2⟩ := f e2
    rw [List.getElem?_set_ne g1] at e3
    rw [List.getElem?_set_ne g2] at e4
    exact R.uniq j k d1 d2 b f1 f2 e3 e4
  · exact R.hnd.mv (fun a o e1 _ _ => e1) (fun a o e1 _ _ => e1) (fun b _ z => z.imp id (hM b)) (fun a xs e1 => e1) fun a o u e1 => e1
theorem Rel.storeSh (R : Rel G hd ρ h σ H) {i : Nat} {v : V} {d : PyData} (r : Rp G.K H (G.Z ρ σ hd) v d) : Rel G hd (ρ.set i (.sh d)) h (σ.set i (some v)) H :=
  R.store (fun _ z => by cases z) fun _ => ⟨v, rfl, r.anti fun a z => z.imp id fun m => Mo.store (fun _ z => by cases z) m⟩
/-- a new list is stored as one's own -/
theorem Rel.storeOwn {i : Nat} {a : Addr} {d : PyData} (R0 : Rel G hd ρ h σ H) (R : Rel (G.plus a) hd ρ h σ H) (n0 : G.M0 a ∨ G.H0 a = none) (nz : ¬ G.Z ρ σ hd a) (r : Root G.K H ((G.plus a).Z ρ σ hd) a d) : Rel G hd (ρ.set i (.own d)) h (σ.set i (some (.ref a))) H := by
  have hM : ∀ b, Mo (ρ.set i (.own d)) (σ.set i (some (.ref a))) hd b → Mo ρ σ hd b ∨ b = a := fun b m => by
    rcases m with m | ⟨j, d', e1, e2⟩
    · exact .inl (.inl m)
    · by_cases hj : i = j
      · subst hj
        by_cases hl : i < ρ.length
        · rw [List.getElem?_set_self (by rw [R.len]; exact hl)] at e2
          cases e2; exact .inr rfl
        · rw [List.getElem?_eq_none (by rw [List.length_set]; omega)] at e1; cases e1
      · rw [List.getElem?_set_ne hj] at e1 e2
        exact .inl (.inr ⟨j, d', e1, e2⟩)
  have hz : ∀ b, G.Z (ρ.set i (.own d)) (σ.set i (some (.ref a))) hd b → (G.plus a).Z ρ σ hd b := fun b z => by
    rcases z with z | z
    · exact .inl (.inl z)
    · exact (hM b z).elim .inr fun e => .inl (.inr e)
  have nM : ¬ Mo ρ σ hd a := fun z => nz (.inr z)
  have ownA : ∀ (j : Nat) (d' : PyData) (b : Addr), i ≠ j → ρ[j]? = some (.own d') → σ[j]? = some (some (.ref b)) → b ≠ a := fun j d' b _ e1 e2 z => nM (.inr ⟨j, d', e1, by rw [← z]; exact e2⟩)
  refine ⟨by rw [List.length_set, List.length_set]; exact R.len, fun j t ej => ?_, fun j k d1 d2 b e1 e2 e3 e4 => ?_, ?_, ?_, R.hd0, R.tabs, fun b z => R.zdom b (.inl z), R0.bz⟩
  · by_cases hj : i = j
    · subst hj
      by_cases hl : i < ρ.length
      · rw [List.getElem?_set_self hl] at ej
        cases ej
        rw [List.getElem?_set_self (by rw [R.len]; exact hl)]
        exact ⟨a, rfl, r.mv (fun _ e _ _ => e) (fun _ _ e _ _ => e) (fun b _ z => hz b z) (fun _ _ e => e) (fun _ _ _ e => e), n0, fun z => nz (.inl z), fun z => nz (.inr (.inl z))⟩
      · rw [List.getElem?_eq_none (by rw [List.length_set]; omega)] at ej; cases ej
    · rw [List.getElem?_set_ne hj] at ej
      rw [List.getElem?_set_ne hj]
      have so := R.slot j t ej
      -- from plus a to M with a
      cases t with
      | non => trivial
      | sh d' =>
        obtain ⟨v, e1, q⟩ := so
        exact ⟨v, e1, q.anti hz⟩
      | own d' =>
        obtain ⟨b, e1, q, m0, mz, mh⟩ := so
        exact ⟨b, e1, q.mv (fun _ e _ _ => e) (fun _ _ e _ _ => e) (fun b _ z => hz b z) (fun _ _ e => e) (fun _ _ _ e => e), m0, fun z => mz (.inl z), mh⟩
      | bor d' =>
        obtain ⟨b, e1, q, nm, _⟩ := so
        obtain ⟨b', e1', _, _, az⟩ := R0.slot j _ ej
        rw [e1] at e1'; cases e1'
        have nb : b ≠ a := fun z => nz (.inl (by rw [← z]; exact R0.bz _ az))
        exact ⟨b, e1, q.mv (fun _ e _ _ => e) (fun _ _ e _ _ => e) (fun b _ z => hz b z) (fun _ _ e => e) (fun _ _ _ e => e), fun z => (hM b z).elim nm nb, az⟩
      | fn k => exact so
      | hnd => exact so
      | exc c => exact so
      | scr ds =>
        obtain ⟨b, ys, e1, f, l, q⟩ := so
        exact ⟨b, ys, e1, f, l, q.anti hz⟩
  · by_cases hj : i = j
    · by_cases hk : i = k
      · exact hj.symm.trans hk
      · subst hj
        have hl : i < ρ.length := by
          by_cases hl : i < ρ.length
          · exact hl
          · rw [List.getElem?_eq_none (by rw [List.length_set]; omega)] at e1; cases e1
        rw [List.getElem?_set_self (by rw [R.len]; exact hl)] at e3
        cases e3
        rw [List.getElem?_set_ne hk] at e2 e4
        exact absurd rfl (ownA k d2 a hk e2 e4)
    · rw [List.getElem?_set_ne hj] at e1 e3
      by_cases hk : i = k
      · subst hk
        have hl : i < ρ.length := by
          by_cases hl : i < ρ.length
          · exact hl
          · rw [List.getElem?_eq_none (by rw [List.length_set]; omega)] at e2; cases e2
        rw [List.getElem?_set_self (by rw [R.len]; exact hl)] at e4
        cases e4
        exact absurd rfl (ownA j d1 a hj e1 e3)
      · rw [List.getElem?_set_ne hk] at e2 e4
        exact R.uniq j k d1 d2 b e1 e2 e3 e4
  · exact HndOk.mv (Z := (G.plus a).Z ρ σ hd) (fun a o e1 _ _ => e1) (fun a o e1 _ _ => e1) (fun b _ z => hz b z) (fun a xs e1 => e1) (fun a o u e1 => e1) R.hnd
  · exact ⟨R0.stp.keep, fun b m => (hM b m).elim (R0.stp.own b) fun e => by rw [e]; exact n0, R0.stp.there, R0.stp.tups, R0.stp.frzs⟩
end
end PyD

/-! PyI: defs and their calls. -/
namespace PyD
open PySem L2 LamX

/-- a def's promise where nothing is being shown (repr) -/
structure FnG (P : Program) (w : World) (K : PySem.W.Frag) (mg : Str → Option Value) (base : Heap) (k : Nat) (f : Addr) (fd : FuncData) (ps : List Str) (sp : Sp) : Prop where
  len : ∀ vs H Q E, sp vs H Q E → vs.length = ps.length
  run : ∀ (A : Around) (outer : List PySem.Env) (s : Shared) (H : Hp) (args : Args) (us : List Value) (vs : List V) (Q : VK) (E : XK), A.guards = some [] → Room k A → Env0 P w K mg base A outer s H → BindsTo s fd args (ps.zip us) → Vals vs us → sp vs H Q E →
    codeAny (model P w) A (.call (.ref f) args) (CR (L2.CX P w) outer P w H s Q E) s
theorem FnG.mono {P : Program} {w : World} {K : PySem.W.Frag} {mg : Str → Option Value} {base : Heap} {j k : Nat} {f : Addr} {fd : FuncData} {ps : List Str} {sp : Sp} (F : FnG P w K mg base j f fd ps sp) (h : j ≤ k) : FnG P w K mg base k f fd ps sp :=
  ⟨F.len, fun A outer s H args us vs Q E hg hr => F.run A outer s H args us vs Q E hg (hr.mono h)⟩
/-- an argument that is handed over -/
def ArgOk (S : Sx) (H : Hp) (Z : Addr → Prop) (hd : Option Addr) (v : V) : Arg → Prop
  | .sh d => Rp S.K H Z v d
  | .bor d => ∃ a, v = .ref a ∧ Root S.K H Z a d ∧ hd ≠ some a ∧ Z a
  | .fn k => v = .ref (S.fa k) ∧ k < S.nf
  | .hnd => ∃ a, hd = some a ∧ v = .ref a
  | .scr ds => ∃ a xs, v = .ref a ∧ SqF S.K H a xs ∧ xs.length ≤ sizeLine ∧ RpA S.K H Z xs ds
inductive ArgsOk (S : Sx) (H : Hp) (Z : Addr → Prop) (hd : Option Addr) : List V → List Arg → Prop
  | nil : ArgsOk S H Z hd [] []
  | cons {v : V} {vs : List V} {a : Arg} {as : List Arg} : ArgOk S H Z hd v a → ArgsOk S H Z hd vs as → ArgsOk S H Z hd (v :: vs) (a :: as)
/-- behind a call -/
structure After (S : Sx) (Z : Addr → Prop) (hd : Option Addr) (H H' : Hp) (h' : Hand) : Prop where
  st : Stp (fun a => hd = some a) H (fun a => hd = some a) H'
  hh : HndOk S.K H' Z hd h'
  tb : Tabs S.T H'
/-- what is wanted behind a call that ends so -/
def CrPost (S : Sx) (Z : Addr → Prop) (hd : Option Addr) (H : Hp) (Q : VK) (E : XK) (c : Cr) : Prop := match c with
  | .ok fr d h' => ∀ v H', After S Z hd H H' h' → Rp S.K H' Z v d → (fr = true → ∃ a, v = .ref a ∧ H a = none ∧ Root S.K H' (fun b => Z b ∨ b = a) a d ∧ HndOk S.K H' (fun b => Z b ∨ b = a) hd h') → Q v H'
  | .exc c h' => ∀ H', After S Z hd H H' h' → E (.ref (S.ca c)) none H'
  | .fail => False
/-- what a def promises: it does as the evaluator tells -/
def spF (S : Sx) (cl : List Arg → Hand → Cr) : Sp := fun vs H Q E => ∃ (Z : Addr → Prop) (hd : Option Addr) (as : List Arg) (h : Hand), ArgsOk S H Z hd vs as ∧ HndOk S.K H Z hd h ∧ (∀ a, hd = some a → Z a) ∧ (∀ a, Z a → H a ≠ none) ∧ Tabs S.T H ∧
  CrPost S Z hd H Q E (cl as h)
section
variable {G : Gh} {hd : Option Addr} {ρ : Env} {h h' : Hand} {σ : L2.St} {H H' : Hp}
theorem Rel.args (R : Rel G hd ρ h σ H) : ∀ {vs : List V} {ps : List PreA} {as : List Arg}, PreAs G ρ σ hd H vs ps → getAs ρ ps = some as → ArgsOk G.S H (G.Z ρ σ hd) hd vs as
  | _, _, _, .nil, e => by cases e; exact .nil
  | _, _, as, .cons (v := v) (p := p) (ps := ps) a b, e => by
    unfold getAs at e
    cases q1 : getA ρ p with
    | none => rw [q1] at e; cases e
    | some d =>
      cases q2 : getAs ρ ps with
      | none => rw [q1, q2] at e; cases e
      | some l =>
        rw [q1, q2] at e
        cases e
        refine .cons ?_ (R.args b q2)
        cases p with
        | val d' => cases q1; exact a
        | fn k => cases q1; exact a
        | sl i =>
          unfold getA at q1
          dsimp only at q1
          have a' : σ[i]? = some (some v) := a
          cases q3 : ρ[i]? with
          | none => rw [q3] at q1; cases q1
          | some s =>
            rw [q3] at q1
            have so := R.slot i s q3
            cases s <;> simp only [reduceCtorEq, Option.some.injEq] at q1 <;> subst q1
            · obtain ⟨v', e1, r⟩ := so
              rw [a'] at e1; cases e1
              exact r
            · obtain ⟨b, e1, r, _, _, nh⟩ := so
              rw [a'] at e1; cases e1
              exact ⟨b, rfl, r, nh, .inr (.inr ⟨i, _, q3, a'⟩)⟩
            · obtain ⟨b, e1, r, nm, z⟩ := so
              rw [a'] at e1; cases e1
              exact ⟨b, rfl, r, fun z => nm (.inl z), .inl (R.bz _ z)⟩
            · rw [so.1] at a'
              cases a'; exact ⟨rfl, so.2⟩
            · obtain ⟨b, e1, e2⟩ := so
              rw [a'] at e2; cases e2
              exact ⟨b, e1, rfl⟩
            · obtain ⟨b, xs, e1, f, l, q⟩ := so
              rw [a'] at e1; cases e1
              exact ⟨b, xs, rfl, f, l, q⟩
theorem Rel.zall (R : Rel G hd ρ h σ H) : ∀ a, G.Z ρ σ hd a → H a ≠ none := fun a z => z.elim (R.zdom a) (Mo.dom R)
/-- behind a call, with a new place that may change -/
theorem Rel.moveAlso {p : Addr} (R : Rel G hd ρ h σ H) (n : H p = none) (af : After G.S (G.Z ρ σ hd) hd H H' h') (hh : HndOk G.K H' (fun b => G.Z ρ σ hd b ∨ b = p) hd h') (hp : H' p ≠ none) : Rel (G.plus p) hd ρ h' σ H' where
  len := R.len
  slot := fun i s q => SlotOk.mv (G := G) (G' := G.plus p) rfl rfl rfl rfl (fun a o e1 m t => af.st.keep a o e1 m t) (fun a z => .inl z) (fun a na (z : G.Zc a ∨ a = p) => z.elim id fun e => absurd (by rw [e]; exact n) na) rfl (fun _ _ z => z) af.st.tups af.st.frzs (R.slot i s q)
  uniq := R.uniq
  hnd := HndOk.mv (Z' := (G.plus p).Z ρ σ hd) (fun a o e1 _ _ => e1) (fun a o e1 _ _ => e1) (fun a na z => by
    rcases z with (z | z) | z
    · exact .inl (.inl z)
    · exact .inr z
    · exact .inl (.inr z)) (fun a xs e1 => e1) (fun a o u e1 => e1) hh
  stp := R.stp.trans ⟨fun a o e n t => af.st.keep a o e (fun z => n (.inl z)) t, fun a z => .inl z, af.st.there, af.st.tups, af.st.frzs⟩
  hd0 := R.hd0
  tabs := af.tb
  bz := fun a z => .inl (R.bz a z)
  zdom := fun a z n' => by
    rcases z with z | z
    · exact R.zdom a z (af.st.there a n')
    · rw [z] at n'; exact hp n'
end
section
variable {X : Cx} {S : Sx} {W : WX} {C : Cl} {es : Es} {x : Expr} {xs : List Expr} {pos p : Pos} {n : Str} {f : Addr} {fd : FuncData} {ps : List Str} {k j : Nat} {sp : Sp}
/-- the callee runs -/
theorem run_fnG {pins : List (Addr × Obj)} {σ : L2.St} {H : Hp} {s : Shared} {Q : VK} {us : List Value} {vs : List V} {E : L2.St → XK} (F : FnG X.prog X.w X.K X.mg X.base k f fd ps sp) (hg : X.A.guards = some []) (hr : Room k X.A) (hb : Binds X.K fd ps []) (hx : PassesAt (L2.CX X.prog X.w) X σ (E σ))
    (I : L2.Inv X pins σ H s) (r : Vals vs us) (h : sp vs H Q (E σ)) : wpAny (model X.prog X.w) X.A (call (.ref f) us) (EP X pins σ Q) X.xe s := by
  have hl : (us ++ []).length = ps.length := by rw [List.append_nil, ← r.length]; exact F.len _ _ _ _ h
  have hb' := hb s us I.kIn hl
  rw [List.append_nil] at hb'
  refine wpAny_call (codeAny_mono (F.run X.A X.stack s H ⟨us, []⟩ us vs Q (E σ) hg hr I.env0 hb' r h) fun r s' hq => ?_)
  cases r with
  | error e => exact hx pins H s e s' I hq
  | ok fl =>
    cases fl with
    | ret u => exact I.after hq
    | next => exact False.elim hq
    | brk => exact False.elim hq
    | cont => exact False.elim hq
/-- a def's promise at any call -/
def FnU (P : Program) (w : World) (K : PySem.W.Frag) (mg : Str → Option Value) (base : Heap) (k : Nat) (f : Addr) (sp : Sp) : Prop :=
  ∀ (X : Cx), X.prog = P → X.w = w → X.K = K → X.mg = mg → X.base = base → X.A.guards = some [] → Room k X.A → ∀ (pins : List (Addr × Obj)) (σ : L2.St) (H : Hp) (s : Shared) (Q : VK) (us : List Value) (vs : List V) (E : L2.St → XK), PassesAt (L2.CX X.prog X.w) X σ (E σ) →
    L2.Inv X pins σ H s → Vals vs us → sp vs H Q (E σ) → wpAny (model X.prog X.w) X.A (call (.ref f) us) (EP X pins σ Q) X.xe s
theorem FnG.toU {P : Program} {w : World} {K : PySem.W.Frag} {mg : Str → Option Value} {base : Heap} {k : Nat} {f : Addr} {fd : FuncData} {ps : List Str} {sp : Sp} (F : FnG P w K mg base k f fd ps sp) (hb : Binds K fd ps []) : FnU P w K mg base k f sp :=
  fun X e1 e2 e3 e4 e5 hg hr pins σ H s Q us vs E hx I r h => by
    subst e1 e2 e3 e4 e5
    exact run_fnG F hg hr hb hx I r h
theorem FnU.imp {P : Program} {w : World} {K : PySem.W.Frag} {mg : Str → Option Value} {base : Heap} {k : Nat} {f : Addr} {sp sp' : Sp} (F : FnU P w K mg base k f sp) (h : ∀ vs H Q E, sp' vs H Q E → sp vs H Q E) : FnU P w K mg base k f sp' :=
  fun X e1 e2 e3 e4 e5 hg hr pins σ H s Q us vs E hx I r q => F X e1 e2 e3 e4 e5 hg hr pins σ H s Q us vs E hx I r (h _ _ _ _ q)
def tCallD (sp : Sp) (E : L2.St → XK) (t : TA) : TE := fun σ H Q => t σ H fun vs H1 => sp vs H1 Q (E σ)
theorem pe_callG {E : L2.St → XK} {t : TA} (F : FnU X.prog X.w X.K X.mg X.base k f sp) (hgd : X.A.guards = some []) (hr : Room k X.A) (hg : Gl X n) (hm : X.mg n = some (.ref f)) (hk : PySem.W.keepIn X.K (.ref f) = true) (hx : ∀ σ, PassesAt (L2.CX X.prog X.w) X σ (E σ))
    (ha : PA X (x :: xs) t) (hdb : (n == ("__debug__" : Str)) = false) (hs : (x :: xs).all notStar = true) :
    PE X (.Call (.Name n p) (x :: xs) [] pos) (tCallD sp E t) := by
  rw [List.all_cons, Bool.and_eq_true] at hs
  refine ⟨fun pins s σ H Q I h => ?_⟩
  refine wpAny_Call_Name_kw (ld_glob I hg hm ?_ hdb)
  exact PySem.W.callWith_K (h₀ := X.base) I.ok.mod.kin hk (thn (ha.run pos pins s σ H _ I h) fun us s1 ⟨vs, H1, I1, r, q⟩ => ⟨I1.kIn, F X rfl rfl rfl rfl rfl hgd hr _ σ _ _ _ _ _ E (hx σ) I1 r q⟩) (star_cons hs.1) (star_any hs.2)
theorem pe_callG0 {E : L2.St → XK} (F : FnU X.prog X.w X.K X.mg X.base k f sp) (hgd : X.A.guards = some []) (hr : Room k X.A) (hg : Gl X n) (hm : X.mg n = some (.ref f)) (hk : PySem.W.keepIn X.K (.ref f) = true) (hx : ∀ σ, PassesAt (L2.CX X.prog X.w) X σ (E σ))
    (hdb : (n == ("__debug__" : Str)) = false) : PE X (.Call (.Name n p) [] [] pos) (tCallD sp E tNil) := by
  refine ⟨fun pins s σ H Q I h => ?_⟩
  refine wpAny_Call_Name_kw (ld_glob I hg hm ?_ hdb)
  exact PySem.W.callWith_K0 I.kIn hk (F X rfl rfl rfl rfl rfl hgd hr _ σ _ _ _ _ _ E (hx σ) I .nil h)
/-- a call of what a slot holds -/
def tCallV (S : Sx) (spk : Nat → Sp) (i : Nat) (E : L2.St → XK) (t : TA) : TE := fun σ H Q => ∃ k, k < S.nf ∧ σ[i]? = some (some (.ref (S.fa k))) ∧ t σ H fun vs H1 => spk k vs H1 Q (E σ)
theorem pe_callVG {E : L2.St → XK} {t : TA} {spk : Nat → Sp} {i : Nat} (Fn : ∀ k, k < S.nf → PySem.W.keepIn X.K (.ref (S.fa k)) = true ∧ FnU X.prog X.w X.K X.mg X.base j (S.fa k) (spk k))
    (hgd : X.A.guards = some []) (hr : Room j X.A) (hN : X.N[i]? = some n) (hv : Vis X.env.scope n) (hx : ∀ σ, PassesAt (L2.CX X.prog X.w) X σ (E σ)) (ha : PA X (x :: xs) t) (hdb : (n == ("__debug__" : Str)) = false) (hcd : (n == ("__classdict__" : Str)) = false) (hs : (x :: xs).all notStar = true) :
    PE X (.Call (.Name n p) (x :: xs) [] pos) (tCallV S spk i E t) := by
  rw [List.all_cons, Bool.and_eq_true] at hs
  refine ⟨fun pins s σ H Q I h => ?_⟩
  obtain ⟨k, hn, hk, ht⟩ := h
  obtain ⟨hkp, F⟩ := Fn k hn
  refine wpAny_Call_Name_kw (thn ((pe_var (pos := p) hN hv hdb hcd).run pins s σ H (fun v H1 => v = .ref (S.fa k) ∧ H1 = H) I ⟨_, hk, rfl, rfl⟩) fun u s1 ⟨v, H1, I1, r1, q1⟩ => ?_)
  obtain ⟨rfl, rfl⟩ := q1
  cases r1
  exact PySem.W.callWith_K (h₀ := X.base) I.ok.mod.kin hkp (thn (ha.run pos pins s1 σ _ _ I1 ht) fun us s2 ⟨vs, H2, I2, r, q⟩ => ⟨I2.kIn, F X rfl rfl rfl rfl rfl hgd hr _ σ _ _ _ _ _ E (hx σ) I2 r q⟩) (star_cons hs.1) (star_any hs.2)
/-! the evaluator's calls -/
theorem call_out {G : Gh} {hd : Option Addr} {ρ : Env} {h : Hand} {σ : L2.St} {H : Hp} {c : Cr} {Q : VK} (R : Rel G hd ρ h σ H) (oo : Out G W σ hd ρ H (crE ρ c) fun p ρ' h' H' => ∀ v, Res G hd ρ' h' σ H' v p → Q v H') :
    CrPost G.S (G.Z ρ σ hd) hd H Q (fun c d H' => W c d σ H') c := by
  cases c with
  | fail => exact oo
  | exc c h' => exact fun H' af => oo H' (R.move af.st af.hh af.tb)
  | ok fr d h' =>
    refine fun v H' af rp hfr => oo H' (R.move af.st af.hh af.tb) ⟨fun a o e n t => af.st.keep a o e (fun z => n (.inl z)) t, fun a z => .inl z, af.st.there, af.st.tups, af.st.frzs⟩ v ⟨rp, fun e => ?_⟩
    obtain ⟨a, e1, na, r, hh⟩ := hfr e
    refine ⟨a, e1, .inr (R.stp.there a na), R.fresh na, ?_, R.moveAlso na af hh r.dom⟩
    exact r.mv (fun _ e _ _ => e) (fun _ _ e _ _ => e) (fun b _ z => by
      rcases z with (z | z) | z
      · exact .inl (.inl z)
      · exact .inr z
      · exact .inl (.inr z)) (fun _ _ e => e) fun _ _ _ e => e
theorem sp_of {G : Gh} {hd : Option Addr} {ρ : Env} {h : Hand} {σ : L2.St} {H : Hp} {vs : List V} {as : List Arg} {cl : List Arg → Hand → Cr} {Q : VK} (R : Rel G hd ρ h σ H) (ha : ArgsOk G.S H (G.Z ρ σ hd) hd vs as)
    (oo : Out G W σ hd ρ H (crE ρ (cl as h)) fun p ρ' h' H' => ∀ v, Res G hd ρ' h' σ H' v p → Q v H') : spF G.S cl vs H Q (fun c d H' => W c d σ H') := by
  refine ⟨G.Z ρ σ hd, hd, as, h, ha, R.hnd, fun a e => .inr (.inl e), R.zall, R.tabs, ?_⟩
  exact call_out R oo
theorem s_call (F : FnU X.prog X.w X.K X.mg X.base j (S.fa k) (spF S (C.fn k))) (hgd : X.A.guards = some []) (hr : Room j X.A) (hg : Gl X n) (hm : X.mg n = some (.ref (S.fa k))) (hk : PySem.W.keepIn X.K (.ref (S.fa k)) = true)
    (hx : ∀ σ, PassesAt (L2.CX X.prog X.w) X σ (fun c d H' => W c d σ H')) (ha : PA X (x :: xs) (tAa S W (evA C es))) (hdb : (n == ("__debug__" : Str)) = false) (hs : (x :: xs).all notStar = true) :
    PE X (.Call (.Name n p) (x :: xs) [] pos) (tE S W (ev C (.call k es))) := by
  refine PE.imp (pe_callG (E := fun σ c d H' => W c d σ H') F hgd hr hg hm hk hx ha hdb hs) fun σ H Q h => ?_
  obtain ⟨G, rfl, hd, ρ, h, R, oo⟩ := h
  unfold ev at oo
  refine seqAa R oo fun ps' ρ1 h1 vs H1 R1 s1 r1 o1 => ?_
  obtain ⟨as, e1, o2⟩ := Out.ofO o1
  exact sp_of R1 (R1.args r1 e1) o2
theorem s_call0 (F : FnU X.prog X.w X.K X.mg X.base j (S.fa k) (spF S (C.fn k))) (hgd : X.A.guards = some []) (hr : Room j X.A) (hg : Gl X n) (hm : X.mg n = some (.ref (S.fa k))) (hk : PySem.W.keepIn X.K (.ref (S.fa k)) = true)
    (hx : ∀ σ, PassesAt (L2.CX X.prog X.w) X σ (fun c d H' => W c d σ H')) (hdb : (n == ("__debug__" : Str)) = false) :
    PE X (.Call (.Name n p) [] [] pos) (tE S W (ev C (.call k .nil))) := by
  refine PE.imp (pe_callG0 (E := fun σ c d H' => W c d σ H') F hgd hr hg hm hk hx hdb) fun σ H Q h => ?_
  obtain ⟨G, rfl, hd, ρ, h, R, oo⟩ := h
  unfold ev evA at oo
  exact sp_of R .nil oo
theorem s_callv {i : Nat} (Fn : ∀ k, k < S.nf → PySem.W.keepIn X.K (.ref (S.fa k)) = true ∧ FnU X.prog X.w X.K X.mg X.base j (S.fa k) (spF S (C.fn k)))
    (hgd : X.A.guards = some []) (hr : Room j X.A) (hN : X.N[i]? = some n) (hv : Vis X.env.scope n) (hx : ∀ σ, PassesAt (L2.CX X.prog X.w) X σ (fun c d H' => W c d σ H')) (ha : PA X (x :: xs) (tAa S W (evA C es))) (hdb : (n == ("__debug__" : Str)) = false) (hcd : (n == ("__classdict__" : Str)) = false) (hs : (x :: xs).all notStar = true) :
    PE X (.Call (.Name n p) (x :: xs) [] pos) (tE S W (ev C (.callv i es))) := by
  refine PE.imp (pe_callVG (S := S) (spk := fun k => spF S (C.fn k)) (E := fun σ c d H' => W c d σ H') Fn hgd hr hN hv hx ha hdb hcd hs) fun σ H Q h => ?_
  obtain ⟨G, rfl, hd, ρ, h, R, oo⟩ := h
  unfold ev at oo
  cases q : ρ[i]? with
  | none => rw [q] at oo; exact oo.elim
  | some s =>
    rw [q] at oo
    cases s with
    | fn k =>
      obtain ⟨e1, e2⟩ := R.slot i _ q
      refine ⟨k, e2, e1, seqAa R oo fun ps' ρ1 h1 vs H1 R1 s1 r1 o1 => ?_⟩
      obtain ⟨as, e1, o2⟩ := Out.ofO o1
      exact sp_of R1 (R1.args r1 e1) o2
    | _ => exact oo.elim
end
end PyD

/-! PyJ: what a loop walks: enumerate, zip over lists and tuples. -/
namespace PyD
open PySem L2 LamX

/-- a list (true) or a tuple (false) -/
def SqK (k : Bool) (K : PySem.W.Frag) (H : Hp) (a : Addr) (xs : List V) : Prop := match k with
  | true => SqL K H a xs
  | false => SqT K H a xs
def IsK (k : Bool) (h : Heap) (a : Addr) (us : Array Value) : Prop := match k with
  | true => h.IsList a us
  | false => h.IsTuple a us
def IterK (k : Bool) (h : Heap) (it a : Addr) (i : Nat) : Prop := match k with
  | true => h.IsListIter it a i
  | false => h.IsTupleIter it a i
def beginO (k : Bool) (a : Addr) : Obj := match k with
  | true => { cls := .type "list_iterator", data := .fields #[.ref a, .int 0 0] }
  | false => { cls := .type "tuple_iterator", data := .fields #[.ref a, .int 0 0] }
theorem begins_K (k : Bool) (a : Addr) (us : Array Value) : Begins (.ref a) (beginO k a) fun h => IsK k h a us := by
  cases k
  · exact begins_tuple a us
  · exact begins_list a us
theorem iterK_new {k : Bool} {h : Heap} {it a : Addr} (e : h.get? it = some (beginO k a)) : IterK k h it a 0 := by
  cases k <;> exact ⟨_, e, rfl, rfl⟩
theorem IterK.rec {k : Bool} {h : Heap} {it a : Addr} {i : Nat} (x : IterK k h it a i) : ∃ o, h.get? it = some o ∧ ∀ v, o.data ≠ .cell v := by
  cases k <;> (obtain ⟨o, e, _, d⟩ := x; exact ⟨o, e, fun v q => by rw [d] at q; cases q⟩)
theorem IterK.at {k : Bool} {h h' : Heap} {it a : Addr} {i : Nat} (x : IterK k h it a i) (q : ∀ o, h.get? it = some o → h'.get? it = some o) : IterK k h' it a i := by
  cases k <;> (obtain ⟨o, e, r⟩ := x; exact ⟨o, q o e, r⟩)
theorem IsK.rec {k : Bool} {h : Heap} {a : Addr} {us : Array Value} (x : IsK k h a us) : ∃ o, h.get? a = some o ∧ (o.cls = .type "list" ∨ o.cls = .type "tuple") := by
  cases k
  · obtain ⟨o, e, c, _⟩ := x; exact ⟨o, e, .inr c⟩
  · obtain ⟨o, e, c, _⟩ := x; exact ⟨o, e, .inl c⟩
theorem IterK.cls {k : Bool} {h : Heap} {it a : Addr} {i : Nat} (x : IterK k h it a i) : ∃ o, h.get? it = some o ∧ (o.cls = .type "list_iterator" ∨ o.cls = .type "tuple_iterator") := by
  cases k
  · obtain ⟨o, e, c, _⟩ := x; exact ⟨o, e, .inr c⟩
  · obtain ⟨o, e, c, _⟩ := x; exact ⟨o, e, .inl c⟩
theorem draws_K {prog : Program} {w : World} {A : Around} (k : Bool) (hh : A.handled = none) (it l : Addr) (hne : l ≠ it) (items : Array Value) :
    Draws prog w A it [it, l] items.size (fun i v => items[i]? = some v) (fun i h => IterK k h it l i ∧ IsK k h l items) := by
  cases k
  · exact .tuple hh it l hne items
  · exact .list hh it l hne items
theorem ty_ne {x y : String} (h : x ≠ y) (e : Value.type x = Value.type y) : False := by
  injection e with e
  exact h e
theorem IsK.ne_iter {k j : Bool} {h : Heap} {a it b : Addr} {us : Array Value} {i : Nat} (p : IsK k h a us) (q : IterK j h it b i) : a ≠ it := fun z => by
  obtain ⟨o, e, c⟩ := p.rec
  obtain ⟨o', e', c'⟩ := q.cls
  rw [z, e'] at e
  have eo : o' = o := Option.some.inj e
  subst eo
  rcases c with c | c <;> rcases c' with c' | c' <;> (rw [c] at c'; exact ty_ne (by decide) c')
theorem IsK.ne_enum {k : Bool} {h : Heap} {a e it : Addr} {us : Array Value} {i : Int} {old : Value} (p : IsK k h a us) (q : IsEnum h e it i old) : e ≠ a := fun z => by
  obtain ⟨o, e', c⟩ := p.rec
  rw [← z] at e'
  rw [show h.get? e = _ from q] at e'
  have eo := Option.some.inj e'
  subst eo
  rcases c with c | c <;> exact ty_ne (by decide) c
section
variable {X : Cx} {pins : List (Addr × Obj)} {σ : L2.St} {H : Hp} {s : Shared}
theorem inv_seqK {k : Bool} {a : Addr} {xs : List V} (I : L2.Inv X pins σ H s) (h : SqK k X.K H a xs) : ∃ its : List Value, Vals xs its ∧ IsK k s.heap a its.toArray := by
  cases k
  · obtain ⟨its, rv, p, _⟩ := I.tuple h
    exact ⟨its, rv, p⟩
  · obtain ⟨its, rv, p, _⟩ := I.list h
    exact ⟨its, rv, p.isList⟩
theorem seqK_inj {k : Bool} {a : Addr} {xs ys : List V} (I : L2.Inv X pins σ H s) (h : SqK k X.K H a xs) (h' : SqK k X.K H a ys) : xs = ys := by
  cases k
  · exact I.tuple_inj h h'
  · exact I.list_inj h h'
end
/-! ### enumerate -/
def IteK (k : Bool) (K : PySem.W.Frag) (a : Addr) : It :=
  ⟨fun i H => ∃ (xs : List V) (x : V), SqK k K H a xs ∧ xs[i]? = some x, fun i H v H' => ∃ T x, v = .ref T ∧ H T = none ∧ H' = L2.upd H T (.tup [.int (i : Nat), x]) ∧ ∀ xs, SqK k K H a xs → xs[i]? = some x, fun i H => ∃ xs : List V, SqK k K H a xs ∧ xs.length = i⟩
theorem turn_enumK {P : Program} {w : World} {K : PySem.W.Frag} {elts : List Expr} {kk : Nat} {tpos : Pos} (k : Bool) (a e it : Addr) :
    Turn P w K (.Tuple elts kk tpos) (IteK k K a) [e, it] e (fun i h => (∃ old, IsEnum h e it ((i : Nat) : Int) old) ∧ IterK k h it a i ∧ e ≠ it) where
  mem := by simp
  obj := fun i h st b hb => by
    obtain ⟨⟨old, he⟩, hi, _⟩ := st
    have e' : b = e ∨ b = it := by simpa using hb
    rcases e' with z | z
    · rw [z]; exact ⟨_, he, fun v q => nomatch q⟩
    · rw [z]; exact hi.rec
  keep := fun i h h' st q => let ⟨⟨old, he⟩, hi, hne⟩ := st; ⟨⟨old, q e (by simp) _ he⟩, hi.at fun o r => q it (by simp) o r, hne⟩
  item := by
    intro X hP hw hK hc i pins s σ H E I hf st hg
    subst hP hw hK
    obtain ⟨⟨old, he⟩, hit, hne⟩ := st
    obtain ⟨xs, x, hq, hx⟩ := hg
    obtain ⟨its, rv, p⟩ := inv_seqK I hq
    obtain ⟨u, hu, ru⟩ := rv.get hx
    have hlt : i < its.toArray.size := by
      have := (List.getElem?_eq_some_iff.mp hu).1
      simpa using this
    have hel : e < s.heap.objs.size := Heap.lt_size he
    have hil : it < s.heap.objs.size := by obtain ⟨_, q, _⟩ := hit.rec; exact Heap.lt_size q
    have ea : e ≠ a := p.ne_enum he
    have ai : a ≠ it := p.ne_iter hit
    refine wpAny_pyNext_enum_itemD (draws_K k (A := X.A.in1) (I.ok.hd hc) it a ai its.toArray) he ⟨hit, p⟩ hlt hne (by simp; exact ⟨hne, ea⟩) fun y h' tk hy ho hit' hT hsz hk => ?_
    have ey : y = u := by
      have : its[i]? = some y := by simpa using hy
      rw [hu] at this
      exact (Option.some.inj this).symm
    subst ey
    refine ⟨_, rfl, wpAny_letOwnedTupleGo_enum (s := { s with heap := h', toks := tk + 1 }) ho fun h'' he' sb => ?_⟩
    have hT2 : h''.get? s.heap.objs.size = some { cls := .type "tuple", data := .seq #[.int i tk, y] } := (sb.2 _ (Nat.ne_of_gt hel)).trans hT
    have new : ObjOk X.prog X.w (L2.upd H s.heap.objs.size (.tup [.int (i : Nat), x])) h'' s.heap.objs.size (.tup [.int (i : Nat), x]) :=
      ⟨by show 2 ≤ sizeLine; decide, [.int i tk, y], .cons ⟨_, rfl⟩ (.cons ru .nil), ⟨_, hT2, rfl, _, rfl⟩⟩
    have I1 : L2.Inv X pins σ (L2.upd H s.heap.objs.size (.tup [.int (i : Nat), x])) { s with heap := h'', toks := tk + 1 } :=
      I.turnedNew (ch := [e, it]) (fun b ob hb q => (sb.2 b (fun z => hb (by simp [z]))).trans (hk b ob (fun z => hb (by simp [z])) (fun z => hb (by simp [z])) q)) hf (Nat.le_refl _) new
    refine ⟨.ref s.heap.objs.size, _, I1, rfl, ⟨_, x, rfl, I.hok.fresh (Nat.le_refl _), rfl, fun ys hy => by rw [seqK_inj I hy hq]; exact hx⟩, ⟨⟨y, ?_⟩, hit'.1.at fun o q => (sb.2 it (Ne.symm hne)).trans q, hne⟩, fun b hb => ?_⟩
    · have e1 : ((i + 1 : Nat) : Int) = (i : Int) + 1 := by omega
      rw [e1]; exact he'
    · have hb' : b < s.heap.objs.size := by
        have e' : b = e ∨ b = it := by simpa using hb
        rcases e' with z | z
        · rw [z]; exact hel
        · rw [z]; exact hil
      rw [upd_ne (Nat.ne_of_lt hb')]
      exact (hf b hb).1
  done := by
    intro X hP hw hK hc i pins s σ H E I hf st hg
    subst hP hw hK
    obtain ⟨⟨old, he⟩, hit, hne⟩ := st
    obtain ⟨xs, hq, hx⟩ := hg
    obtain ⟨its, rv, p⟩ := inv_seqK I hq
    obtain ⟨f0, f1, f2, f3, f4, f5⟩ := hf it (by simp)
    have hl := rv.length
    have ai : a ≠ it := p.ne_iter hit
    have D := draws_K (prog := X.prog) (w := X.w) k (A := X.A.in1) (I.ok.hd hc) it a ai its.toArray
    have en : its.toArray.size = i := by simp; omega
    rw [en] at D
    exact wpAny_pyNext_enum_endD D he ⟨hit, p⟩ fun h' eb => ⟨rfl, I.turned (t' := s.toks) (fun b o hb q => eb b o hb q) f0 f1 f3 f4 f5⟩
  self := fun A i s Q E st h => let ⟨⟨_, he⟩, _⟩ := st; wpAny_pyIter_enum he h
theorem meets_enumK {v : Value} {o : Obj} {H : Heap → Prop} (B : Begins v o H) :
    Meets (Builtin.«enumerate.__new__» ⟨[.type "enumerate", v], []⟩) (fun _ R s => H s.heap ∧
      R (.ok (.ret (.ref (s.heap.push o).objs.size))) { s with heap := (s.heap.push o).push { cls := .type "enumerate", data := .fields #[.none, .bool false, .ref s.heap.objs.size, rawInt 0, .none, .none] } }) :=
  .of_wp fun prog w A R s h => by
    obtain ⟨hp, g, d, tk, os⟩ := s; obtain ⟨h1, h⟩ := h
    have hsub := sub_enumerate
    have q1 : ∀ {A' : Around} {E : Value → Shared → Prop} {Q : Value → Shared → Prop}, Q (.ref hp.objs.size) ⟨hp.push o, g, d, tk, os⟩ → wpAny (model prog w) A' (pyIter v) Q E ⟨hp, g, d, tk, os⟩ :=
      fun q => B.iter prog w _ _ ⟨hp, g, d, tk, os⟩ _ h1 q
    wp_walk using q1
    refine wpAny_stack_any fun st => wpAny_pure ?_
    split
    · rename_i c _ _ _ _ _
      cases (c == Value.type "enumerate")
      · wp_walk using q1
        exact ⟨_, rfl, h⟩
      · wp_walk using q1
        exact ⟨_, rfl, h⟩
    · wp_walk using q1
      exact ⟨_, rfl, h⟩
theorem enumK_begins {prog : Program} {w : World} {A : Around} {E : Value → Shared → Prop} {s : Shared} {v : Value} {o : Obj} {H : Heap → Prop} {Q : Value → Shared → Prop} (B : Begins v o H) (h1 : H s.heap)
    (h : ∀ h', IsEnum h' (s.heap.objs.size + 1) s.heap.objs.size 0 .none → h'.get? s.heap.objs.size = some o → h'.objs.size = s.heap.objs.size + 2 →
      (∀ b o, s.heap.get? b = some o → h'.get? b = some o) → Q (.ref (s.heap.objs.size + 1)) { s with heap := h' }) :
    wpAny (model prog w) A (call (.type "enumerate") [v]) Q E s := by
  refine callType_new F.called_enumerate (by decide) (F.typeCall_enumerate_1 _) (F.newCall_enumerate_1 _) (fun obj => F.args_object_init_2 obj _) F.entry_enumerate_new
    (meets_enumK B) ⟨h1, ?_⟩
  have hz : (s.heap.push o).objs.size = s.heap.objs.size + 1 := Heap.size_push ..
  show _ ∧ _
  rw [hz]
  have he : IsEnum ((s.heap.push o).push { cls := .type "enumerate", data := .fields #[.none, .bool false, .ref s.heap.objs.size, rawInt 0, .none, .none] }) (s.heap.objs.size + 1) s.heap.objs.size 0 .none := by
    have := Heap.get?_push_size (s.heap.push o) (o := { cls := .type "enumerate", data := .fields #[.none, .bool false, .ref s.heap.objs.size, rawInt 0, .none, .none] }) rfl
    rw [hz] at this; exact this
  refine ⟨⟨_, he, rfl⟩, h _ he (Heap.get?_push_of_some _ (Heap.get?_push_size _ B.free)) (by rw [Heap.size_push, hz]) fun b o x => Heap.get?_push_of_some _ (Heap.get?_push_of_some _ x)⟩
def iEnumK (K : PySem.W.Frag) (ta : TA) : TI := fun σ H R => ta σ H fun vs H1 => ∃ k a xs, vs = [.ref a] ∧ SqK k K H1 a xs ∧ R (IteK k K a) H1
theorem pi_enumK {X : Cx} {e : Expr} {ta : TA} {p pos tpos : Pos} {elts : List Expr} {kk : Nat} (hg : Gl X "enumerate") (hm : X.mg "enumerate" = none) (ha : PA X [e] ta) (hs : starEach [e] X.env = [(false, eval e X.env)]) :
    PI X (.Tuple elts kk tpos) (.Call (.Name "enumerate" p) [e] [] pos) (iEnumK X.K ta) := by
  refine ⟨fun pins s σ H R I h => ?_⟩
  refine PyProof.Rows.Call_ (ld_blt I hg hm PyProof.Rows.boot_enumerate (PyProof.Rows.callWith_type1 (thn (ha.run pos pins s σ H _ I h) fun us s1 ⟨vs, H1, I1, r1, q1⟩ => ?_) hs rfl))
  obtain ⟨k, a, xs, ex, hq, q⟩ := q1
  subst ex
  cases r1 with
  | cons r rr =>
    cases rr
    cases r
    obtain ⟨its, rv, p'⟩ := inv_seqK I1 hq
    refine enumK_begins (begins_K k a its.toArray) p' fun h' he hit hsz hk => wpAny_pyIter_enum he ?_
    have I2 : L2.Inv X pins σ H1 { s1 with heap := h' } := I1.kept (t' := s1.toks) hk
    refine ⟨s1.heap.objs.size + 1, [s1.heap.objs.size + 1, s1.heap.objs.size], _, _, H1, rfl, I2, turn_enumK k a (s1.heap.objs.size + 1) s1.heap.objs.size, ⟨⟨.none, he⟩, iterK_new hit, Nat.succ_ne_self _⟩, fun b hb => ?_, q⟩
    have e' : b = s1.heap.objs.size + 1 ∨ b = s1.heap.objs.size := by simpa using hb
    have hle : s1.heap.objs.size ≤ b := by
      rcases e' with z | z
      · rw [z]; exact Nat.le_add_right _ _
      · rw [z]; exact Nat.le_refl _
    exact I1.fpOk hle (I1.hok.fresh hle)
/-! ### zip -/
def ItzK (k j : Bool) (K : PySem.W.Frag) (a b : Addr) : It :=
  ⟨fun i H => ∃ (xs ys : List V) (x y : V), SqK k K H a xs ∧ SqK j K H b ys ∧ xs[i]? = some x ∧ ys[i]? = some y,
    fun i H v H' => ∃ T x y, v = .ref T ∧ H T = none ∧ H' = L2.upd H T (.tup [x, y]) ∧ (∀ xs, SqK k K H a xs → xs[i]? = some x) ∧ ∀ ys, SqK j K H b ys → ys[i]? = some y,
    fun i H => ∃ xs ys : List V, SqK k K H a xs ∧ SqK j K H b ys ∧ i ≤ xs.length ∧ i ≤ ys.length ∧ (xs.length = i ∨ ys.length = i)⟩
theorem turn_zipK {P : Program} {w : World} {K : PySem.W.Frag} {elts : List Expr} {kk : Nat} {tpos : Pos} {k j : Bool} {a b z TI TO i1 i2 : Addr} (D : ZipSep2 z TI TO i1 i2 [i1, a] [i2, b]) :
    Turn P w K (.Tuple elts kk tpos) (ItzK k j K a b) [z, TI, TO, i1, i2] z (fun i h => IsZip h z TI TO .none ∧ IsTupOf2 h TI (.ref i1) (.ref i2) ∧ (∃ x y, IsTupOf2 h TO x y) ∧ IterK k h i1 a i ∧ IterK j h i2 b i) where
  mem := by simp
  obj := fun i h st c hc => by
    obtain ⟨hz, hTI, ⟨x, y, hTO⟩, h1, h2⟩ := st
    have e' : c = z ∨ c = TI ∨ c = TO ∨ c = i1 ∨ c = i2 := by simpa using hc
    rcases e' with q | q | q | q | q
    · rw [q]; exact ⟨_, hz, fun v q => nomatch q⟩
    · rw [q]; exact ⟨_, hTI, fun v q => nomatch q⟩
    · rw [q]; exact ⟨_, hTO, fun v q => nomatch q⟩
    · rw [q]; exact h1.rec
    · rw [q]; exact h2.rec
  keep := fun i h h' st q => by
    obtain ⟨hz, hTI, ⟨x, y, hTO⟩, h1, h2⟩ := st
    exact ⟨q z (by simp) _ hz, q TI (by simp) _ hTI, ⟨x, y, q TO (by simp) _ hTO⟩, h1.at fun o r => q i1 (by simp) o r, h2.at fun o r => q i2 (by simp) o r⟩
  item := by
    intro X hP hw hK hc i pins s σ H E I hf st hg
    subst hP hw hK
    obtain ⟨hz, hTI, ⟨x0, y0, hTO⟩, h1, h2⟩ := st
    obtain ⟨xs, ys, x, y, hqx, hqy, hx, hy⟩ := hg
    obtain ⟨its, rv, p⟩ := inv_seqK I hqx
    obtain ⟨its2, rv2, p2⟩ := inv_seqK I hqy
    obtain ⟨u, hu, ru⟩ := rv.get hx
    obtain ⟨u2, hu2, ru2⟩ := rv2.get hy
    have hzl : z < s.heap.objs.size := Heap.lt_size hz
    have l1 : i < its.toArray.size := by have := (List.getElem?_eq_some_iff.mp hu).1; simpa using this
    have l2 : i < its2.toArray.size := by have := (List.getElem?_eq_some_iff.mp hu2).1; simpa using this
    have ai : a ≠ i1 := p.ne_iter h1
    have bi : b ≠ i2 := p2.ne_iter h2
    refine wpAny_pyNext_zipD2_item D (draws_K k (A := X.A.in1) (I.ok.hd hc) i1 a ai its.toArray) (draws_K j (A := X.A.in1) (I.ok.hd hc) i2 b bi its2.toArray) hz hTI hTO ⟨h1, p⟩ ⟨h2, p2⟩ l1 l2 fun x1 x2 h' tk px py z' TO' h1' h2' hT hsz hk => ?_
    have e1 : x1 = u := by
      have : its[i]? = some x1 := by simpa using px
      rw [hu] at this
      exact (Option.some.inj this).symm
    have e2 : x2 = u2 := by
      have : its2[i]? = some x2 := by simpa using py
      rw [hu2] at this
      exact (Option.some.inj this).symm
    subst e1 e2
    refine ⟨_, rfl, wpAny_letOwnedTupleGo_zip (s := { s with heap := h', toks := tk }) z' fun h'' z'' sb => ?_⟩
    have hT2 : h''.get? s.heap.objs.size = some { cls := .type "tuple", data := .seq #[x1, x2] } := (sb.2 _ (Nat.ne_of_gt hzl)).trans hT
    have new : ObjOk X.prog X.w (L2.upd H s.heap.objs.size (.tup [x, y])) h'' s.heap.objs.size (.tup [x, y]) :=
      ⟨by show 2 ≤ sizeLine; decide, [x1, x2], .cons ru (.cons ru2 .nil), ⟨_, hT2, rfl, _, rfl⟩⟩
    have I1 : L2.Inv X pins σ (L2.upd H s.heap.objs.size (.tup [x, y])) { s with heap := h'', toks := tk } :=
      I.turnedNew (t' := tk) (ch := [z, TI, TO, i1, i2]) (fun c o hb q => (sb.2 c (fun q' => hb (by simp [q']))).trans (hk c o (fun q' => hb (by simp [q'])) (fun q' => hb (by simp [q'])) (fun q' => hb (by simp [q'])) (fun q' => hb (by simp [q'])) q)) hf (Nat.le_refl _) new
    have zi1 : i1 ≠ z := fun e => D.zf1 (by rw [← e]; simp)
    have zi2 : i2 ≠ z := fun e => D.zf2 (by rw [← e]; simp)
    refine ⟨.ref s.heap.objs.size, _, I1, rfl, ⟨_, x, y, rfl, I.hok.fresh (Nat.le_refl _), rfl, fun l hl => by rw [seqK_inj I hl hqx]; exact hx, fun l hl => by rw [seqK_inj I hl hqy]; exact hy⟩, ⟨z'', ?_, ⟨x1, x2, ?_⟩, ?_, ?_⟩, fun c hcm => ?_⟩
    · exact (sb.2 _ D.TIz).trans (hk _ _ D.TIz D.TITO D.TIi1 D.TIi2 hTI)
    · exact (sb.2 _ D.TOz).trans TO'
    · exact h1'.1.at fun o q => (sb.2 _ zi1).trans q
    · exact h2'.1.at fun o q => (sb.2 _ zi2).trans q
    · have hlt : c < s.heap.objs.size := by
        have e' : c = z ∨ c = TI ∨ c = TO ∨ c = i1 ∨ c = i2 := by simpa using hcm
        rcases e' with q | q | q | q | q
        · rw [q]; exact hzl
        · rw [q]; exact Heap.lt_size hTI
        · rw [q]; exact Heap.lt_size hTO
        · rw [q]; obtain ⟨_, e1, _⟩ := h1.rec; exact Heap.lt_size e1
        · rw [q]; obtain ⟨_, e2, _⟩ := h2.rec; exact Heap.lt_size e2
      rw [upd_ne (Nat.ne_of_lt hlt)]
      exact (hf c hcm).1
  done := by
    intro X hP hw hK hc i pins s σ H E I hf st hg
    subst hP hw hK
    obtain ⟨hz, hTI, ⟨x0, y0, hTO⟩, h1, h2⟩ := st
    obtain ⟨xs, ys, hqx, hqy, hlx, hly, hend⟩ := hg
    obtain ⟨its, rv, p⟩ := inv_seqK I hqx
    obtain ⟨its2, rv2, p2⟩ := inv_seqK I hqy
    have l1 := rv.length
    have l2 := rv2.length
    have ai : a ≠ i1 := p.ne_iter h1
    have bi : b ≠ i2 := p2.ne_iter h2
    refine wpAny_pyNext_zipD2_end D (draws_K k (A := X.A.in1) (I.ok.hd hc) i1 a ai its.toArray) (draws_K j (A := X.A.in1) (I.ok.hd hc) i2 b bi its2.toArray) hz hTI hTO ⟨h1, p⟩ ⟨h2, p2⟩ (by simp; omega) (by simp; omega) (by simp; omega) fun h' tk hk => ⟨rfl, I.turnedL (t' := tk) (ch := [z, TI, TO, i1, i2]) (fun c o hb q =>
      hk c o (fun q' => hb (by simp [q'])) (fun q' => hb (by simp [q'])) (fun q' => hb (by simp [q'])) (fun q' => hb (by simp [q'])) q) hf⟩
  self := fun A i s Q E st h => wpAny_pyIter_zip st.1 h
def iZipK (K : PySem.W.Frag) (ta : TA) : TI := fun σ H R => ta σ H fun vs H1 => ∃ k j a b xs ys, vs = [.ref a, .ref b] ∧ SqK k K H1 a xs ∧ SqK j K H1 b ys ∧ R (ItzK k j K a b) H1
theorem pi_zipK {X : Cx} {e e2 : Expr} {ta : TA} {p pos tpos : Pos} {elts : List Expr} {kk : Nat} (hg : Gl X "zip") (hm : X.mg "zip" = none) (ha : PA X [e, e2] ta)
    (hs : starEach [e, e2] X.env = (false, eval e X.env) :: starEach [e2] X.env) (hpl : (backTo pos (starEach [e2] X.env)).any (·.1) = false) :
    PI X (.Tuple elts kk tpos) (.Call (.Name "zip" p) [e, e2] [] pos) (iZipK X.K ta) := by
  refine ⟨fun pins s σ H R I h => ?_⟩
  refine PyProof.Rows.Call_ (ld_blt I hg hm PyProof.Rows.boot_zip (PyProof.Rows.callWith_type1 (thn (ha.run pos pins s σ H _ I h) fun us s1 ⟨vs, H1, I1, r1, q1⟩ => ?_) hs hpl))
  obtain ⟨k, j, a, b, xs, ys, ex, hqx, hqy, q⟩ := q1
  subst ex
  cases r1 with
  | cons r rr =>
    cases rr with
    | cons r' rr =>
      cases rr
      cases r
      cases r'
      obtain ⟨its, rv, p1⟩ := inv_seqK I1 hqx
      obtain ⟨its2, rv2, p2⟩ := inv_seqK I1 hqy
      obtain ⟨o1, ho1, _⟩ := p1.rec
      obtain ⟨o2, ho2, _⟩ := p2.rec
      have la := Heap.lt_size ho1
      have lb := Heap.lt_size ho2
      refine zip_begins2 (begins_K k a its.toArray) (begins_K j b its2.toArray) p1 p2 fun h' hz hTI hTO h1 h2 hsz hk => wpAny_pyIter_zip hz ?_
      have I2 : L2.Inv X pins σ H1 { s1 with heap := h' } := I1.kept (t' := s1.toks) hk
      refine ⟨s1.heap.objs.size + 4, [s1.heap.objs.size + 4, s1.heap.objs.size + 2, s1.heap.objs.size + 3, s1.heap.objs.size, s1.heap.objs.size + 1], _, _, H1, rfl, I2,
        turn_zipK (zip_sep2 (N := s1.heap.objs.size) (fp1 := [a]) (fp2 := [b]) (fun c hc => (List.mem_singleton.mp hc) ▸ la) (fun c hc => (List.mem_singleton.mp hc) ▸ lb)), ⟨hz, hTI, ⟨_, _, hTO⟩, iterK_new h1, iterK_new h2⟩, fun c hcm => ?_, q⟩
      have e' : c = s1.heap.objs.size + 4 ∨ c = s1.heap.objs.size + 2 ∨ c = s1.heap.objs.size + 3 ∨ c = s1.heap.objs.size ∨ c = s1.heap.objs.size + 1 := by simpa using hcm
      have hle : s1.heap.objs.size ≤ c := by
        rcases e' with z | z | z | z | z
        · rw [z]; exact Nat.le_add_right _ _
        · rw [z]; exact Nat.le_add_right _ _
        · rw [z]; exact Nat.le_add_right _ _
        · rw [z]; exact Nat.le_refl _
        · rw [z]; exact Nat.le_add_right _ _
      exact I1.fpOk hle (I1.hok.fresh hle)
/-! ### a list or a tuple -/
def itK (k : Bool) (K : PySem.W.Frag) (a : Addr) : It := match k with
  | true => Itl K a
  | false => Itt K a
def iSeqK (K : PySem.W.Frag) (tl : TE) : TI := fun σ H R => tl σ H fun x H1 => ∃ k a xs, x = .ref a ∧ SqK k K H1 a xs ∧ R (itK k K a) H1
theorem pi_seqK {X : Cx} {tg l : Expr} {tl : TE} (hl : PE X l tl) : PI X tg l (iSeqK X.K tl) := by
  refine ⟨fun pins s σ H R I h => ?_⟩
  refine thn (hl.run pins s σ H _ I h) fun v s1 ⟨x, H1, I1, r1, q1⟩ => ?_
  obtain ⟨k, a, xs, e, hq, q⟩ := q1
  subst e
  cases r1
  cases k with
  | true =>
    obtain ⟨its, rv, p, hz⟩ := I1.list hq
    refine wpAny_pyIter_list p.isList ?_
    refine ⟨s1.heap.objs.size, [s1.heap.objs.size], _, _, H1, rfl, I1.kept (t' := s1.toks) fun b o e => Heap.get?_push_of_some _ e, turn_list a _, ⟨_, Heap.get?_push_size _ rfl, rfl, rfl⟩, fun b hb => ?_, q⟩
    have e : b = s1.heap.objs.size := by simpa using hb
    subst e
    exact I1.fpOk (Nat.le_refl _) (I1.hok.fresh (Nat.le_refl _))
  | false =>
    obtain ⟨its, rv, p, hz⟩ := I1.tuple hq
    refine wpAny_pyIter_tuple (show s1.heap.IsTuple a its.toArray from p) ?_
    refine ⟨s1.heap.objs.size, [s1.heap.objs.size], _, _, H1, rfl, I1.kept (t' := s1.toks) fun b o e => Heap.get?_push_of_some _ e, turn_tuple a _, ⟨_, Heap.get?_push_size _ rfl, rfl, rfl⟩, fun b hb => ?_, q⟩
    have e : b = s1.heap.objs.size := by simpa using hb
    subst e
    exact I1.fpOk (Nat.le_refl _) (I1.hok.fresh (Nat.le_refl _))
end PyD

/-! PyJ2: enumerate(zip(x, y)): the zip's tuple is handed on, alive or gone at the next turn. -/
namespace PyD
open PySem L2 LamX
abbrev IsZipG (h : Heap) (z TI TO : Addr) (X : Value) (f : Bool) : Prop :=
  h.get? z = some { cls := .type "zip", dict := none, data := .fields #[X, .bool f, .bool false, .ref TI, .ref TO], slots := #[] }
def Ow (X : Value) : Prop := X = .none ∨ ∃ T : Nat, X = rawInt T
section
variable {prog : Program} {w : World} {A : Around} {E : Value → Shared → Prop} {s : Shared}
theorem load_any {a : Addr} {Q : Option Obj → Shared → Prop} (h : Q (s.heap.get? a) s) : wpAny (model prog w) A (loadIfAlive a) Q E s := fun _ _ _ => h
theorem zipFree {z TI TO : Addr} {X : Value} {f : Bool} {Q : Bool → Shared → Prop} (hz : IsZipG s.heap z TI TO X f) (hX : Ow X) (hQt : Q true s)
    (hQf : ∀ h', IsZipG h' z TI TO X true → Heap.SameBut z s.heap h' → Q false { s with heap := h' }) : wpAny (model prog w) A (Builtin.SmallTypes.ownedTupleIsFree (.ref z)) Q E s := by
  unfold Builtin.SmallTypes.ownedTupleIsFree
  rcases hX with rfl | ⟨T, rfl⟩
  · exact wpAny_bind (wpAny_field hz rfl (x := .none) rfl (wpAny_pure hQt))
  · refine wpAny_bind (wpAny_field hz rfl (x := rawInt T) rfl ?_)
    show wpAny _ _ (loadIfAlive ((T : Int).toNat) >>= _) _ _ _
    rw [Int.toNat_natCast]
    refine wpAny_bind (load_any ?_)
    cases e : s.heap.get? T with
    | none =>
      simp only [Option.isNone_none, if_true]
      exact wpAny_pure hQt
    | some oT =>
      simp only [Option.isNone_some, Bool.false_eq_true, if_false]
      refine wpAny_bind (wpAny_field hz rfl (x := .bool f) rfl ?_)
      cases f with
      | true =>
        rw [if_neg (show ¬ ((Value.bool true != Value.bool true) = true) from Bool.false_ne_true)]
        exact wpAny_pure (hQf s.heap hz (Heap.SameBut.refl _ _))
      | false =>
        rw [if_pos (show (Value.bool false != Value.bool true) = true from rfl)]
        exact wpAny_bind (wpAny_setField_rec hz (by simp) fun h₁ hz₁ hs₁ => wpAny_pure (hQf h₁ hz₁ hs₁))
variable {z TI TO i1 i2 : Addr} {fp1 fp2 : List Addr} {n1 n2 i : Nat} {P1 P2 : Nat → Value → Prop} {St1 St2 : Nat → Heap → Prop} {a1 a2 : Value}
theorem over1 {A' : Around} {it b : Addr} {fp : List Addr} {n k : Nat} {P : Nat → Value → Prop} {St : Nat → Heap → Prop} {h h' : Heap} (D : Draws prog w A' it fp n P St) (st : St k h) (sb : Heap.SameBut b h h') (hb : b ∉ fp) : St k h' :=
  D.frame _ _ _ st fun c hc o e => sb.extBut _ _ (fun q => hb (q ▸ hc)) e
theorem zipG_item {X : Value} {f : Bool} {Q : Value → Shared → Prop} (S : ZipSep2 z TI TO i1 i2 fp1 fp2) (D1 : Draws prog w A i1 fp1 n1 P1 St1) (D2 : Draws prog w A i2 fp2 n2 P2 St2) (hX : Ow X)
    (hz : IsZipG s.heap z TI TO X f) (hTI : IsTupOf2 s.heap TI (.ref i1) (.ref i2)) (hTO : IsTupOf2 s.heap TO a1 a2) (st1 : St1 i s.heap) (st2 : St2 i s.heap) (hlt1 : i < n1) (hlt2 : i < n2)
    (hQ : ∀ x1 x2 h' tk X' f', P1 i x1 → P2 i x2 → Ow X' → IsZipG h' z TI TO X' f' → (∃ b1 b2, IsTupOf2 h' TO b1 b2) → St1 (i + 1) h' → St2 (i + 1) h' → IsTupOf2 h' s.heap.objs.size x1 x2 → h'.objs.size = s.heap.objs.size + 1 →
      (∀ c o, c ≠ z → c ≠ TO → c ≠ i1 → c ≠ i2 → s.heap.get? c = some o → h'.get? c = some o) → Q (.ref s.heap.objs.size) { s with heap := h', toks := tk }) :
    wpAny (model prog w) A (Builtin.«zip.__next__» ⟨[.ref z], []⟩) (fun fin s' => ∃ v, fin = .done (.ret v) ∧ Q v s') E s := by
  obtain ⟨hp, g, d, tk0, os⟩ := s
  show wpAny _ _ (field (.ref z) 2 >>= _) _ _ _
  refine wpAny_bind (wpAny_field hz rfl (x := .bool false) rfl ?_)
  show wpAny _ _ (field (.ref z) 3 >>= _) _ _ _
  refine wpAny_bind (wpAny_field hz rfl (x := .ref TI) rfl ?_)
  refine wpAny_bind (wpAny_seqItems hTI rfl ?_)
  show wpAny _ _ (Builtin.SmallTypes.ownedTupleIsFree (.ref z) >>= _) _ _ _
  refine wpAny_bind (zipFree hz hX ?_ fun h₁ hz₁ hs₁ => ?_)
  · simp only [if_true]
    refine wpAny_bind (wpAny_rule ?_)
    refine wpAny_bind (wpAny_field hz rfl (x := .ref TO) rfl ?_)
    refine wpAny_bind (wpAny_setField_rec hz (by simp) fun g0 hz0 hs0 => ?_)
    replace hz0 : IsZipG g0 z TI TO .ellipsis f := hz0
    replace hs0 : Heap.SameBut z hp g0 := hs0
    refine wpAny_bind ?_
    simp only [List.zipIdx_cons, List.zipIdx_nil, List.forIn_cons, List.forIn_nil]
    refine wpAny_bind (wpAny_bind (wpAny_onRaise ?_))
    show wpAny _ _ (Builtin.SmallTypes.nextOf (.ref i1) >>= _) _ _ ⟨g0, g, d, tk0, os⟩
    refine wpAny_bind (D1.item i _ _ _ hlt1 (over1 D1 st1 hs0 S.zf1) fun x1 p1 tk1 hx1 sn1 hp1 => wpAny_pure ?_)
    replace hp1 : Heap.SameBut i1 g0 p1 := hp1
    have hU1 : IsTupOf2 p1 TO a1 a2 := hp1.extBut _ _ S.Ti1 (hs0.extBut _ _ S.TOz hTO)
    refine wpAny_bind (wpAny_seqItems (s := ⟨p1, g, d, tk1, os⟩) hU1 rfl ?_)
    refine wpAny_bind (updateSeq_IsTupOf2 (s := ⟨p1, g, d, tk1, os⟩) hU1 fun g1 hT1 hs1 => ?_)
    replace hT1 : IsTupOf2 g1 TO x1 a2 := hT1
    replace hs1 : Heap.SameBut TO p1 g1 := hs1
    refine wpAny_bind (wpAny_letGo (wpAny_pure ?_))
    refine wpAny_bind (wpAny_bind (wpAny_onRaise ?_))
    show wpAny _ _ (Builtin.SmallTypes.nextOf (.ref i2) >>= _) _ _ ⟨g1, g, d, tk1, os⟩
    refine wpAny_bind (D2.item i _ _ _ hlt2 (over1 D2 (over1 D2 (over1 D2 st2 hs0 S.zf2) hp1 S.sep1_2) hs1 S.Tf2) fun x2 p2 tk2 hx2 sn2 hp2 => wpAny_pure ?_)
    replace hp2 : Heap.SameBut i2 g1 p2 := hp2
    have hU2 : IsTupOf2 p2 TO x1 a2 := hp2.extBut _ _ S.Ti2 hT1
    refine wpAny_bind (wpAny_seqItems (s := ⟨p2, g, d, tk2, os⟩) hU2 rfl ?_)
    refine wpAny_bind (updateSeq_IsTupOf2 (s := ⟨p2, g, d, tk2, os⟩) hU2 fun g2 hT2 hs2 => ?_)
    replace hT2 : IsTupOf2 g2 TO x1 x2 := hT2
    replace hs2 : Heap.SameBut TO p2 g2 := hs2
    refine wpAny_bind (wpAny_letGo (wpAny_pure (wpAny_pure ?_)))
    refine wpAny_bind (wpAny_seqItems (s := ⟨g2, g, d, tk2, os⟩) hT2 rfl ?_)
    refine wpAny_bind (wpAny_newTuple ?_)
    have hsz : g2.objs.size = hp.objs.size := by rw [hs2.1, hp2.1, hs1.1, hp1.1, hs0.1]
    have hzz : IsZipG g2 z TI TO .ellipsis f := (hs2.extBut _ _ S.TOz.symm (hp2.extBut _ _ S.zi2 (hs1.extBut _ _ S.TOz.symm (hp1.extBut _ _ S.zi1 hz0))))
    have hkk : ∀ c o, c ≠ z → c ≠ TO → c ≠ i1 → c ≠ i2 → hp.get? c = some o → g2.get? c = some o := fun c o cz cT c1 c2 e =>
      (hs2.extBut _ _ cT (hp2.extBut _ _ c2 (hs1.extBut _ _ cT (hp1.extBut _ _ c1 (hs0.extBut _ _ cz e)))))
    have hj1 : St1 (i + 1) g2 := (over1 D1 (over1 D1 (over1 D1 sn1 hs1 S.Tf1) hp2 S.sep2_1) hs2 S.Tf1)
    have hj2 : St2 (i + 1) g2 := (over1 D2 sn2 hs2 S.Tf2)
    have hzlt : z < g2.objs.size := Heap.lt_size hzz
    show wpAny _ _ (Builtin.SmallTypes.ownedTupleHandOut (.ref z) (.ref g2.objs.size) >>= _) _ _ ⟨g2.push { cls := .type "tuple", data := .seq #[x1, x2] }, g, d, tk2, os⟩
    refine wpAny_bind ?_
    unfold Builtin.SmallTypes.ownedTupleHandOut
    have hz₆ : IsZipG (g2.push { cls := .type "tuple", data := .seq #[x1, x2] }) z TI TO .ellipsis f := Heap.get?_push_of_some _ hzz
    refine wpAny_bind (wpAny_setField_rec hz₆ (by simp) fun h₇ hz₇ hs₇ => ?_)
    replace hz₇ : IsZipG h₇ z TI TO (rawInt g2.objs.size) f := hz₇
    refine wpAny_setField_rec hz₇ (by simp) fun h₈ hz₈ hs₈ => ?_
    replace hz₈ : IsZipG h₈ z TI TO (rawInt g2.objs.size) false := hz₈
    replace hs₇ : Heap.SameBut z (g2.push { cls := .type "tuple", data := .seq #[x1, x2] }) h₇ := hs₇
    replace hs₈ : Heap.SameBut z h₇ h₈ := hs₈
    have up : ∀ c o, c ≠ z → g2.get? c = some o → h₈.get? c = some o := fun c o c1 e => hs₈.extBut _ _ c1 (hs₇.extBut _ _ c1 (Heap.get?_push_of_some _ e))
    have hT₈ : IsTupOf2 h₈ g2.objs.size x1 x2 := hs₈.extBut _ _ (Nat.ne_of_gt hzlt) (hs₇.extBut _ _ (Nat.ne_of_gt hzlt) (Heap.get?_push_size _ rfl))
    have hz8 : h₈.objs.size = g2.objs.size + 1 := by rw [hs₈.1, hs₇.1, Heap.size_push]
    rw [hsz] at hz₈ hT₈ hz8
    refine wpAny_pure ⟨_, rfl, ?_⟩
    show Q (.ref g2.objs.size) ⟨h₈, g, d, tk2, os⟩
    rw [hsz]
    exact hQ x1 x2 h₈ tk2 _ _ hx1 hx2 (.inr ⟨_, rfl⟩) hz₈ ⟨_, _, up _ _ S.TOz hT2⟩ (D1.frame _ _ _ hj1 fun b hb o e => up b o (fun q => S.zf1 (q ▸ hb)) e) (D2.frame _ _ _ hj2 fun b hb o e => up b o (fun q => S.zf2 (q ▸ hb)) e) hT₈ hz8 fun c o cz cT c1 c2 e => up c o cz (hkk c o cz cT c1 c2 e)
  · replace hs₁ : Heap.SameBut z hp h₁ := hs₁
    simp only [Bool.false_eq_true, if_false]
    refine wpAny_bind ?_
    rw [← Array.forIn_toList]
    simp only [List.forIn_cons, List.forIn_nil]
    refine wpAny_bind (wpAny_bind (wpAny_holding ?_))
    show wpAny _ _ (Builtin.SmallTypes.nextOf (.ref i1) >>= _) _ _ ⟨h₁, g, d, tk0, os⟩
    refine wpAny_bind (D1.item i _ _ _ hlt1 (over1 D1 st1 hs₁ S.zf1) fun x1 h₂ tk1 hx1 sn1 hs₂ => wpAny_pure ?_)
    replace hs₂ : Heap.SameBut i1 h₁ h₂ := hs₂
    refine wpAny_pure ?_
    refine wpAny_bind (wpAny_bind (wpAny_holding ?_))
    show wpAny _ _ (Builtin.SmallTypes.nextOf (.ref i2) >>= _) _ _ ⟨h₂, g, d, tk1, os⟩
    refine wpAny_bind (D2.item i _ _ _ hlt2 (over1 D2 (over1 D2 st2 hs₁ S.zf2) hs₂ S.sep1_2) fun x2 h₃ tk2 hx2 sn2 hs₃ => wpAny_pure ?_)
    replace hs₃ : Heap.SameBut i2 h₂ h₃ := hs₃
    refine wpAny_pure (wpAny_pure ?_)
    show wpAny _ _ (newTuple [x1, x2] >>= _) _ _ ⟨h₃, g, d, tk2, os⟩
    refine wpAny_bind (wpAny_newTuple ?_)
    have hsz : h₃.objs.size = hp.objs.size := by rw [hs₃.1, hs₂.1, hs₁.1]
    have hz₃ : IsZipG h₃ z TI TO X true := hs₃.extBut _ _ S.zi2 (hs₂.extBut _ _ S.zi1 hz₁)
    have hk : ∀ c o, c ≠ z → c ≠ i1 → c ≠ i2 → hp.get? c = some o → h₃.get? c = some o := fun c o c1 c2 c3 e => hs₃.extBut _ _ c3 (hs₂.extBut _ _ c2 (hs₁.extBut _ _ c1 e))
    have hj1 : St1 (i + 1) h₃ := over1 D1 sn1 hs₃ S.sep2_1
    refine wpAny_pure ⟨_, rfl, ?_⟩
    show Q (.ref h₃.objs.size) ⟨h₃.push { cls := .type "tuple", data := .seq #[x1, x2] }, g, d, tk2, os⟩
    have hpn : IsTupOf2 (h₃.push { cls := .type "tuple", data := .seq #[x1, x2] }) h₃.objs.size x1 x2 := Heap.get?_push_size _ rfl
    have hz4 : (h₃.push { cls := .type "tuple", data := .seq #[x1, x2] }).objs.size = h₃.objs.size + 1 := Heap.size_push ..
    have up : ∀ c o, h₃.get? c = some o → (h₃.push { cls := .type "tuple", data := .seq #[x1, x2] }).get? c = some o := fun c o e => Heap.get?_push_of_some _ e
    rw [hsz] at hpn hz4 ⊢
    exact hQ x1 x2 _ tk2 X true hx1 hx2 hX (up _ _ hz₃) ⟨_, _, up _ _ (hk _ _ S.TOz S.Ti1 S.Ti2 hTO)⟩ (D1.frame _ _ _ hj1 fun b _ o e => up b o e) (D2.frame _ _ _ sn2 fun b _ o e => up b o e) hpn hz4 fun c o cz _ c1 c2 e => up c o (hk c o cz c1 c2 e)
theorem zipG_end {X : Value} {f : Bool} {Q : Fin → Shared → Prop} (S : ZipSep2 z TI TO i1 i2 fp1 fp2) (D1 : Draws prog w A i1 fp1 n1 P1 St1) (D2 : Draws prog w A i2 fp2 n2 P2 St2) (hX : Ow X)
    (hz : IsZipG s.heap z TI TO X f) (hTI : IsTupOf2 s.heap TI (.ref i1) (.ref i2)) (hTO : IsTupOf2 s.heap TO a1 a2) (st1 : St1 i s.heap) (st2 : St2 i s.heap) (hle1 : i ≤ n1) (hle2 : i ≤ n2) (hend : i = n1 ∨ i = n2)
    (hE : ∀ h' tk e, (∀ c o, c ≠ z → c ≠ TO → c ≠ i1 → c ≠ i2 → s.heap.get? c = some o → h'.get? c = some o) → (∃ o, h'.get? e = some o ∧ o.cls = .type "StopIteration") → E (.ref e) { s with heap := h', toks := tk }) :
    wpAny (model prog w) A (Builtin.«zip.__next__» ⟨[.ref z], []⟩) Q E s := by
  obtain ⟨hp, g, d, tk0, os⟩ := s
  show wpAny _ _ (field (.ref z) 2 >>= _) _ _ _
  refine wpAny_bind (wpAny_field hz rfl (x := .bool false) rfl ?_)
  show wpAny _ _ (field (.ref z) 3 >>= _) _ _ _
  refine wpAny_bind (wpAny_field hz rfl (x := .ref TI) rfl ?_)
  refine wpAny_bind (wpAny_seqItems hTI rfl ?_)
  show wpAny _ _ (Builtin.SmallTypes.ownedTupleIsFree (.ref z) >>= _) _ _ _
  refine wpAny_bind (zipFree hz hX ?_ fun h₁ hz₁ hs₁ => ?_)
  · simp only [if_true]
    refine wpAny_bind (wpAny_rule ?_)
    refine wpAny_bind (wpAny_field hz rfl (x := .ref TO) rfl ?_)
    refine wpAny_bind (wpAny_setField_rec hz (by simp) fun g0 hz0 hs0 => ?_)
    replace hz0 : IsZipG g0 z TI TO .ellipsis f := hz0
    replace hs0 : Heap.SameBut z hp g0 := hs0
    refine wpAny_bind ?_
    simp only [List.zipIdx_cons, List.zipIdx_nil, List.forIn_cons, List.forIn_nil]
    refine wpAny_bind (wpAny_bind (wpAny_onRaise ?_))
    show wpAny _ _ (Builtin.SmallTypes.nextOf (.ref i1) >>= _) _ _ ⟨g0, g, d, tk0, os⟩
    by_cases hlt1 : i < n1
    · refine wpAny_bind (D1.item i _ _ _ hlt1 (over1 D1 st1 hs0 S.zf1) fun x1 p1 tk1 hx1 sn1 hp1 => wpAny_pure ?_)
      replace hp1 : Heap.SameBut i1 g0 p1 := hp1
      have hU1 : IsTupOf2 p1 TO a1 a2 := hp1.extBut _ _ S.Ti1 (hs0.extBut _ _ S.TOz hTO)
      refine wpAny_bind (wpAny_seqItems (s := ⟨p1, g, d, tk1, os⟩) hU1 rfl ?_)
      refine wpAny_bind (updateSeq_IsTupOf2 (s := ⟨p1, g, d, tk1, os⟩) hU1 fun g1 hT1 hs1 => ?_)
      replace hT1 : IsTupOf2 g1 TO x1 a2 := hT1
      replace hs1 : Heap.SameBut TO p1 g1 := hs1
      refine wpAny_bind (wpAny_letGo (wpAny_pure ?_))
      have hi2 : i = n2 := by omega
      refine wpAny_bind (wpAny_bind (wpAny_onRaise ?_))
      show wpAny _ _ (Builtin.SmallTypes.nextOf (.ref i2) >>= _) _ _ ⟨g1, g, d, tk1, os⟩
      refine wpAny_bind (D2.done ⟨g1, g, d, tk1, os⟩ _ _ (by rw [← hi2]; exact (over1 D2 (over1 D2 (over1 D2 st2 hs0 S.zf2) hp1 S.sep1_2) hs1 S.Tf2)) fun q e hq he => ?_)
      replace hq : Heap.ExtBut i2 g1 q := hq
      obtain ⟨oe, hoe, hce⟩ := he
      replace hoe : q.get? e = some oe := hoe
      have hzq : IsZipG q z TI TO .ellipsis f := hq _ _ S.zi2 (hs1.extBut _ _ S.TOz.symm (hp1.extBut _ _ S.zi1 hz0))
      have hez : e ≠ z := fun x => by subst x; rw [hzq] at hoe; cases hoe; simp at hce
      refine wpAny_setField_rec (s := ⟨q, g, d, tk1, os⟩) hzq (by simp) fun q' _ hq' => ?_
      replace hq' : Heap.SameBut z q q' := hq'
      exact hE q' tk1 e (fun c o cz cT c1 c2 x => hq'.extBut _ _ cz (hq _ _ c2 (hs1.extBut _ _ cT (hp1.extBut _ _ c1 (hs0.extBut _ _ cz x))))) ⟨oe, hq'.extBut _ _ hez hoe, hce⟩
    · have hi1 : i = n1 := by omega
      refine wpAny_bind (D1.done ⟨g0, g, d, tk0, os⟩ _ _ (by rw [← hi1]; exact (over1 D1 st1 hs0 S.zf1)) fun q e hq he => ?_)
      replace hq : Heap.ExtBut i1 g0 q := hq
      obtain ⟨oe, hoe, hce⟩ := he
      replace hoe : q.get? e = some oe := hoe
      have hzq : IsZipG q z TI TO .ellipsis f := hq _ _ S.zi1 hz0
      have hez : e ≠ z := fun x => by subst x; rw [hzq] at hoe; cases hoe; simp at hce
      refine wpAny_setField_rec (s := ⟨q, g, d, tk0, os⟩) hzq (by simp) fun q' _ hq' => ?_
      replace hq' : Heap.SameBut z q q' := hq'
      exact hE q' tk0 e (fun c o cz cT c1 c2 x => hq'.extBut _ _ cz (hq _ _ c1 (hs0.extBut _ _ cz x))) ⟨oe, hq'.extBut _ _ hez hoe, hce⟩
  · replace hs₁ : Heap.SameBut z hp h₁ := hs₁
    simp only [Bool.false_eq_true, if_false]
    refine wpAny_bind ?_
    rw [← Array.forIn_toList]
    simp only [List.forIn_cons, List.forIn_nil]
    refine wpAny_bind (wpAny_bind (wpAny_holding ?_))
    show wpAny _ _ (Builtin.SmallTypes.nextOf (.ref i1) >>= _) _ _ ⟨h₁, g, d, tk0, os⟩
    by_cases hlt1 : i < n1
    · refine wpAny_bind (D1.item i _ _ _ hlt1 (over1 D1 st1 hs₁ S.zf1) fun x1 h₂ tk1 hx1 sn1 hs₂ => wpAny_pure ?_)
      replace hs₂ : Heap.SameBut i1 h₁ h₂ := hs₂
      have hi2 : i = n2 := by omega
      refine wpAny_pure ?_
      refine wpAny_bind (wpAny_bind (wpAny_holding ?_))
      show wpAny _ _ (Builtin.SmallTypes.nextOf (.ref i2) >>= _) _ _ ⟨h₂, g, d, tk1, os⟩
      refine wpAny_bind (D2.done ⟨h₂, g, d, tk1, os⟩ _ _ (by rw [← hi2]; exact (over1 D2 (over1 D2 st2 hs₁ S.zf2) hs₂ S.sep1_2)) fun q e hq he => ?_)
      replace hq : Heap.ExtBut i2 h₂ q := hq
      exact hE q tk1 e (fun c o cz cT c1 c2 x => hq _ _ c2 (hs₂.extBut _ _ c1 (hs₁.extBut _ _ cz x))) he
    · have hi1 : i = n1 := by omega
      refine wpAny_bind (D1.done ⟨h₁, g, d, tk0, os⟩ _ _ (by rw [← hi1]; exact (over1 D1 st1 hs₁ S.zf1)) fun q e hq he => ?_)
      replace hq : Heap.ExtBut i1 h₁ q := hq
      exact hE q tk0 e (fun c o cz cT c1 c2 x => hq _ _ c1 (hs₁.extBut _ _ cz x)) he
theorem zipG_next {X : Value} {f : Bool} {Q : Value → Shared → Prop} (S : ZipSep2 z TI TO i1 i2 fp1 fp2) (D1 : Draws prog w A.in1 i1 fp1 n1 P1 St1) (D2 : Draws prog w A.in1 i2 fp2 n2 P2 St2) (hX : Ow X)
    (hz : IsZipG s.heap z TI TO X f) (hTI : IsTupOf2 s.heap TI (.ref i1) (.ref i2)) (hTO : IsTupOf2 s.heap TO a1 a2) (st1 : St1 i s.heap) (st2 : St2 i s.heap) (hlt1 : i < n1) (hlt2 : i < n2)
    (hQ : ∀ x1 x2 h' tk X' f', P1 i x1 → P2 i x2 → Ow X' → IsZipG h' z TI TO X' f' → (∃ b1 b2, IsTupOf2 h' TO b1 b2) → St1 (i + 1) h' → St2 (i + 1) h' → IsTupOf2 h' s.heap.objs.size x1 x2 → h'.objs.size = s.heap.objs.size + 1 →
      (∀ c o, c ≠ z → c ≠ TO → c ≠ i1 → c ≠ i2 → s.heap.get? c = some o → h'.get? c = some o) → Q (.ref s.heap.objs.size) { s with heap := h', toks := tk }) :
    wpAny (model prog w) A (Builtin.SmallTypes.nextOf (.ref z)) Q E s := by
  have hT : s.TypeIs (.ref z) "zip" := ⟨_, hz, rfl⟩
  unfold Builtin.SmallTypes.nextOf
  refine wpAny_bind (wpAny_callSpecial?_slot (name := Str.ofString "__next__") hT F.slot_zip_next
    (wpAny_call_entry F.slot_zip_next hT F.entry_zip_next ?_ (F.args_zip_next_1 _)))
  exact zipG_item S D1 D2 hX hz hTI hTO st1 st2 hlt1 hlt2 fun x1 x2 h' tk X' f' y1 y2 b1 b2 b3 d1 d2 b5 b6 b7 => wpAny_pure (hQ x1 x2 h' tk X' f' y1 y2 b1 b2 b3 d1 d2 b5 b6 b7)
theorem zipG_stop {X : Value} {f : Bool} {Q : Value → Shared → Prop} (S : ZipSep2 z TI TO i1 i2 fp1 fp2) (D1 : Draws prog w A.in1 i1 fp1 n1 P1 St1) (D2 : Draws prog w A.in1 i2 fp2 n2 P2 St2) (hX : Ow X)
    (hz : IsZipG s.heap z TI TO X f) (hTI : IsTupOf2 s.heap TI (.ref i1) (.ref i2)) (hTO : IsTupOf2 s.heap TO a1 a2) (st1 : St1 i s.heap) (st2 : St2 i s.heap) (hle1 : i ≤ n1) (hle2 : i ≤ n2) (hend : i = n1 ∨ i = n2)
    (hE : ∀ h' tk e, (∀ c o, c ≠ z → c ≠ TO → c ≠ i1 → c ≠ i2 → s.heap.get? c = some o → h'.get? c = some o) → (∃ o, h'.get? e = some o ∧ o.cls = .type "StopIteration") → E (.ref e) { s with heap := h', toks := tk }) :
    wpAny (model prog w) A (Builtin.SmallTypes.nextOf (.ref z)) Q E s := by
  have hT : s.TypeIs (.ref z) "zip" := ⟨_, hz, rfl⟩
  unfold Builtin.SmallTypes.nextOf
  refine wpAny_bind (wpAny_callSpecial?_slot (name := Str.ofString "__next__") hT F.slot_zip_next
    (wpAny_call_entry F.slot_zip_next hT F.entry_zip_next ?_ (F.args_zip_next_1 _)))
  exact zipG_end S D1 D2 hX hz hTI hTO st1 st2 hle1 hle2 hend hE
end
end PyD

/-! PyJ3: enumerate(zip(x, y)) as a source. -/
namespace PyD
open PySem L2 LamX
section
variable {prog : Program} {w : World} {A : Around} {E : Value → Shared → Prop} {s : Shared}
theorem enumG_item {e it : Addr} {i : Nat} {old : Value} {R : Value → Heap → Prop} {Q : Value → Shared → Prop}
    (hn : ∀ Q' : Value → Shared → Prop, (∀ x h1 tk1, R x h1 → IsEnum h1 e it i old → Q' x { s with heap := h1, toks := tk1 }) → wpAny (model prog w) A (Builtin.SmallTypes.nextOf (.ref it)) Q' E s)
    (he : IsEnum s.heap e it i old)
    (hQ : ∀ x h1 h' tk, R x h1 → IsEnumOut h' e it ((i : Int) + 1) x h1.objs.size → e < h1.objs.size → h'.get? h1.objs.size = some { cls := .type "tuple", data := .seq #[.int i tk, x] } → h'.objs.size = h1.objs.size + 1 →
      (∀ b o, b ≠ e → h1.get? b = some o → h'.get? b = some o) → Q (.ref h1.objs.size) { s with heap := h', toks := tk + 1 }) :
    wpAny (model prog w) A (Builtin.«enumerate.__next__» ⟨[.ref e], []⟩) (fun fin s' => ∃ v, fin = .done (.ret v) ∧ Q v s') E s := by
  obtain ⟨hp0, g, d, tk₀, os⟩ := s
  show wpAny _ _ (field (.ref e) 2 >>= _) _ _ _
  refine wpAny_bind (wpAny_field he rfl (x := .ref it) rfl ?_)
  refine wpAny_bind (hn _ fun x hp tk hR he₁ => ?_)
  show wpAny _ _ (field (.ref e) 3 >>= _) _ _ ⟨hp, g, d, tk, os⟩
  refine wpAny_bind (wpAny_field he₁ rfl (x := rawInt i) rfl ?_)
  show wpAny _ _ (field (.ref e) 4 >>= _) _ _ ⟨hp, g, d, tk, os⟩
  refine wpAny_bind (wpAny_field he₁ rfl (x := .none) rfl ?_)
  show wpAny _ _ (mkInt i >>= _) _ _ ⟨hp, g, d, tk, os⟩
  refine wpAny_bind (wpAny_mkInt ?_)
  show wpAny _ _ (setField (.ref e) 3 (rawInt ((i : Int) + 1)) >>= _) _ _ ⟨hp, g, d, tk + 1, os⟩
  refine wpAny_bind (wpAny_setField_rec he₁ (by simp) fun h₂ he₂ hs₂ => ?_)
  replace hs₂ : Heap.SameBut e hp h₂ := hs₂
  replace he₂ : IsEnum h₂ e it ((i : Int) + 1) old := he₂
  show wpAny _ _ (setField (.ref e) 4 .none >>= _) _ _ ⟨h₂, g, d, tk + 1, os⟩
  refine wpAny_bind (wpAny_setField_rec he₂ (by simp) fun h₃ he₃ hs₃ => ?_)
  replace hs₃ : Heap.SameBut e h₂ h₃ := hs₃
  replace he₃ : IsEnum h₃ e it ((i : Int) + 1) old := he₃
  show wpAny _ _ (newTuple [.int i tk, x] >>= _) _ _ ⟨h₃, g, d, tk + 1, os⟩
  refine wpAny_bind (wpAny_newTuple ?_)
  have he₄ : IsEnum (h₃.push { cls := .type "tuple", data := .seq #[.int i tk, x] }) e it ((i : Int) + 1) old := Heap.get?_push_of_some _ he₃
  generalize hh₄ : h₃.push { cls := .type "tuple", data := .seq #[.int i tk, x] } = h₄ at he₄
  have hsz : h₃.objs.size = hp.objs.size := by rw [hs₃.1, hs₂.1]
  have hel : e < hp.objs.size := Heap.lt_size he₁
  have ht₄ : h₄.get? hp.objs.size = some { cls := .type "tuple", data := .seq #[.int i tk, x] } := by rw [← hh₄, ← hsz]; exact Heap.get?_push_size _ rfl
  have hz₄ : h₄.objs.size = hp.objs.size + 1 := by rw [← hh₄, Heap.size_push, hsz]
  have hk₄ : ∀ b o, b ≠ e → hp.get? b = some o → h₄.get? b = some o := fun b o hbe hb => by
    rw [← hh₄]; exact Heap.get?_push_of_some _ (hs₃.extBut b o hbe (hs₂.extBut b o hbe hb))
  show wpAny _ _ (Builtin.SmallTypes.ownedTupleIsFree (.ref e) >>= _) _ _ ⟨h₄, g, d, tk + 1, os⟩
  rw [hsz]
  clear hh₄ he₃ hs₃ he₂ hs₂ hsz h₃ h₂
  refine wpAny_bind ?_
  · unfold Builtin.SmallTypes.ownedTupleIsFree
    refine wpAny_bind (wpAny_field he₄ rfl (x := .none) rfl (wpAny_pure ?_))
    simp only [if_true]
    refine wpAny_bind (wpAny_rule ?_)
    refine wpAny_bind (wpAny_field he₄ rfl (x := old) rfl ?_)
    refine wpAny_bind (wpAny_setField_rec he₄ (by simp) fun h₅ he₅ hs₅ => ?_)
    replace hs₅ : Heap.SameBut e h₄ h₅ := hs₅
    replace he₅ : IsEnum h₅ e it ((i : Int) + 1) x := he₅
    show wpAny _ _ (Builtin.SmallTypes.ownedTupleHandOut (.ref e) (.ref hp.objs.size) >>= _) _ _ ⟨h₅, g, d, tk + 1, os⟩
    refine wpAny_bind ?_
    · unfold Builtin.SmallTypes.ownedTupleHandOut
      refine wpAny_bind (wpAny_setField_rec he₅ (by simp) fun h₆ he₆ hs₆ => ?_)
      replace hs₆ : Heap.SameBut e h₅ h₆ := hs₆
      replace he₆ : IsEnumOut h₆ e it ((i : Int) + 1) x hp.objs.size := he₆
      refine wpAny_setField_rec he₆ (by simp) fun h₇ he₇ hs₇ => ?_
      replace hs₇ : Heap.SameBut e h₆ h₇ := hs₇
      replace he₇ : IsEnumOut h₇ e it ((i : Int) + 1) x hp.objs.size := he₇
      refine wpAny_bind (wpAny_letGo (wpAny_pure ⟨_, rfl, hQ x hp h₇ tk hR he₇ hel ?_ ?_ ?_⟩))
      · exact hs₇.extBut _ _ (Nat.ne_of_gt hel) (hs₆.extBut _ _ (Nat.ne_of_gt hel) (hs₅.extBut _ _ (Nat.ne_of_gt hel) ht₄))
      · rw [hs₇.1, hs₆.1, hs₅.1, hz₄]
      · exact fun b o hbe hb => hs₇.extBut b o hbe (hs₆.extBut b o hbe (hs₅.extBut b o hbe (hk₄ b o hbe hb)))
theorem enumG_next {e it : Addr} {i : Nat} {old : Value} {R : Value → Heap → Prop} {Q : Option Value → Shared → Prop}
    (hn : ∀ Q' E' , (∀ x h1 tk1, R x h1 → IsEnum h1 e it i old → Q' x { s with heap := h1, toks := tk1 }) → wpAny (model prog w) A.in1 (Builtin.SmallTypes.nextOf (.ref it)) Q' E' s)
    (he : IsEnum s.heap e it i old)
    (hQ : ∀ x h1 h' tk, R x h1 → IsEnumOut h' e it ((i : Int) + 1) x h1.objs.size → e < h1.objs.size → h'.get? h1.objs.size = some { cls := .type "tuple", data := .seq #[.int i tk, x] } → h'.objs.size = h1.objs.size + 1 →
      (∀ b o, b ≠ e → h1.get? b = some o → h'.get? b = some o) → Q (some (.ref h1.objs.size)) { s with heap := h', toks := tk + 1 }) :
    wpAny (model prog w) A (pyNext (.ref e)) Q E s := by
  have hT : s.TypeIs (.ref e) "enumerate" := ⟨_, he, rfl⟩
  unfold pyNext
  refine wpAny_bind (wpAny_attempt (wpAny_callSpecial?_slot (name := Str.ofString "__next__") hT F.slot_enumerate_next
    (wpAny_call_entry F.slot_enumerate_next hT F.entry_enumerate_next ?_ (F.args_enumerate_next_1 _))))
  exact enumG_item (fun Q' h => hn Q' _ h) he fun x h1 h' tk a b c d k q => wpAny_pure (hQ x h1 h' tk a b c d k q)
theorem enumG_end {e it : Addr} {i : Int} {old : Value} {Q : Option Value → Shared → Prop} {ch : List Addr}
    (hn : ∀ (Q' : Value → Shared → Prop) (E' : Value → Shared → Prop), (∀ h' tk x, (∀ b o, b ∉ ch → s.heap.get? b = some o → h'.get? b = some o) → (∃ o, h'.get? x = some o ∧ o.cls = .type "StopIteration") → E' (.ref x) { s with heap := h', toks := tk }) → wpAny (model prog w) A.in1 (Builtin.SmallTypes.nextOf (.ref it)) Q' E' s)
    (he : IsEnum s.heap e it i old)
    (hQ : ∀ h' tk, (∀ b o, b ∉ ch → s.heap.get? b = some o → h'.get? b = some o) → Q none { s with heap := h', toks := tk }) : wpAny (model prog w) A (pyNext (.ref e)) Q E s := by
  have hT : s.TypeIs (.ref e) "enumerate" := ⟨_, he, rfl⟩
  unfold pyNext
  refine wpAny_bind (wpAny_attempt (wpAny_callSpecial?_slot (name := Str.ofString "__next__") hT F.slot_enumerate_next
    (wpAny_call_entry F.slot_enumerate_next hT F.entry_enumerate_next ?_ (F.args_enumerate_next_1 _))))
  show wpAny _ _ (field (.ref e) 2 >>= _) _ _ _
  refine wpAny_bind (wpAny_field he rfl (x := .ref it) rfl ?_)
  refine wpAny_bind (hn _ _ fun h' tk x hk hx' => ?_)
  obtain ⟨o, ho, hc⟩ := hx'
  refine wpAny_bind (wpAny_isInstance (T := "StopIteration") (b := true) ⟨o, ho, hc⟩ isSubtype_stop ?_)
  exact wpAny_pure (hQ _ _ hk)
end
def ItezK (k j : Bool) (K : PySem.W.Frag) (a b : Addr) : It :=
  ⟨fun i H => ∃ (xs ys : List V) (x y : V), SqK k K H a xs ∧ SqK j K H b ys ∧ xs[i]? = some x ∧ ys[i]? = some y,
    fun i H v H' => ∃ T U x y, v = .ref U ∧ H T = none ∧ L2.upd H T (.tup [x, y]) U = none ∧ H' = L2.upd (L2.upd H T (.tup [x, y])) U (.tup [.int (i : Nat), .ref T]) ∧ (∀ xs, SqK k K H a xs → xs[i]? = some x) ∧ ∀ ys, SqK j K H b ys → ys[i]? = some y,
    fun i H => ∃ xs ys : List V, SqK k K H a xs ∧ SqK j K H b ys ∧ i ≤ xs.length ∧ i ≤ ys.length ∧ (xs.length = i ∨ ys.length = i)⟩
theorem turn_enzK {P : Program} {w : World} {K : PySem.W.Frag} {elts : List Expr} {kk : Nat} {tpos : Pos} {k j : Bool} {a b e z TI TO i1 i2 : Addr} (D : ZipSep2 z TI TO i1 i2 [i1, a] [i2, b])
    (ne : ∀ c ∈ [z, TI, TO, i1, i2], c ≠ e) :
    Turn P w K (.Tuple elts kk tpos) (ItezK k j K a b) [e, z, TI, TO, i1, i2] e (fun i h => (∃ old, IsEnum h e z ((i : Nat) : Int) old) ∧ (∃ X f, Ow X ∧ IsZipG h z TI TO X f) ∧ IsTupOf2 h TI (.ref i1) (.ref i2) ∧ (∃ x y, IsTupOf2 h TO x y) ∧ IterK k h i1 a i ∧ IterK j h i2 b i) where
  mem := by simp
  obj := fun i h st c hc => by
    obtain ⟨⟨old, he⟩, ⟨X, f, _, hz⟩, hTI, ⟨x, y, hTO⟩, h1, h2⟩ := st
    have e' : c = e ∨ c = z ∨ c = TI ∨ c = TO ∨ c = i1 ∨ c = i2 := by simpa using hc
    rcases e' with q | q | q | q | q | q
    · rw [q]; exact ⟨_, he, fun v q => nomatch q⟩
    · rw [q]; exact ⟨_, hz, fun v q => nomatch q⟩
    · rw [q]; exact ⟨_, hTI, fun v q => nomatch q⟩
    · rw [q]; exact ⟨_, hTO, fun v q => nomatch q⟩
    · rw [q]; exact h1.rec
    · rw [q]; exact h2.rec
  keep := fun i h h' st q => by
    obtain ⟨⟨old, he⟩, ⟨X, f, oX, hz⟩, hTI, ⟨x, y, hTO⟩, h1, h2⟩ := st
    exact ⟨⟨old, q e (by simp) _ he⟩, ⟨X, f, oX, q z (by simp) _ hz⟩, q TI (by simp) _ hTI, ⟨x, y, q TO (by simp) _ hTO⟩, h1.at fun o r => q i1 (by simp) o r, h2.at fun o r => q i2 (by simp) o r⟩
  item := by
    intro X hP hw hK hc i pins s σ H E I hf st hg
    subst hP hw hK
    obtain ⟨⟨old, he⟩, ⟨X0, f0, oX, hz⟩, hTI, ⟨x0, y0, hTO⟩, h1, h2⟩ := st
    obtain ⟨xs, ys, x, y, hqx, hqy, hx, hy⟩ := hg
    obtain ⟨its, rv, p⟩ := inv_seqK I hqx
    obtain ⟨its2, rv2, p2⟩ := inv_seqK I hqy
    obtain ⟨u, hu, ru⟩ := rv.get hx
    obtain ⟨u2, hu2, ru2⟩ := rv2.get hy
    have hzl : z < s.heap.objs.size := Heap.lt_size hz
    have l1 : i < its.toArray.size := by have := (List.getElem?_eq_some_iff.mp hu).1; simpa using this
    have l2 : i < its2.toArray.size := by have := (List.getElem?_eq_some_iff.mp hu2).1; simpa using this
    have ai : a ≠ i1 := p.ne_iter h1
    have bi : b ≠ i2 := p2.ne_iter h2
    have nz : e ≠ z := fun q => ne z (by simp) q.symm
    have nTI : e ≠ TI := fun q => ne TI (by simp) q.symm
    have nTO : e ≠ TO := fun q => ne TO (by simp) q.symm
    have n1 : e ≠ i1 := fun q => ne i1 (by simp) q.symm
    have n2 : e ≠ i2 := fun q => ne i2 (by simp) q.symm
    refine enumG_next (R := fun v h' => v = .ref s.heap.objs.size ∧ (∃ X' f', Ow X' ∧ IsZipG h' z TI TO X' f') ∧ (∃ b1 b2, IsTupOf2 h' TO b1 b2) ∧ IterK k h' i1 a (i + 1) ∧ IterK j h' i2 b (i + 1) ∧ IsTupOf2 h' s.heap.objs.size u u2 ∧ h'.objs.size = s.heap.objs.size + 1 ∧
      (∀ c o, c ≠ z → c ≠ TO → c ≠ i1 → c ≠ i2 → s.heap.get? c = some o → h'.get? c = some o)) (fun Q' E' h => ?_) he fun v h1' h' tk hR he' hel hT hsz hk => ?_
    · refine zipG_next D (draws_K (prog := X.prog) (w := X.w) k (A := X.A.in1.in1) (I.ok.hd hc) i1 a ai its.toArray) (draws_K (prog := X.prog) (w := X.w) j (A := X.A.in1.in1) (I.ok.hd hc) i2 b bi its2.toArray) oX hz hTI hTO ⟨h1, p⟩ ⟨h2, p2⟩ l1 l2 fun x1 x2 h' tk X' f' px py oX' z' TO' h1' h2' hT hsz hk => ?_
      have e1 : x1 = u := by
        have : its[i]? = some x1 := by simpa using px
        rw [hu] at this
        exact (Option.some.inj this).symm
      have e2 : x2 = u2 := by
        have : its2[i]? = some x2 := by simpa using py
        rw [hu2] at this
        exact (Option.some.inj this).symm
      subst e1 e2
      exact h _ h' tk ⟨rfl, ⟨X', f', oX', z'⟩, TO', h1'.1, h2'.1, hT, hsz, hk⟩ (hk e _ nz nTO n1 n2 he)
    · obtain ⟨rfl, ⟨X', f', oX', hz'⟩, ⟨b1, b2, hTO'⟩, h1x, h2x, hTin, hsz1, hk1⟩ := hR
      refine ⟨_, rfl, wpAny_letOwnedTupleGo_enum (s := { s with heap := h', toks := tk + 1 }) he' fun h'' he'' sb => ?_⟩
      have newT : ObjOk X.prog X.w (L2.upd H s.heap.objs.size (.tup [x, y])) h1' s.heap.objs.size (.tup [x, y]) :=
        ⟨by show 2 ≤ sizeLine; decide, [u, u2], .cons ru (.cons ru2 .nil), ⟨_, hTin, rfl, _, rfl⟩⟩
      have I1 : L2.Inv X pins σ (L2.upd H s.heap.objs.size (.tup [x, y])) { s with heap := h1', toks := tk } :=
        I.turnedNew (t' := tk) (ch := [e, z, TI, TO, i1, i2]) (fun c o hb q => hk1 c o (fun q' => hb (by simp [q'])) (fun q' => hb (by simp [q'])) (fun q' => hb (by simp [q'])) (fun q' => hb (by simp [q'])) q) hf (Nat.le_refl _) newT
      have hltc : ∀ c ∈ [e, z, TI, TO, i1, i2], c < s.heap.objs.size := fun c hcm => by
        have e' : c = e ∨ c = z ∨ c = TI ∨ c = TO ∨ c = i1 ∨ c = i2 := by simpa using hcm
        rcases e' with q | q | q | q | q | q
        · rw [q]; exact Heap.lt_size he
        · rw [q]; exact hzl
        · rw [q]; exact Heap.lt_size hTI
        · rw [q]; exact Heap.lt_size hTO
        · rw [q]; obtain ⟨_, e1, _⟩ := h1.rec; exact Heap.lt_size e1
        · rw [q]; obtain ⟨_, e2, _⟩ := h2.rec; exact Heap.lt_size e2
      have hf1 : ∀ c ∈ [e, z, TI, TO, i1, i2], FpOk X pins (L2.upd H s.heap.objs.size (.tup [x, y])) c := fun c hcm => by
        obtain ⟨q0, q1⟩ := hf c hcm
        exact ⟨by rw [upd_ne (Nat.ne_of_lt (hltc c hcm))]; exact q0, q1⟩
      have hT2 : h''.get? h1'.objs.size = some { cls := .type "tuple", data := .seq #[.int i tk, .ref s.heap.objs.size] } := (sb.2 _ (Nat.ne_of_gt hel)).trans hT
      have newU : ObjOk X.prog X.w (L2.upd (L2.upd H s.heap.objs.size (.tup [x, y])) h1'.objs.size (.tup [.int (i : Nat), .ref s.heap.objs.size])) h'' h1'.objs.size (.tup [.int (i : Nat), .ref s.heap.objs.size]) :=
        ⟨by show 2 ≤ sizeLine; decide, [.int i tk, .ref s.heap.objs.size], .cons ⟨_, rfl⟩ (.cons rfl .nil), ⟨_, hT2, rfl, _, rfl⟩⟩
      have I2 : L2.Inv X pins σ (L2.upd (L2.upd H s.heap.objs.size (.tup [x, y])) h1'.objs.size (.tup [.int (i : Nat), .ref s.heap.objs.size])) { s with heap := h'', toks := tk + 1 } :=
        I1.turnedNew (t' := tk + 1) (ch := [e, z, TI, TO, i1, i2]) (fun c o hb q => (sb.2 c (fun q' => hb (by simp [q']))).trans (hk c o (fun q' => hb (by simp [q'])) q)) hf1 (Nat.le_refl _) newU
      have up : ∀ c o, c ≠ e → h1'.get? c = some o → h''.get? c = some o := fun c o q r => (sb.2 c q).trans (hk c o q r)
      refine ⟨.ref h1'.objs.size, _, I2, rfl, ⟨_, _, x, y, rfl, I.hok.fresh (Nat.le_refl _), I1.hok.fresh (Nat.le_refl _), rfl, fun l hl => by rw [seqK_inj I hl hqx]; exact hx, fun l hl => by rw [seqK_inj I hl hqy]; exact hy⟩, ⟨⟨.ref s.heap.objs.size, ?_⟩, ⟨X', f', oX', up _ _ nz.symm hz'⟩, ?_, ⟨b1, b2, up _ _ nTO.symm hTO'⟩, ?_, ?_⟩, fun c hcm => ?_⟩
      · have e1 : ((i + 1 : Nat) : Int) = (i : Int) + 1 := by omega
        rw [e1]; exact he''
      · exact up _ _ nTI.symm (hk1 _ _ D.TIz D.TITO D.TIi1 D.TIi2 hTI)
      · exact h1x.at fun o q => up _ _ n1.symm q
      · exact h2x.at fun o q => up _ _ n2.symm q
      · have := hltc c hcm
        rw [upd_ne (Nat.ne_of_lt (by rw [hsz1]; exact Nat.lt_succ_of_lt this)), upd_ne (Nat.ne_of_lt this)]
        exact (hf c hcm).1
  done := by
    intro X hP hw hK hc i pins s σ H E I hf st hg
    subst hP hw hK
    obtain ⟨⟨old, he⟩, ⟨X0, f0, oX, hz⟩, hTI, ⟨x0, y0, hTO⟩, h1, h2⟩ := st
    obtain ⟨xs, ys, hqx, hqy, hlx, hly, hend⟩ := hg
    obtain ⟨its, rv, p⟩ := inv_seqK I hqx
    obtain ⟨its2, rv2, p2⟩ := inv_seqK I hqy
    have l1 := rv.length
    have l2 := rv2.length
    have ai : a ≠ i1 := p.ne_iter h1
    have bi : b ≠ i2 := p2.ne_iter h2
    refine enumG_end (ch := [e, z, TI, TO, i1, i2]) (fun Q' E' h => ?_) he fun h' tk hk => ⟨rfl, I.turnedL (t' := tk) (ch := [e, z, TI, TO, i1, i2]) hk hf⟩
    exact zipG_stop D (draws_K (prog := X.prog) (w := X.w) k (A := X.A.in1.in1) (I.ok.hd hc) i1 a ai its.toArray) (draws_K (prog := X.prog) (w := X.w) j (A := X.A.in1.in1) (I.ok.hd hc) i2 b bi its2.toArray) oX hz hTI hTO ⟨h1, p⟩ ⟨h2, p2⟩ (by simp; omega) (by simp; omega) (by simp; omega) fun h' tk x hk hx => h h' tk x (fun c o hb q =>
      hk c o (fun q' => hb (by simp [q'])) (fun q' => hb (by simp [q'])) (fun q' => hb (by simp [q'])) (fun q' => hb (by simp [q'])) q) hx
  self := fun A i s Q E st h => let ⟨⟨_, he⟩, _⟩ := st; wpAny_pyIter_enum he h
section
/-- enumerate of what is its own iterator -/
theorem meets_enumS {z : Addr} {H : Heap → Prop} (B : ∀ (prog : Program) (w : World) (A : Around) (E Q : Value → Shared → Prop) (s : Shared), H s.heap → Q (.ref z) s → wpAny (model prog w) A (pyIter (.ref z)) Q E s) :
    Meets (Builtin.«enumerate.__new__» ⟨[.type "enumerate", .ref z], []⟩) (fun _ R s => H s.heap ∧
      R (.ok (.ret (.ref s.heap.objs.size))) { s with heap := s.heap.push { cls := .type "enumerate", data := .fields #[.none, .bool false, .ref z, rawInt 0, .none, .none] } }) :=
  .of_wp fun prog w A R s h => by
    obtain ⟨hp, g, d, tk, os⟩ := s; obtain ⟨h1, h⟩ := h
    have hsub := sub_enumerate
    have q1 : ∀ {A' : Around} {E : Value → Shared → Prop} {Q : Value → Shared → Prop}, Q (.ref z) ⟨hp, g, d, tk, os⟩ → wpAny (model prog w) A' (pyIter (.ref z)) Q E ⟨hp, g, d, tk, os⟩ :=
      fun q => B prog w _ _ _ ⟨hp, g, d, tk, os⟩ h1 q
    wp_walk using q1
    refine wpAny_stack_any fun st => wpAny_pure ?_
    split
    · rename_i c _ _ _ _ _
      cases (c == Value.type "enumerate")
      · wp_walk using q1
        exact ⟨_, rfl, h⟩
      · wp_walk using q1
        exact ⟨_, rfl, h⟩
    · wp_walk using q1
      exact ⟨_, rfl, h⟩
theorem enumS_begins {prog : Program} {w : World} {A : Around} {E : Value → Shared → Prop} {s : Shared} {z : Addr} {H : Heap → Prop} {Q : Value → Shared → Prop} (B : ∀ (prog : Program) (w : World) (A : Around) (E Q : Value → Shared → Prop) (s : Shared), H s.heap → Q (.ref z) s → wpAny (model prog w) A (pyIter (.ref z)) Q E s) (h1 : H s.heap)
    (h : ∀ h', IsEnum h' s.heap.objs.size z 0 .none → h'.objs.size = s.heap.objs.size + 1 → (∀ b o, s.heap.get? b = some o → h'.get? b = some o) → Q (.ref s.heap.objs.size) { s with heap := h' }) :
    wpAny (model prog w) A (call (.type "enumerate") [.ref z]) Q E s := by
  refine callType_new F.called_enumerate (by decide) (F.typeCall_enumerate_1 _) (F.newCall_enumerate_1 _) (fun obj => F.args_object_init_2 obj _) F.entry_enumerate_new
    (meets_enumS B) ⟨h1, ?_⟩
  have he : IsEnum (s.heap.push { cls := .type "enumerate", data := .fields #[.none, .bool false, .ref z, rawInt 0, .none, .none] }) s.heap.objs.size z 0 .none := Heap.get?_push_size s.heap rfl
  exact ⟨⟨_, he, rfl⟩, h _ he (Heap.size_push ..) fun b o x => Heap.get?_push_of_some _ x⟩
def iEnzK (K : PySem.W.Frag) (ta : TA) : TI := fun σ H R => ta σ H fun vs H1 => ∃ k j a b xs ys, vs = [.ref a, .ref b] ∧ SqK k K H1 a xs ∧ SqK j K H1 b ys ∧ R (ItezK k j K a b) H1
theorem pi_enzK {X : Cx} {e e2 : Expr} {ta : TA} {p pos p' pos' tpos : Pos} {elts : List Expr} {kk : Nat} (hg : Gl X "enumerate") (hm : X.mg "enumerate" = none) (hg' : Gl X "zip") (hm' : X.mg "zip" = none) (ha : PA X [e, e2] ta)
    (hs : starEach [e, e2] X.env = (false, eval e X.env) :: starEach [e2] X.env) (hpl : (backTo pos' (starEach [e2] X.env)).any (·.1) = false) :
    PI X (.Tuple elts kk tpos) (.Call (.Name "enumerate" p) [.Call (.Name "zip" p') [e, e2] [] pos'] [] pos) (iEnzK X.K ta) := by
  refine ⟨fun pins s σ H R I h => ?_⟩
  refine PyProof.Rows.Call_ (ld_blt I hg hm PyProof.Rows.boot_enumerate (PyProof.Rows.callWith_type1 ?_ (star_cons (by rfl)) rfl))
  show wpAny _ _ (spliced ((false, eval (.Call (.Name "zip" p') [e, e2] [] pos') X.env) :: backTo pos (starEach [] X.env))) _ _ s
  refine Calls.spliced_cons ?_
  refine PyProof.Rows.Call_ (ld_blt I hg' hm' PyProof.Rows.boot_zip (PyProof.Rows.callWith_type1 (thn (ha.run pos' pins s σ H _ I h) fun us s1 ⟨vs, H1, I1, r1, q1⟩ => ?_) hs hpl))
  obtain ⟨k, j, a, b, xs, ys, ex, hqx, hqy, q⟩ := q1
  subst ex
  cases r1 with
  | cons r rr =>
    cases rr with
    | cons r' rr =>
      cases rr
      cases r
      cases r'
      obtain ⟨its, rv, p1⟩ := inv_seqK I1 hqx
      obtain ⟨its2, rv2, p2⟩ := inv_seqK I1 hqy
      obtain ⟨o1, ho1, _⟩ := p1.rec
      obtain ⟨o2, ho2, _⟩ := p2.rec
      have la := Heap.lt_size ho1
      have lb := Heap.lt_size ho2
      refine zip_begins2 (begins_K k a its.toArray) (begins_K j b its2.toArray) p1 p2 fun h' hz hTI hTO h1 h2 hsz hk => ?_
      have I2 : L2.Inv X pins σ H1 { s1 with heap := h' } := I1.kept (t' := s1.toks) hk
      refine Calls.spliced_nil ?_
      refine enumS_begins (H := fun h => IsZip h (s1.heap.objs.size + 4) (s1.heap.objs.size + 2) (s1.heap.objs.size + 3) .none) (fun _ _ _ _ _ s hz h => wpAny_pyIter_zip hz h) hz fun h'' he hsz2 hk2 => wpAny_pyIter_enum he ?_
      have I3 : L2.Inv X pins σ H1 { s1 with heap := h'' } := I2.kept (t' := s1.toks) hk2
      have hsz' : h'.objs.size = s1.heap.objs.size + 5 := hsz
      have he' : IsEnum h'' (s1.heap.objs.size + 5) (s1.heap.objs.size + 4) 0 .none := by
        have := he
        rwa [show ({ s1 with heap := h' } : Shared).heap.objs.size = s1.heap.objs.size + 5 from hsz'] at this
      show PIE X pins σ _ R (.ref ({ s1 with heap := h' } : Shared).heap.objs.size) _
      rw [show ({ s1 with heap := h' } : Shared).heap.objs.size = s1.heap.objs.size + 5 from hsz']
      refine ⟨s1.heap.objs.size + 5, [s1.heap.objs.size + 5, s1.heap.objs.size + 4, s1.heap.objs.size + 2, s1.heap.objs.size + 3, s1.heap.objs.size, s1.heap.objs.size + 1], _, _, H1, rfl, I3,
        turn_enzK (zip_sep2 (N := s1.heap.objs.size) (fp1 := [a]) (fp2 := [b]) (fun c hc => (List.mem_singleton.mp hc) ▸ la) (fun c hc => (List.mem_singleton.mp hc) ▸ lb)) ?_, ⟨⟨.none, he'⟩, ⟨.none, false, .inl rfl, hk2 _ _ hz⟩, hk2 _ _ hTI, ⟨_, _, hk2 _ _ hTO⟩, iterK_new (hk2 _ _ h1), iterK_new (hk2 _ _ h2)⟩, fun c hcm => ?_, q⟩
      · intro c hcm
        have e' : c = s1.heap.objs.size + 4 ∨ c = s1.heap.objs.size + 2 ∨ c = s1.heap.objs.size + 3 ∨ c = s1.heap.objs.size ∨ c = s1.heap.objs.size + 1 := by simpa using hcm
        rcases e' with z | z | z | z | z <;> (rw [z]; exact Nat.ne_of_lt (by omega))
      have e' : c = s1.heap.objs.size + 5 ∨ c = s1.heap.objs.size + 4 ∨ c = s1.heap.objs.size + 2 ∨ c = s1.heap.objs.size + 3 ∨ c = s1.heap.objs.size ∨ c = s1.heap.objs.size + 1 := by simpa using hcm
      have hle : s1.heap.objs.size ≤ c := by
        rcases e' with z | z | z | z | z | z
        · rw [z]; exact Nat.le_add_right _ _
        · rw [z]; exact Nat.le_add_right _ _
        · rw [z]; exact Nat.le_add_right _ _
        · rw [z]; exact Nat.le_add_right _ _
        · rw [z]; exact Nat.le_refl _
        · rw [z]; exact Nat.le_add_right _ _
      exact I1.fpOk hle (I1.hok.fresh hle)
end
end PyD

/-! PyK: the evaluator's sources of loops. -/
namespace PyD
open PySem L2 LamX

/-- J walks ds, whatever else goes on outside -/
structure ItOk (K : PySem.W.Frag) (Zc : Addr → Prop) (J : It) (ds : List PyData) (M : Addr → Prop) (H : Hp) : Prop where
  go : ∀ M' H', Stp M H M' H' → ∀ (i : Nat) (d : PyData), ds[i]? = some d → J.go i H' ∧ ∀ x H2, J.yld i H' x H2 → Same H' H2 ∧ Rp K H2 (fun a => Zc a ∨ M' a) x d
  stop : ∀ M' H', Stp M H M' H' → J.stop ds.length H'
  len : ds.length ≤ sizeLine
/-- a list or a tuple that stays -/
def SrcOk (K : PySem.W.Frag) (Zc M : Addr → Prop) (H : Hp) (v : V) (ds : List PyData) : Prop :=
  ∃ k a xs, v = .ref a ∧ SqK k K H a xs ∧ (k = true → H a = some (.lst xs) ∧ ¬ M a) ∧ RpA K H (fun b => Zc b ∨ M b) xs ds ∧ ds.length ≤ sizeLine
section
variable {K : PySem.W.Frag} {Zc M M' : Addr → Prop} {H H' : Hp} {v : V} {ds es : List PyData} {a b : Addr} {xs ys : List V} {k j : Bool}
theorem SqK.stp (st : Stp M H M' H') (h : SqK k K H a xs) (hk : k = true → H a = some (.lst xs) ∧ ¬ M a) : SqK k K H' a xs := by
  cases k with
  | true =>
    obtain ⟨e, n⟩ := hk rfl
    exact .inl (.inl (st.keep a _ e n fun _ z => by cases z))
  | false => exact SqT.mv st.tups st.frzs h
theorem ItOk.seq (h : SqK k K H a xs) (hk : k = true → H a = some (.lst xs) ∧ ¬ M a) (q : RpA K H (fun b => Zc b ∨ M b) xs ds) (hl : ds.length ≤ sizeLine) : ItOk K Zc (itK k K a) ds M H := by
  constructor
  · intro M' H' st i d e
    have h' := SqK.stp st h hk
    obtain ⟨x, ex, r⟩ := (RpA.stp st q).get e
    cases k with
    | true =>
      refine ⟨⟨xs, x, h', ex⟩, fun y H2 yl => ?_⟩
      obtain ⟨e1, e2⟩ := yl
      have := e2 xs h'
      rw [ex] at this
      cases this
      subst e1
      exact ⟨fun _ _ z => z, r⟩
    | false =>
      refine ⟨⟨xs, x, h', ex⟩, fun y H2 yl => ?_⟩
      obtain ⟨e1, e2⟩ := yl
      have := e2 xs h'
      rw [ex] at this
      cases this
      subst e1
      exact ⟨fun _ _ z => z, r⟩
  · intro M' H' st
    have h' := SqK.stp st h hk
    cases k with
    | true => exact ⟨xs, h', by rw [q.len]; exact Nat.le_refl _⟩
    | false => exact ⟨xs, h', by rw [q.len]; exact Nat.le_refl _⟩
  · exact hl
theorem range_len : ∀ (n : Nat) (lo st : Int), (rangeD lo st n).length = n
  | 0, _, _ => rfl
  | n + 1, lo, st => by
    show (rangeD (lo + st) st n).length + 1 = n + 1
    rw [range_len n]
theorem range_get : ∀ (n : Nat) (lo st : Int) (i : Nat) (d : PyData), (rangeD lo st n)[i]? = some d → i < n ∧ d = .int (lo + i * st)
  | 0, _, _, _, _, e => by simp [rangeD] at e
  | n + 1, lo, st, 0, d, e => by
    have : d = .int lo := by simpa [rangeD] using e.symm
    exact ⟨Nat.succ_pos _, by rw [this]; simp⟩
  | n + 1, lo, st, i + 1, d, e => by
    have e' : (rangeD (lo + st) st n)[i]? = some d := by simpa [rangeD] using e
    obtain ⟨h1, h2⟩ := range_get n (lo + st) st i d e'
    refine ⟨by omega, ?_⟩
    rw [h2]
    congr 1
    rw [show ((i + 1 : Nat) : Int) = (i : Int) + 1 from rfl, Int.add_mul, Int.one_mul]
    omega
theorem ItOk.rng (lo : Int) (n : Nat) (hl : n ≤ sizeLine) : ItOk K Zc (Itr lo n) (rangeD lo 1 n) M H := by
  constructor
  · intro M' H' st i d e
    obtain ⟨h1, h2⟩ := range_get n lo 1 i d e
    refine ⟨h1, fun x H2 yl => ?_⟩
    obtain ⟨e1, e2⟩ := yl
    subst e1 e2 h2
    rw [Int.mul_one]
    exact ⟨fun _ _ z => z, .int _⟩
  · intro M' H' st
    show n ≤ _
    rw [range_len]
    exact Nat.le_refl _
  · rw [range_len]; exact hl
theorem enum_len : ∀ (ds : List PyData) (n : Nat), (enumD n ds).length = ds.length
  | [], _ => rfl
  | d :: r, n => by
    show (enumD (n + 1) r).length + 1 = r.length + 1
    rw [enum_len r]
theorem enum_get : ∀ (ds : List PyData) (n i : Nat) (d : PyData), (enumD n ds)[i]? = some d → ∃ e, ds[i]? = some e ∧ d = .tuple [.int ((n + i : Nat) : Int), e]
  | [], _, _, _, e => by simp [enumD] at e
  | x :: r, n, 0, d, e => by
    have : PyData.tuple [.int n, x] = d := by simpa [enumD] using e
    exact ⟨x, rfl, this.symm⟩
  | x :: r, n, i + 1, d, e => by
    have e' : (enumD (n + 1) r)[i]? = some d := by simpa [enumD] using e
    obtain ⟨y, h1, h2⟩ := enum_get r (n + 1) i d e'
    exact ⟨y, by simpa using h1, by rw [h2, show n + 1 + i = n + (i + 1) from by omega]⟩
theorem two_size : ([V.non, V.non] : List V).length ≤ sizeLine := by decide
theorem ItOk.enum (h : SqK k K H a xs) (hk : k = true → H a = some (.lst xs) ∧ ¬ M a) (q : RpA K H (fun b => Zc b ∨ M b) xs ds) (hl : ds.length ≤ sizeLine) : ItOk K Zc (IteK k K a) (enumD 0 ds) M H := by
  constructor
  · intro M' H' st i d e
    have h' := SqK.stp st h hk
    obtain ⟨e1, g1, rfl⟩ := enum_get ds 0 i d e
    obtain ⟨x, ex, r⟩ := (RpA.stp st q).get g1
    refine ⟨⟨xs, x, h', ex⟩, fun y H2 yl => ?_⟩
    obtain ⟨T, z, rfl, nT, rfl, f⟩ := yl
    have := f xs h'
    rw [ex] at this
    cases this
    refine ⟨same_upd nT, .tup (.inl (.inl upd_same)) two_size (.cons ?_ (.cons (r.same (same_upd nT)) .nil))⟩
    rw [Nat.zero_add]
    exact .int _
  · intro M' H' st
    exact ⟨xs, SqK.stp st h hk, by rw [enum_len, q.len]⟩
  · rw [enum_len]; exact hl
theorem zip_get : ∀ (ds es : List PyData) (i : Nat) (d : PyData), (zipD ds es)[i]? = some d → ∃ x y, ds[i]? = some x ∧ es[i]? = some y ∧ d = .tuple [x, y]
  | [], _, _, _, e => by simp [zipD] at e
  | _ :: _, [], _, _, e => by simp [zipD] at e
  | x :: r, y :: t, 0, d, e => by
    have : PyData.tuple [x, y] = d := by simpa [zipD] using e
    exact ⟨x, y, rfl, rfl, this.symm⟩
  | x :: r, y :: t, i + 1, d, e => by
    have e' : (zipD r t)[i]? = some d := by simpa [zipD] using e
    obtain ⟨u, w, h1, h2, h3⟩ := zip_get r t i d e'
    exact ⟨u, w, by simpa using h1, by simpa using h2, h3⟩
theorem zip_len : ∀ (ds es : List PyData), (zipD ds es).length ≤ ds.length ∧ (zipD ds es).length ≤ es.length ∧ (ds.length = (zipD ds es).length ∨ es.length = (zipD ds es).length)
  | [], es => ⟨Nat.le_refl _, Nat.zero_le _, .inl rfl⟩
  | x :: r, [] => ⟨Nat.zero_le _, Nat.le_refl _, .inr rfl⟩
  | x :: r, y :: t => by
    obtain ⟨h1, h2, h3⟩ := zip_len r t
    refine ⟨Nat.succ_le_succ h1, Nat.succ_le_succ h2, ?_⟩
    rcases h3 with h3 | h3
    · exact .inl (congrArg Nat.succ h3)
    · exact .inr (congrArg Nat.succ h3)
theorem ItOk.zip (h : SqK k K H a xs) (hk : k = true → H a = some (.lst xs) ∧ ¬ M a) (q : RpA K H (fun b => Zc b ∨ M b) xs ds) (hl : ds.length ≤ sizeLine) (h' : SqK j K H b ys) (hk' : j = true → H b = some (.lst ys) ∧ ¬ M b) (q' : RpA K H (fun b => Zc b ∨ M b) ys es) : ItOk K Zc (ItzK k j K a b) (zipD ds es) M H := by
  constructor
  · intro M' H' st i d e
    have h1 := SqK.stp st h hk
    have h2 := SqK.stp st h' hk'
    obtain ⟨d1, d2, g1, g2, rfl⟩ := zip_get ds es i d e
    obtain ⟨x, ex, r⟩ := (RpA.stp st q).get g1
    obtain ⟨y, ey, r'⟩ := (RpA.stp st q').get g2
    refine ⟨⟨xs, ys, x, y, h1, h2, ex, ey⟩, fun v H2 yl => ?_⟩
    obtain ⟨T, z, w, rfl, nT, rfl, f, f'⟩ := yl
    have t1 := f xs h1
    rw [ex] at t1
    cases t1
    have t2 := f' ys h2
    rw [ey] at t2
    cases t2
    exact ⟨same_upd nT, .tup (.inl (.inl upd_same)) two_size (.cons (r.same (same_upd nT)) (.cons (r'.same (same_upd nT)) .nil))⟩
  · intro M' H' st
    obtain ⟨l1, l2, l3⟩ := zip_len ds es
    exact ⟨xs, ys, SqK.stp st h hk, SqK.stp st h' hk', by rw [q.len]; exact l1, by rw [q'.len]; exact l2, by rw [q.len, q'.len]; exact l3⟩
  · exact Nat.le_trans (zip_len ds es).1 hl
theorem ItOk.enz (h : SqK k K H a xs) (hk : k = true → H a = some (.lst xs) ∧ ¬ M a) (q : RpA K H (fun b => Zc b ∨ M b) xs ds) (hl : ds.length ≤ sizeLine) (h' : SqK j K H b ys) (hk' : j = true → H b = some (.lst ys) ∧ ¬ M b) (q' : RpA K H (fun b => Zc b ∨ M b) ys es) : ItOk K Zc (ItezK k j K a b) (enumD 0 (zipD ds es)) M H := by
  constructor
  · intro M' H' st i d e
    have h1 := SqK.stp st h hk
    have h2 := SqK.stp st h' hk'
    obtain ⟨e1, g0, rfl⟩ := enum_get _ 0 i d e
    obtain ⟨d1, d2, g1, g2, rfl⟩ := zip_get ds es i e1 g0
    obtain ⟨x, ex, r⟩ := (RpA.stp st q).get g1
    obtain ⟨y, ey, r'⟩ := (RpA.stp st q').get g2
    refine ⟨⟨xs, ys, x, y, h1, h2, ex, ey⟩, fun v H2 yl => ?_⟩
    obtain ⟨T, U, z, w, rfl, nT, nU, rfl, f, f'⟩ := yl
    have t1 := f xs h1
    rw [ex] at t1
    cases t1
    have t2 := f' ys h2
    rw [ey] at t2
    cases t2
    have sm : Same H' (L2.upd (L2.upd H' T (.tup [x, y])) U (.tup [.int (i : Nat), .ref T])) := fun a o e => same_upd nU a o (same_upd nT a o e)
    refine ⟨sm, .tup (.inl (.inl upd_same)) two_size (.cons ?_ (.cons (.tup (.inl (.inl (same_upd nU T _ upd_same))) two_size (.cons (r.same sm) (.cons (r'.same sm) .nil))) .nil))⟩
    rw [Nat.zero_add]
    exact .int _
  · intro M' H' st
    obtain ⟨l1, l2, l3⟩ := zip_len ds es
    exact ⟨xs, ys, SqK.stp st h hk, SqK.stp st h' hk', by rw [enum_len, q.len]; exact l1, by rw [enum_len, q'.len]; exact l2, by rw [enum_len, q.len, q'.len]; exact l3⟩
  · rw [enum_len]; exact Nat.le_trans (zip_len ds es).1 hl
end
/-! ### the readings -/
def lpZ (own : Bool) (G : Gh) (ρ : Env) (σ : L2.St) (hd : Option Addr) : Addr → Prop := match own with
  | true => G.Z ρ σ hd
  | false => G.Zc
def lpM (own : Bool) (ρ : Env) (σ : L2.St) (hd : Option Addr) : Addr → Prop := match own with
  | true => fun a => hd = some a
  | false => Mo ρ σ hd
def tI (S : Sx) (W : WX) (own : Bool) (m : M (List PyData)) : TI := fun σ H R => ∃ G, G.S = S ∧ ∃ hd ρ h, Rel G hd ρ h σ H ∧ Out G W σ hd ρ H (m ρ h) fun its ρ' h' H' => ∀ J, ItOk G.K (lpZ own G ρ' σ hd) J its (lpM own ρ' σ hd) H' → R J H'
theorem PI.imp {X : Cx} {tg e : Expr} {t t' : TI} (p : PI X tg e t) (h : ∀ σ H Q, t' σ H Q → t σ H Q) : PI X tg e t' := ⟨fun pins s σ H Q I q => p.run pins s σ H Q I (h σ H Q q)⟩
theorem Rel.src {G : Gh} {hd : Option Addr} {ρ : Env} {h : Hand} {σ : L2.St} {H : Hp} (R : Rel G hd ρ h σ H) {own : Bool} {v : V} {p : Pre} {d : PyData} {ds : List PyData} (x : PreOk G ρ σ hd H v p) (e : getI own ρ p = some d) (e2 : items d = some ds) : SrcOk G.K (lpZ own G ρ σ hd) (lpM own ρ σ hd) H v ds := by
  have hz : ∀ b, (lpZ own G ρ σ hd b ∨ lpM own ρ σ hd b) → G.Z ρ σ hd b := fun b z => by
    cases own with
    | true => exact z.elim id fun e => .inr (.inl e)
    | false => exact z
  have hm : ∀ b, lpM own ρ σ hd b → G.Z ρ σ hd b := fun b z => hz b (.inr z)
  have rp : ∀ {v : V} {d : PyData}, Rp G.K H (G.Z ρ σ hd) v d → items d = some ds → SrcOk G.K (lpZ own G ρ σ hd) (lpM own ρ σ hd) H v ds := fun {v d} r e => by
    cases r with
    | lst h nz l q => cases e; exact ⟨true, _, _, rfl, .inl (.inl h), fun _ => ⟨h, fun z => nz (hm _ z)⟩, q.anti hz, by rw [← q.len]; exact l⟩
    | tup h l q => cases e; exact ⟨false, _, _, rfl, h, (fun z => by cases z), q.anti hz, by rw [← q.len]; exact l⟩
    | _ => cases e
  have rt : ∀ {a : Addr} {d : PyData}, Root G.K H (G.Z ρ σ hd) a d → ¬ lpM own ρ σ hd a → items d = some ds → SrcOk G.K (lpZ own G ρ σ hd) (lpM own ρ σ hd) H (.ref a) ds := fun {a d} r n e => by
    cases r with
    | lst h l q => cases e; exact ⟨true, _, _, rfl, .inl (.inl h), fun _ => ⟨h, n⟩, q.anti hz, by rw [← q.len]; exact l⟩
    | dic h q => cases e
  cases p with
  | val d' => simp only [getI, Option.some.injEq] at e; subst e; exact rp x e2
  | sl i =>
    simp only [getI] at e
    have x' : σ[i]? = some (some v) := x
    cases q : ρ[i]? with
    | none => rw [q] at e; cases e
    | some s =>
      rw [q] at e
      have so := R.slot i s q
      cases s with
      | sh d' =>
        cases e
        obtain ⟨v', e1, r⟩ := so
        rw [x'] at e1; cases e1
        exact rp r e2
      | own d' =>
        cases own with
        | true =>
          cases e
          obtain ⟨a, e1, r, _, _, nh⟩ := so
          rw [x'] at e1; cases e1
          exact rt r nh e2
        | false => cases e
      | bor d' =>
        cases e
        obtain ⟨a, e1, r, nm, _⟩ := so
        rw [x'] at e1; cases e1
        refine rt r (fun z => nm ?_) e2
        cases own with
        | true => exact .inl z
        | false => exact z
      | _ => cases e
section
variable {X : Cx} {S : Sx} {W : WX} {C : Cl} {own : Bool} {ea eb : E} {tg x y : Expr} {p pos tpos : Pos}
theorem s_srcV (ha : PE X x (tP S W (preOf ea (ev C ea)))) (hK : X.K = S.K) : PI X tg x (tI S W own (evSrc C own (.val ea))) := by
  refine PI.imp (pi_seqK ha) fun σ H Q h => ?_
  obtain ⟨G, rfl, hd, ρ, h, R, oo⟩ := h
  unfold evSrc at oo
  refine seqP R oo fun p ρ1 h1 v1 H1 _ R1 s1 r1 o1 => ?_
  obtain ⟨d, e1, o2⟩ := Out.ofO o1
  obtain ⟨ds, e2, o3⟩ := Out.ofO1 o2
  obtain ⟨k, a, xs, e3, q1, q2, q3, q4⟩ := R1.src r1 e1 e2
  exact ⟨k, a, xs, e3, by rw [hK]; exact q1, o3 H1 R1 (Stp.refl _ _) _ (by rw [hK]; exact ItOk.seq q1 q2 q3 q4)⟩
theorem s_srcE {elts : List Expr} {kk : Nat} (ha : PE X x (tP S W (preOf ea (ev C ea)))) (hK : X.K = S.K) (hg : Gl X "enumerate") (hm : X.mg "enumerate" = none) (hs : notStar x = true) :
    PI X (.Tuple elts kk tpos) (.Call (.Name "enumerate" p) [x] [] pos) (tI S W own (evSrc C own (.enm ea))) := by
  refine PI.imp (pi_enumK hg hm (pa_cons ha pa_nil (star_cons hs)) (star_cons hs)) fun σ H Q h => ?_
  obtain ⟨G, rfl, hd, ρ, h, R, oo⟩ := h
  unfold evSrc at oo
  refine seqP R oo fun p ρ1 h1 v1 H1 _ R1 s1 r1 o1 => ?_
  obtain ⟨d, e1, o2⟩ := Out.ofO o1
  obtain ⟨ds, e2, o3⟩ := Out.ofO o2
  obtain ⟨k, a, xs, rfl, q1, q2, q3, q4⟩ := R1.src r1 e1 e2
  exact ⟨k, a, xs, rfl, by rw [hK]; exact q1, o3 H1 R1 (Stp.refl _ _) _ (by rw [hK]; exact ItOk.enum q1 q2 q3 q4)⟩
theorem s_srcZ {elts : List Expr} {kk : Nat} (ha : PE X x (tP S W (preOf ea (ev C ea)))) (hb : PE X y (tP S W (preOf eb (ev C eb)))) (hK : X.K = S.K) (hg : Gl X "zip") (hm : X.mg "zip" = none) (hs : notStar x = true) (hs2 : notStar y = true) :
    PI X (.Tuple elts kk tpos) (.Call (.Name "zip" p) [x, y] [] pos) (tI S W own (evSrc C own (.zip ea eb))) := by
  refine PI.imp (pi_zipK hg hm (pa_cons ha (pa_cons hb pa_nil (star_cons hs2)) (star_cons hs)) (star_cons hs) (star_any (by rw [List.all_cons, hs2]; rfl))) fun σ H Q h => ?_
  obtain ⟨G, rfl, hd, ρ, h, R, oo⟩ := h
  unfold evSrc at oo
  refine seqP R oo fun p ρ1 h1 v1 H1 _ R1 s1 r1 o1 => seqP R1 o1 fun q ρ2 h2 v2 H2 _ R2 s2 r2 o2 => ?_
  obtain ⟨d, e1, o3⟩ := Out.ofO o2
  obtain ⟨d', e2, o4⟩ := Out.ofO o3
  obtain ⟨ds, e3, o5⟩ := Out.ofO o4
  obtain ⟨es, e4, o6⟩ := Out.ofO o5
  obtain ⟨k, a, xs, rfl, q1, q2, q3, q7⟩ := R2.src (r1.stp s2) e1 e3
  obtain ⟨j, b, ys, rfl, q4, q5, q6, _⟩ := R2.src r2 e2 e4
  exact ⟨k, j, a, b, xs, ys, rfl, by rw [hK]; exact q1, by rw [hK]; exact q4, o6 H2 R2 (Stp.refl _ _) _ (by rw [hK]; exact ItOk.zip q1 q2 q3 q7 q4 q5 q6)⟩
theorem s_srcEZ {elts : List Expr} {kk : Nat} {p2 pos2 : Pos} (ha : PE X x (tP S W (preOf ea (ev C ea)))) (hb : PE X y (tP S W (preOf eb (ev C eb)))) (hK : X.K = S.K) (hg : Gl X "enumerate") (hm : X.mg "enumerate" = none) (hg2 : Gl X "zip") (hm2 : X.mg "zip" = none) (hs : notStar x = true) (hs2 : notStar y = true) :
    PI X (.Tuple elts kk tpos) (.Call (.Name "enumerate" p) [.Call (.Name "zip" p2) [x, y] [] pos2] [] pos) (tI S W own (evSrc C own (.enz ea eb))) := by
  refine PI.imp (pi_enzK hg hm hg2 hm2 (pa_cons ha (pa_cons hb pa_nil (star_cons hs2)) (star_cons hs)) (star_cons hs) (star_any (by rw [List.all_cons, hs2]; rfl))) fun σ H Q h => ?_
  obtain ⟨G, rfl, hd, ρ, h, R, oo⟩ := h
  unfold evSrc at oo
  refine seqP R oo fun p ρ1 h1 v1 H1 _ R1 s1 r1 o1 => seqP R1 o1 fun q ρ2 h2 v2 H2 _ R2 s2 r2 o2 => ?_
  obtain ⟨d, e1, o3⟩ := Out.ofO o2
  obtain ⟨d', e2, o4⟩ := Out.ofO o3
  obtain ⟨ds, e3, o5⟩ := Out.ofO o4
  obtain ⟨es, e4, o6⟩ := Out.ofO o5
  obtain ⟨k, a, xs, rfl, q1, q2, q3, q7⟩ := R2.src (r1.stp s2) e1 e3
  obtain ⟨j, b, ys, rfl, q4, q5, q6, _⟩ := R2.src r2 e2 e4
  exact ⟨k, j, a, b, xs, ys, rfl, by rw [hK]; exact q1, by rw [hK]; exact q4, o6 H2 R2 (Stp.refl _ _) _ (by rw [hK]; exact ItOk.enz q1 q2 q3 q7 q4 q5 q6)⟩
theorem rng_ok {i : Int} (h : rngOk i = true) : -(2 ^ 62) ≤ i ∧ i < 2 ^ 62 := by
  unfold rngOk at h
  rw [Bool.and_eq_true] at h
  exact ⟨of_decide_eq_true h.1, of_decide_eq_true h.2⟩
theorem ItOk.rngC (lo c : Int) (n : Nat) (hl : n ≤ sizeLine) {K : PySem.W.Frag} {Zc M : Addr → Prop} {H : Hp} : ItOk K Zc (Itc lo c n) (rangeD lo c n) M H := by
  constructor
  · intro M' H' st i d e
    obtain ⟨h1, h2⟩ := range_get n lo c i d e
    refine ⟨h1, fun x H2 yl => ?_⟩
    obtain ⟨e1, e2⟩ := yl
    subst e1 e2 h2
    exact ⟨fun _ _ z => z, .int _⟩
  · intro M' H' st
    show n ≤ _
    rw [range_len]
    exact Nat.le_refl _
  · rw [range_len]; exact hl
theorem s_srcR3 {ec : E} {z : Expr} (ha : PE X x (tE S W (ev C ea))) (hb : PE X y (tE S W (ev C eb))) (hc : PE X z (tE S W (ev C ec))) (hg : Gl X "range") (hm : X.mg "range" = none) (hs : notStar x = true) (hs2 : notStar y = true) (hs3 : notStar z = true) :
    PI X tg (.Call (.Name "range" p) [x, y, z] [] pos) (tI S W own (evSrc C own (.rng3 ea eb ec))) := by
  refine PI.imp (pi_range3 hg hm (pa_cons ha (pa_cons hb (pa_cons hc pa_nil (star_cons hs3)) (star_cons hs2)) (star_cons hs)) (by rw [star_cons hs]) (by rw [star_cons hs2, star_cons hs3]; rfl)) fun σ H Q h => ?_
  obtain ⟨G, rfl, hd, ρ, h, R, oo⟩ := h
  unfold evSrc at oo
  refine seqI R oo fun i ρ1 h1 H1 R1 s1 o1 => seqI R1 o1 fun j ρ2 h2 H2 R2 s2 o2 => seqI R2 o2 fun k ρ3 h3 H3 R3 s3 o3 => ?_
  obtain ⟨n, e, o4⟩ := Out.ofO o3
  have hsz : Builtin.Range.rangeSize i j k = ((Builtin.Range.rangeSize i j k).toNat : Int) := by
    have hpos : 0 ≤ Builtin.Range.rangeSize i j k := by
      unfold Builtin.Range.rangeSize
      split <;> split <;> first | omega | (have := Int.ediv_nonneg (a := j - i - 1) (b := k) (by omega) (by omega); omega) | (have := Int.ediv_nonneg (a := i - j - 1) (b := -k) (by omega) (by omega); omega)
    omega
  unfold rng3N at e
  split at e
  · rename_i hh
    obtain ⟨g1, g2, g3, g4⟩ := hh
    cases e
    exact ⟨i, j, k, _, rfl, ⟨g1, g2, g3, hsz⟩, o4 H3 R3 (Stp.refl _ _) _ (ItOk.rngC i k _ (by rw [← sz]; exact g4))⟩
  · cases e
theorem s_srcR1 (ha : PE X x (tE S W (ev C ea))) (hg : Gl X "range") (hm : X.mg "range" = none) (hs : notStar x = true) :
    PI X tg (.Call (.Name "range" p) [x] [] pos) (tI S W own (evSrc C own (.rng1 ea))) := by
  refine PI.imp (pi_range1 hg hm (pa_cons ha pa_nil (star_cons hs)) (star_cons hs)) fun σ H Q h => ?_
  obtain ⟨G, rfl, hd, ρ, h, R, oo⟩ := h
  unfold evSrc at oo
  refine seqI R oo fun i ρ1 h1 H1 R1 s1 o1 => ?_
  by_cases e : (rngOk i && decide (i ≤ 16777216)) = true
  · rw [if_pos e] at o1
    rw [Bool.and_eq_true] at e
    obtain ⟨l, u⟩ := rng_ok e.1
    have e2 := of_decide_eq_true e.2
    exact ⟨i, rfl, l, u, o1 H1 R1 (Stp.refl _ _) _ (ItOk.rng 0 _ (by rw [← sz]; show _ ≤ 16777216; omega))⟩
  · rw [if_neg e] at o1
    exact o1.elim
theorem s_srcR2 (ha : PE X x (tE S W (ev C ea))) (hb : PE X y (tE S W (ev C eb))) (hg : Gl X "range") (hm : X.mg "range" = none) (hs : notStar x = true) (hs2 : notStar y = true) :
    PI X tg (.Call (.Name "range" p) [x, y] [] pos) (tI S W own (evSrc C own (.rng2 ea eb))) := by
  refine PI.imp (pi_range2 hg hm (pa_cons ha (pa_cons hb pa_nil (star_cons hs2)) (star_cons hs)) (by rw [star_cons hs, star_cons hs2]; rfl) (by rw [star_cons hs2]; rfl)) fun σ H Q h => ?_
  obtain ⟨G, rfl, hd, ρ, h, R, oo⟩ := h
  unfold evSrc at oo
  refine seqI R oo fun i ρ1 h1 H1 R1 s1 o1 => seqI R1 o1 fun j ρ2 h2 H2 R2 s2 o2 => ?_
  by_cases e : (rngOk i && rngOk j && decide (j - i ≤ 16777216)) = true
  · rw [if_pos e] at o2
    rw [Bool.and_eq_true, Bool.and_eq_true] at e
    obtain ⟨l, u⟩ := rng_ok e.1.1
    obtain ⟨l', u'⟩ := rng_ok e.1.2
    have e2 := of_decide_eq_true e.2
    exact ⟨i, j, rfl, ⟨l, u, l', u'⟩, o2 H2 R2 (Stp.refl _ _) _ (ItOk.rng i _ (by rw [← sz]; show _ ≤ 16777216; omega))⟩
  · rw [if_neg e] at o2
    exact o2.elim
end
end PyD

/-! PyL: targets; list comprehensions. -/
namespace PyD
open PySem L2 LamX

/-! ### targets -/
mutual
def tgN : Tg → List Nat
  | .nm i => [i]
  | .tp ts => tgNs ts
def tgNs : Tgs → List Nat
  | .nil => []
  | .cons t r => tgN t ++ tgNs r
end
/-- only these slots were stored -/
def Only1 (ns : List Nat) (σ σ' : L2.St) : Prop := ∀ vs : List Nat, (∀ i ∈ ns, i ∈ vs) → wipe σ' vs = wipe σ vs
theorem wipe_comm (σ : L2.St) (i : Nat) (x : Option V) (vs : List Nat) : wipe (σ.set i x) vs = if i ∈ vs then wipe σ vs else (wipe σ vs).set i x := by
  induction vs with
  | nil => simp [wipe]
  | cons v r ih =>
    unfold wipe
    rw [ih]
    by_cases h1 : i ∈ r
    · rw [if_pos h1, if_pos (List.mem_cons_of_mem _ h1)]
    · rw [if_neg h1]
      by_cases h2 : i = v
      · subst h2
        rw [if_pos List.mem_cons_self, List.set_set]
      · rw [if_neg (by simp [h1, h2]), List.set_comm _ _ h2]
theorem Only1.refl (ns : List Nat) (σ : L2.St) : Only1 ns σ σ := fun _ _ => rfl
theorem Only1.set (i : Nat) (x : Option V) (σ : L2.St) : Only1 [i] σ (σ.set i x) := fun vs h => by
  rw [wipe_comm, if_pos (h i List.mem_cons_self)]
theorem Only1.trans {a b : List Nat} {σ σ1 σ2 : L2.St} (h1 : Only1 a σ σ1) (h2 : Only1 b σ1 σ2) : Only1 (a ++ b) σ σ2 := fun vs h =>
  (h2 vs fun i m => h i (List.mem_append_right _ m)).trans (h1 vs fun i m => h i (List.mem_append_left _ m))
def LessM (hd : Option Addr) (ρ : Env) (σ : L2.St) (ρ' : Env) (σ' : L2.St) : Prop := ∀ a, Mo ρ' σ' hd a → Mo ρ σ hd a
/-- a target's store -/
def tG (S : Sx) (ns : List Nat) (f : PyData → Env → Option Env) : TG := fun v σ H Q => ∃ G, G.S = S ∧ ∃ hd ρ h d ρ', Rel G hd ρ h σ H ∧ Rp G.K H (G.Z ρ σ hd) v d ∧ f d ρ = some ρ' ∧ ∀ σ', Rel G hd ρ' h σ' H → LessM hd ρ σ ρ' σ' → Only1 ns σ σ' → Q σ' H
def tGs (S : Sx) (ns : List Nat) (f : List PyData → Env → Option Env) : TGs := fun v σ H Q => ∃ G, G.S = S ∧ ∃ hd ρ h d ρ', Rel G hd ρ h σ H ∧ RpA G.K H (G.Z ρ σ hd) v d ∧ f d ρ = some ρ' ∧ ∀ σ', Rel G hd ρ' h σ' H → LessM hd ρ σ ρ' σ' → Only1 ns σ σ' → Q σ' H
theorem PG.imp {X : Cx} {e : Expr} {t t' : TG} (p : PG X e t) (h : ∀ v σ H Q, t' v σ H Q → t v σ H Q) : PG X e t' := ⟨fun pins s σ H v u Q I r q => p.run pins s σ H v u Q I r (h v σ H Q q)⟩
theorem PGs.imp {X : Cx} {e : List Expr} {t t' : TGs} (p : PGs X e t) (h : ∀ v σ H Q, t' v σ H Q → t v σ H Q) : PGs X e t' := ⟨fun pins s σ H v u Q I r q => p.run pins s σ H v u Q I r (h v σ H Q q)⟩
theorem Rel.lessSh {G : Gh} {hd : Option Addr} {ρ : Env} {σ : L2.St} {i : Nat} {d : PyData} {v : Option V} : LessM hd ρ σ (ρ.set i (.sh d)) (σ.set i v) := fun _ m => Mo.store (fun _ z => by cases z) m
section
variable {X : Cx} {S : Sx} {pos : Pos} {x : Str} {i : Nat}
theorem g_nm (hN : X.N.Nodup) (hi : X.N[i]? = some x) (hx : Loc X.env.scope x) (hf : X.fn x = true ∨ X.env.scope.names.lookup x = some .local) : PG X (.Name x pos) (tG S (tgN (.nm i)) (bindT (.nm i))) := by
  refine PG.imp (pg_name (pos := pos) hN hi hx hf) fun v σ H Q h => ?_
  obtain ⟨G, rfl, hd, ρ, h, d, ρ', R, r, e, q⟩ := h
  unfold bindT at e
  cases e
  exact q _ (R.storeSh r) (Rel.lessSh (G := G)) (Only1.set _ _ _)
theorem g_nil : PGs X [] (tGs S (tgNs .nil) (bindTs .nil)) := by
  refine PGs.imp pgs_nil fun v σ H Q h => ?_
  obtain ⟨G, rfl, hd, ρ, h, d, ρ', R, r, e, q⟩ := h
  cases d with
  | nil =>
    cases r
    unfold bindTs at e
    cases e
    exact ⟨rfl, q _ R (fun _ z => z) (Only1.refl _ _)⟩
  | cons d ds => unfold bindTs at e; cases e
theorem g_cons {e : Expr} {es : List Expr} {t : Tg} {ts : Tgs} (h1 : PG X e (tG S (tgN t) (bindT t))) (h2 : PGs X es (tGs S (tgNs ts) (bindTs ts)))
    (hs : (assignEach (e :: es) X.env).map (·.2) = assign e X.env :: (assignEach es X.env).map (·.2)) : PGs X (e :: es) (tGs S (tgNs (.cons t ts)) (bindTs (.cons t ts))) := by
  refine PGs.imp (pgs_cons h1 h2 hs) fun v σ H Q h => ?_
  obtain ⟨G, rfl, hd, ρ, h, d, ρ', R, r, e, q⟩ := h
  cases d with
  | nil => unfold bindTs at e; cases e
  | cons d ds =>
    cases r with
    | cons r0 rr =>
      unfold bindTs at e
      cases e1 : bindT t d ρ with
      | none => rw [e1] at e; cases e
      | some ρ1 =>
        rw [e1] at e
        refine ⟨_, _, rfl, G, rfl, hd, ρ, h, d, ρ1, R, r0, e1, fun σ1 R1 l1 o1 => ⟨G, rfl, hd, ρ1, h, ds, ρ', R1, rr.anti fun a z => z.imp id (l1 a), e, fun σ2 R2 l2 o2 => q σ2 R2 (fun a z => l1 a (l2 a z)) ?_⟩⟩
        show Only1 (tgN t ++ tgNs ts) σ σ2
        exact o1.trans o2
theorem g_tp {es : List Expr} {k : Nat} {ts : Tgs} (hc : X.calm = true) (hK : X.K = S.K) (h : PGs X es (tGs S (tgNs ts) (bindTs ts))) {n : Nat} (hl : ∀ ds ρ ρ', bindTs ts ds ρ = some ρ' → ds.length = n)
    (hn : (assignEach es X.env).length = n) (hst : (assignEach es X.env).findIdx? (·.1) = none) : PG X (.Tuple es k pos) (tG S (tgN (.tp ts)) (bindT (.tp ts))) := by
  refine PG.imp (pg_tup hc h hn hst) fun v σ H Q h => ?_
  obtain ⟨G, rfl, hd, ρ, h, d, ρ', R, r, e, q⟩ := h
  cases d with
  | tuple ds =>
    cases r with
    | tup r l rr =>
      unfold bindT at e
      exact ⟨_, _, rfl, by rw [hK]; exact r, by rw [rr.len]; exact hl ds ρ ρ' e, G, rfl, hd, ρ, h, ds, ρ', R, rr, e, q⟩
  | _ => unfold bindT at e; cases e
end
def Tgs.len : Tgs → Nat
  | .nil => 0
  | .cons _ r => r.len + 1
theorem bindTs_len : ∀ {ts : Tgs} {ds : List PyData} {ρ ρ' : Env}, bindTs ts ds ρ = some ρ' → ds.length = ts.len
  | .nil, [], _, _, _ => rfl
  | .nil, _ :: _, _, _, e => by unfold bindTs at e; cases e
  | .cons t r, [], _, _, e => by unfold bindTs at e; cases e
  | .cons t r, d :: ds, ρ, ρ', e => by
    unfold bindTs at e
    cases e1 : bindT t d ρ with
    | none => rw [e1] at e; cases e
    | some ρ1 =>
      rw [e1] at e
      show ds.length + 1 = r.len + 1
      rw [bindTs_len (ts := r) e]
/-! ### a block's frame -/
theorem lend_no (ρ : Env) {i : Nat} {d : PyData} (e : (lend ρ)[i]? = some (.own d)) : False := by
  unfold lend at e
  rw [List.getElem?_map] at e
  cases q : ρ[i]? with
  | none => rw [q] at e; cases e
  | some s => rw [q] at e; cases s <;> cases e
theorem wipeE_get {ρ : Env} : ∀ {vs : List Nat} {i : Nat} {s : Sl}, (wipeE ρ vs)[i]? = some s → s = .non ∨ (ρ[i]? = some s ∧ i ∉ vs) := by
  intro vs
  induction vs generalizing ρ with
  | nil => exact fun {i s} e => .inr ⟨e, by simp⟩
  | cons v r ih =>
    intro i s e
    unfold wipeE at e
    rcases ih e with h | ⟨h, hn⟩
    · exact .inl h
    · by_cases hv : v = i
      · subst hv
        by_cases hl : v < ρ.length
        · rw [List.getElem?_set_self hl] at h; cases h; exact .inl rfl
        · rw [List.getElem?_eq_none (by rw [List.length_set]; omega)] at h; cases h
      · rw [List.getElem?_set_ne hv] at h
        exact .inr ⟨h, by simp [hn, Ne.symm hv]⟩
theorem wipeE_len {ρ : Env} : ∀ {vs : List Nat}, (wipeE ρ vs).length = ρ.length := by
  intro vs
  induction vs generalizing ρ with
  | nil => rfl
  | cons v r ih => unfold wipeE; rw [ih, List.length_set]
def NoOwn (ρ : Env) : Prop := ∀ (i : Nat) (d : PyData), ρ[i]? ≠ some (.own d)
theorem blk_noOwn (ρ : Env) (vs : List Nat) : NoOwn (wipeE (lend ρ) vs) := fun i d e => by
  rcases wipeE_get e with h | ⟨h, _⟩
  · cases h
  · exact lend_no ρ h
theorem NoOwn.mo {ρ : Env} (n : NoOwn ρ) {σ : L2.St} {hd : Option Addr} {a : Addr} : Mo ρ σ hd a ↔ hd = some a :=
  ⟨fun m => m.elim id fun ⟨i, d, e, _⟩ => absurd e (n i d), .inl⟩
theorem NoOwn.set {ρ : Env} (n : NoOwn ρ) {i : Nat} {d : PyData} : NoOwn (ρ.set i (.sh d)) := fun j e q => by
  by_cases hv : i = j
  · subst hv
    by_cases hl : i < ρ.length
    · rw [List.getElem?_set_self hl] at q; cases q
    · rw [List.getElem?_eq_none (by rw [List.length_set]; omega)] at q; cases q
  · rw [List.getElem?_set_ne hv] at q; exact n j e q
mutual
theorem bindT_noOwn : ∀ {t : Tg} {d : PyData} {ρ ρ' : Env}, NoOwn ρ → bindT t d ρ = some ρ' → NoOwn ρ'
  | .nm i, d, ρ, ρ', n, e => by unfold bindT at e; cases e; exact n.set
  | .tp ts, d, ρ, ρ', n, e => by
    cases d with
    | tuple ds => unfold bindT at e; exact bindTs_noOwn n e
    | _ => unfold bindT at e; cases e
theorem bindTs_noOwn : ∀ {t : Tgs} {d : List PyData} {ρ ρ' : Env}, NoOwn ρ → bindTs t d ρ = some ρ' → NoOwn ρ'
  | .nil, [], ρ, ρ', n, e => by unfold bindTs at e; cases e; exact n
  | .nil, _ :: _, _, _, _, e => by unfold bindTs at e; cases e
  | .cons t r, [], _, _, _, e => by unfold bindTs at e; cases e
  | .cons t r, d :: ds, ρ, ρ', n, e => by
    unfold bindTs at e
    cases e1 : bindT t d ρ with
    | none => rw [e1] at e; cases e
    | some ρ1 => rw [e1] at e; exact bindTs_noOwn (bindT_noOwn n e1) e
end
section
variable {G : Gh} {hd : Option Addr} {ρ : Env} {h h' : Hand} {σ : L2.St} {H1 H : Hp} {D : Addr} {vs : List Nat}
/-- the ghosts of a block -/
def blkG (G : Gh) (ρ : Env) (σ : L2.St) (hd : Option Addr) (D : Addr) (H : Hp) : Gh := { S := G.S, Zc := fun a => G.Z ρ σ hd a ∨ a = D, H0 := H, M0 := fun a => hd = some a, Bz := G.Z ρ σ hd, hd0 := hd }
theorem Stp.moreM {M M' M'' : Addr → Prop} {H H' : Hp} (s : Stp M H M' H') (h : ∀ a, M'' a → M' a) : Stp M H M'' H' := ⟨s.keep, fun a m => s.own a (h a m), s.there, s.tups, s.frzs⟩
theorem blk_rel (R : Rel G hd ρ h σ H1) (nD : H1 D = none) (st : Stp (fun a => hd = some a) H1 (fun a => hd = some a ∨ a = D) H) (eD : H D ≠ none) (hh : HndOk G.K H (fun a => G.Z ρ σ hd a ∨ a = D) hd h') (tb : Tabs G.T H) :
    Rel (blkG G ρ σ hd D H) hd (wipeE (lend ρ) vs) h' (wipe σ vs) H := by
  have mo : ∀ {a : Addr}, Mo (wipeE (lend ρ) vs) (wipe σ vs) hd a ↔ hd = some a := (blk_noOwn ρ vs).mo
  have zz : ∀ a, ((blkG G ρ σ hd D H).Zc a ∨ Mo (wipeE (lend ρ) vs) (wipe σ vs) hd a) → (G.Z ρ σ hd a ∨ a = D) := fun a z => z.elim id fun m => .inl (.inr (.inl (mo.mp m)))
  have hk : ∀ a o, H1 a = some o → ¬ G.Z ρ σ hd a → (∀ ps, o ≠ .tbl ps) → H a = some o := fun a o e n t => st.keep a o e (fun z => n (.inr (.inl z))) t
  have hz : ∀ a, H1 a ≠ none → ((blkG G ρ σ hd D H).Zc a ∨ Mo (wipeE (lend ρ) vs) (wipe σ vs) hd a) → G.Z ρ σ hd a := fun a n z => (zz a z).elim id fun e => absurd (by rw [e]; exact nD) n
  have rt : ∀ {a : Addr} {d : PyData}, Root G.K H1 (G.Z ρ σ hd) a d → hd ≠ some a → Root G.K H (fun a => (blkG G ρ σ hd D H).Zc a ∨ Mo (wipeE (lend ρ) vs) (wipe σ vs) hd a) a d := fun {a d} r n => r.mv (fun o e t _ => st.keep a o e n t) hk hz st.tups st.frzs
  refine ⟨by rw [wipe_length, wipeE_len]; unfold lend; rw [List.length_map]; exact R.len, fun i s e => ?_, fun i j d d' a e _ _ _ => absurd e (blk_noOwn ρ vs i d), ?_, ⟨fun a o e _ _ => e, fun a m => .inl (mo.mp m), fun _ e => e, fun _ _ e => e, fun _ _ _ e => e⟩, fun a e => e, tb, fun a z => ?_, fun a z => .inl z⟩
  · rcases wipeE_get e with q | ⟨q, ni⟩
    · subst q; trivial
    · rw [wipe_out ni]
      unfold lend at q
      rw [List.getElem?_map] at q
      cases q0 : ρ[i]? with
      | none => rw [q0] at q; cases q
      | some s0 =>
        rw [q0] at q
        have so := R.slot i s0 q0
        cases s0 with
        | non => cases q; trivial
        | sh d =>
          cases q
          obtain ⟨v, e1, r⟩ := so
          exact ⟨v, e1, r.mv hk hz st.tups st.frzs⟩
        | own d =>
          cases q
          obtain ⟨a, e1, r, _, _, nh⟩ := so
          exact ⟨a, e1, rt r nh, fun m => nh (mo.mp m), .inr (.inr ⟨i, d, q0, e1⟩)⟩
        | bor d =>
          cases q
          obtain ⟨a, e1, r, nm, az⟩ := so
          exact ⟨a, e1, rt r (fun z => nm (.inl z)), fun m => nm (.inl (mo.mp m)), .inl (R.bz _ az)⟩
        | fn k => cases q; exact so
        | hnd => cases q; exact so
        | exc c => cases q; exact so
        | scr ds =>
          cases q
          obtain ⟨a, ys, e1, f, l, q3⟩ := so
          exact ⟨a, ys, e1, f.mv st.frzs, l, q3.mv hk hz st.tups st.frzs⟩
  · exact HndOk.mv (fun a o e _ _ => e) (fun a o e _ _ => e) (fun a _ z => zz a z) (fun _ _ e => e) (fun _ _ _ e => e) hh
  · rcases z with z | z
    · intro e
      exact z.elim (fun z => R.zdom a z (st.there a e)) fun z => Mo.dom R z (st.there a e)
    · rw [z]; exact eD
end
end PyD

/-! PyM: list comprehensions. -/
namespace PyD
open PySem L2 LamX

def noW : WX := fun _ _ _ _ => False
section
variable {G : Gh} {W : WX} {hd : Option Addr} {ρ : Env} {h : Hand} {σ : L2.St} {H : Hp} {α : Type} {own : Bool}
theorem seqSrc {m : M (List PyData)} {f : List PyData → Env → Hand → Rs α} {k : α → Env → Hand → Hp → Prop} (R : Rel G hd ρ h σ H) (o : Out G W σ hd ρ H ((m ρ h).bind f) k) {Rq : It → Hp → Prop}
    (hq : ∀ its ρ1 h1 J H1, Rel G hd ρ1 h1 σ H1 → Stp (Mo ρ σ hd) H (Mo ρ1 σ hd) H1 → ItOk G.K (lpZ own G ρ1 σ hd) J its (lpM own ρ1 σ hd) H1 → Out G W σ hd ρ1 H1 (f its ρ1 h1) k → Rq J H1) : tI G.S W own m σ H Rq := by
  refine ⟨G, rfl, hd, ρ, h, R, ?_⟩
  cases e : m ρ h with
  | ok p ρ1 h1 =>
    rw [e] at o
    exact fun H1 R1 s1 J r => hq p ρ1 h1 J H1 R1 s1 r (Out.from (show Out G W σ hd ρ H (f p ρ1 h1) k from o) s1)
  | exc c ρ1 h1 => rw [e] at o; exact o
  | fail => rw [e] at o; exact o
end
section
variable {S : Sx} {W : WX} {C : Cl} {vs : List Nat} {t : Tg} {src : Src} {cond : Eo} {elt : E}
theorem drop_get {α : Type} {xs : List α} {i : Nat} {x : α} (e : xs[i]? = some x) : xs.drop i = x :: xs.drop (i + 1) := by
  obtain ⟨h, e⟩ := List.getElem?_eq_some_iff.mp e
  rw [List.drop_eq_getElem_cons h, e]
theorem lc_tE (hs : ∀ i ∈ tgN t, i ∈ vs) {σ : L2.St} {H : Hp} {Q : VK} (hw : tE S W (ev C (.comp vs t src cond elt)) σ H Q) :
    tLc (tI S W true (evSrc C true src)) (tG S (tgN t) (bindT t)) (tT S noW (evc C cond)) (tE S noW (ev C elt)) vs σ H Q := by
  obtain ⟨G, rfl, hd, ρ, h, R, oo⟩ := hw
  unfold ev at oo
  refine seqSrc R oo fun its ρ1 h1 J H1 R1 s1 it o1 D nD => ?_
  obtain ⟨q, eq, o2⟩ := Out.ofO o1
  have nhD : hd ≠ some D := fun e => Mo.dom R1 (.inl e) nD
  have Zb : Addr → Prop := fun a => G.Z ρ1 σ hd a ∨ a = D
  -- the invariant by the turn
  refine ⟨fun i m Hc => m = its.length - i ∧ i ≤ its.length ∧ ∃ (acc : List V) (accD : List PyData) (hc : Hand) (rest : List PyData), Hc D = some (.lst acc) ∧ acc.length ≤ i ∧ RpA G.K Hc (fun a => G.Z ρ1 σ hd a ∨ a = D) acc accD ∧
      Stp (fun a => hd = some a) H1 (fun a => hd = some a ∨ a = D) Hc ∧ HndOk G.K Hc (fun a => G.Z ρ1 σ hd a ∨ a = D) hd hc ∧ Tabs G.T Hc ∧ compL (wipeE (lend ρ1) vs) t (evc C cond) (ev C elt) (its.drop i) hc = some (rest, q.2) ∧ accD ++ rest = q.1, ⟨its.length, ?_⟩, ?_⟩
  · refine ⟨by simp, Nat.zero_le _, [], [], h1, q.1, upd_same, Nat.le_refl _, .nil, ?_, ?_, tabs_same R1.tabs (same_upd nD), by rw [List.drop_zero]; exact eq, rfl⟩
    · exact ⟨fun a o e _ _ => same_upd nD a o e, fun a z => z.elim .inl fun e => .inr (by rw [e]; exact nD), fun a e => Same.free (same_upd nD) e, fun a xs e => same_upd nD a _ e, fun a o u e => same_upd nD a _ e⟩
    · exact R1.hnd.mv (fun a o e _ _ => same_upd nD a o e) (fun a o e _ _ => same_upd nD a o e) (fun a n z => z.elim id fun e => absurd (by rw [e]; exact nD) n) (fun a xs e => same_upd nD a _ e) fun a o u e => same_upd nD a _ e
  · rintro i m Hc ⟨rfl, hi, acc, accD, hc, rest, eD, la, qa, st, hh, tb, ec, er⟩
    have itM : Stp (lpM true ρ1 σ hd) H1 (fun a => hd = some a ∨ a = D) Hc := st
    by_cases hlt : i < its.length
    · have ei : its[i]? = some its[i] := List.getElem?_eq_getElem hlt
      obtain ⟨go, yl⟩ := it.go _ _ itM i _ ei
      rw [drop_get ei] at ec
      unfold compL at ec
      refine .inr ⟨go, fun H' => i + 1 ≤ its.length ∧ ∃ (acc : List V) (accD : List PyData) (hc : Hand) (rest : List PyData), H' D = some (.lst acc) ∧ acc.length ≤ i + 1 ∧ RpA G.K H' (fun a => G.Z ρ1 σ hd a ∨ a = D) acc accD ∧
        Stp (fun a => hd = some a) H1 (fun a => hd = some a ∨ a = D) H' ∧ HndOk G.K H' (fun a => G.Z ρ1 σ hd a ∨ a = D) hd hc ∧ Tabs G.T H' ∧ compL (wipeE (lend ρ1) vs) t (evc C cond) (ev C elt) (its.drop (i + 1)) hc = some (rest, q.2) ∧ accD ++ rest = q.1, fun H' ⟨l, p⟩ => ⟨its.length - (i + 1), by omega, rfl, l, p⟩, fun x Hy y => ?_⟩
      obtain ⟨sm, rx⟩ := yl x Hy y
      -- at the turn's start
      have stY : Stp (fun a => hd = some a) H1 (fun a => hd = some a ∨ a = D) Hy := st.trans (Stp.same sm)
      have hhY : HndOk G.K Hy (fun a => G.Z ρ1 σ hd a ∨ a = D) hd hc := hh.mv (fun a o e _ _ => sm a o e) (fun a o e _ _ => sm a o e) (fun _ _ z => z) (fun a xs e => sm a _ e) fun a o u e => sm a _ e
      have RY := blk_rel (vs := vs) R1 nD stY (by rw [sm D _ eD]; simp) hhY (tabs_same tb sm)
      have mo : ∀ {a : Addr}, Mo (wipeE (lend ρ1) vs) (wipe σ vs) hd a ↔ hd = some a := (blk_noOwn ρ1 vs).mo
      have eDY : Hy D = some (.lst acc) := sm D _ eD
      have qaY : RpA G.K Hy (fun a => G.Z ρ1 σ hd a ∨ a = D) acc accD := qa.same sm
      cases eb : bindT t its[i] (wipeE (lend ρ1) vs) with
      | none => rw [eb] at ec; cases ec
      | some ρ2 =>
        rw [eb] at ec
        have no2 := bindT_noOwn (blk_noOwn ρ1 vs) eb
        refine ⟨blkG G ρ1 σ hd D Hy, rfl, hd, _, hc, its[i], ρ2, RY, rx.anti fun a z => ?_, eb, fun σ2 R2 l2 on => ⟨on vs hs |>.trans ?_, blkG G ρ1 σ hd D Hy, rfl, hd, ρ2, hc, R2, ?_⟩⟩
        · rcases z with (z | z) | z
          · exact .inl z
          · exact .inr (.inr z)
          · exact .inr (.inl (mo.mp z))
        · -- wiping twice
          have : ∀ (us : List Nat) (τ : L2.St), (∀ i ∈ us, i ∈ vs) → wipe (wipe τ us) vs = wipe τ vs := by
            intro us
            induction us with
            | nil => intro τ _; rfl
            | cons u r ih =>
              intro τ hu
              show wipe ((wipe τ r).set u none) vs = _
              rw [wipe_comm, if_pos (hu u List.mem_cons_self)]
              exact ih τ fun i hi => hu i (List.mem_cons_of_mem _ hi)
          exact this vs σ fun i hi => hi
        · -- what a turn leaves
          have leave : ∀ {ρ' : Env} {h' : Hand} {H' : Hp}, Rel (blkG G ρ1 σ hd D Hy) hd ρ' h' σ2 H' → Stp (Mo ρ2 σ2 hd) Hy (Mo ρ' σ2 hd) H' →
              Stp (fun a => hd = some a) H1 (fun a => hd = some a ∨ a = D) H' ∧ HndOk G.K H' (fun a => G.Z ρ1 σ hd a ∨ a = D) hd h' ∧ Tabs G.T H' ∧ H' D = some (.lst acc) ∧ RpA G.K H' (fun a => G.Z ρ1 σ hd a ∨ a = D) acc accD := fun {ρ' h' H'} R' s' => by
            have k : ∀ a o, Hy a = some o → hd ≠ some a → (∀ ps, o ≠ .tbl ps) → H' a = some o := fun a o e n t => s'.keep a o e (fun m => n (no2.mo.mp m)) t
            refine ⟨?_, ?_, R'.tabs, ?_, ?_⟩
            · exact ⟨fun a o e n t => k a o (stY.keep a o e n t) n t, fun a z => z.elim .inl fun e => .inr (by rw [e]; exact nD), fun a e => stY.there a (s'.there a e), fun a xs e => s'.tups a xs (stY.tups a xs e), fun a o u e => s'.frzs a o u (stY.frzs a o u e)⟩
            · exact HndOk.mv (fun a o e _ _ => e) (fun a o e _ _ => e) (fun a _ z => .inl z) (fun _ _ e => e) (fun _ _ _ e => e) R'.hnd
            · exact k D _ eDY nhD (fun ps => by simp)
            · exact qaY.mv (fun a o e n t => k a o e (fun z => n (.inl (.inr (.inl z)))) t) (fun a _ z => z) s'.tups s'.frzs
          dsimp only at ec
          cases e2 : evc C cond ρ2 hc with
          | fail => rw [e2] at ec; cases ec
          | exc c ρ3 h3 => rw [e2] at ec; cases ec
          | ok b ρ3 h3 =>
            rw [e2] at ec
            intro H3 R3 s3
            cases b with
            | false =>
              obtain ⟨a1, a2, a3, a4, a5⟩ := leave R3 s3
              exact ⟨hlt, acc, accD, h3, rest, a4, Nat.le_succ_of_le la, a5, a1, a2, a3, ec, er⟩
            | true =>
              refine ⟨blkG G ρ1 σ hd D Hy, rfl, hd, ρ3, h3, R3, ?_⟩
              dsimp only at ec
              cases e3 : ev C elt ρ3 h3 with
              | fail => rw [e3] at ec; cases ec
              | exc c ρ4 h4 => rw [e3] at ec; cases ec
              | ok p ρ4 h4 =>
                rw [e3] at ec
                obtain ⟨q', eq', e4⟩ := Option.map_eq_some_iff.mp ec
                intro H4 R4 s4 y ry
                obtain ⟨a1, a2, a3, a4, a5⟩ := leave R4 (s3.trans s4)
                have ll : acc.length < sizeLine := by
                  have := it.len
                  omega
                refine ⟨acc, a4, ll, hlt, acc ++ [y], accD ++ [p.2], h4, q'.1, upd_same, by rw [List.length_append]; exact Nat.succ_le_succ la, ?_, ?_, ?_, tabs_upd a3 a4, ?_, ?_⟩
                · have ud := upd_stp (M := fun a => G.Z ρ1 σ hd a ∨ a = D) (ys := acc ++ [y]) (.inr rfl) a4
                  have ry' : Rp G.K H4 (fun a => G.Z ρ1 σ hd a ∨ a = D) y p.2 := ry.1.anti fun a z => .inl z
                  exact (a5.app (.cons ry' .nil)).mv (fun a o e n t => ud.keep a o e n t) (fun a _ z => z) ud.tups ud.frzs
                · refine ⟨fun a o e n t => ?_, fun a z => z.elim .inl fun e => .inr (by rw [e]; exact nD), fun a e => ?_, fun a xs e => ?_, fun a o u e => ?_⟩
                  · rw [upd_ne (ne_of_none e nD)]; exact a1.keep a o e n t
                  · by_cases z : a = D
                    · rw [z]; exact nD
                    · rw [upd_ne z] at e; exact a1.there a e
                  · rw [upd_ne (ne_of_none e nD)]; exact a1.tups a xs e
                  · rw [upd_ne (ne_of_none e nD)]; exact a1.frzs a o u e
                · have ud := upd_stp (M := fun a => G.Z ρ1 σ hd a ∨ a = D) (ys := acc ++ [y]) (.inr rfl) a4
                  exact a2.mv (fun a o e z _ => by rw [upd_ne (fun w => nhD (by rw [← w]; exact z))]; exact e) (fun a o e n t => ud.keep a o e n t) (fun a _ z => z) ud.tups ud.frzs
                · rw [eq']
                  have : q'.2 = q.2 := (Prod.mk.inj e4).2
                  rw [← this]
                · have : p.2 :: q'.1 = rest := (Prod.mk.inj e4).1
                  rw [List.append_assoc, List.singleton_append, this]
                  exact er
    · have e : i = its.length := by omega
      subst e
      rw [List.drop_length] at ec
      unfold compL at ec
      cases ec
      rw [List.append_nil] at er
      have stop := it.stop _ _ itM
      have st0 : Stp (fun a => hd = some a) H1 (fun a => hd = some a) Hc := st.moreM fun a z => .inl z
      have hh0 : HndOk G.K Hc (G.Z ρ1 σ hd) hd q.2 := hh.mv (fun a o e _ _ => e) (fun a o e _ _ => e) (fun a _ z => .inl z) (fun _ _ e => e) (fun _ _ _ e => e)
      have R2 := R1.move st0 hh0 tb
      have nz := R1.fresh nD
      have ll : acc.length ≤ sizeLine := Nat.le_trans la it.len
      have qa0 : RpA G.K Hc (G.Z ρ1 σ hd) acc accD := qa.anti fun a z => .inl z
      have o3 := o2 Hc R2 ⟨fun a o e n t => st0.keep a o e (fun z => n (.inl z)) t, fun a z => .inl z, st0.there, st0.tups, st0.frzs⟩ (.ref D) ⟨by rw [← er]; exact .lst eD nz ll qa0, fun _ => ⟨D, rfl, .inr (R1.stp.there D nD), nz, ?_, R1.moveAlso nD ⟨st0, hh0, tb⟩ hh (by rw [eD]; simp)⟩⟩
      · exact .inl ⟨stop, o3⟩
      · rw [← er]
        refine .lst eD ll (qa.anti fun a z => ?_)
        rcases z with (z | z) | z
        · exact .inl (.inl z)
        · exact .inr z
        · exact .inl (.inr z)
theorem dc_tE {key val : E} (hs : ∀ i ∈ tgN t, i ∈ vs) {σ : L2.St} {H : Hp} {Q : VK} (hw : tE S W (ev C (.dcomp vs t src cond key val)) σ H Q) :
    tDc (tI S W true (evSrc C true src)) (tG S (tgN t) (bindT t)) (tT S noW (evc C cond)) (tE S noW (ev C key)) (tE S noW (ev C val)) vs σ H Q := by
  obtain ⟨G, rfl, hd, ρ, h, R, oo⟩ := hw
  unfold ev at oo
  refine seqSrc R oo fun its ρ1 h1 J H1 R1 s1 it o1 D nD => ?_
  obtain ⟨q, eq, o2⟩ := Out.ofO o1
  have nhD : hd ≠ some D := fun e => Mo.dom R1 (.inl e) nD
  have Zb : Addr → Prop := fun a => G.Z ρ1 σ hd a ∨ a = D
  -- the invariant by the turn
  refine ⟨fun i m Hc => m = its.length - i ∧ i ≤ its.length ∧ ∃ (acc : List (Key × V)) (accD : List (PyData × PyData)) (hc : Hand), Hc D = some (.dK acc) ∧ acc.length ≤ i ∧ RpK G.K Hc (fun a => G.Z ρ1 σ hd a ∨ a = D) acc accD ∧
      Stp (fun a => hd = some a) H1 (fun a => hd = some a ∨ a = D) Hc ∧ HndOk G.K Hc (fun a => G.Z ρ1 σ hd a ∨ a = D) hd hc ∧ Tabs G.T Hc ∧ compD (wipeE (lend ρ1) vs) t (evc C cond) (ev C key) (ev C val) (its.drop i) accD hc = some (q.1, q.2), ⟨its.length, ?_⟩, ?_⟩
  · refine ⟨by simp, Nat.zero_le _, [], [], h1, upd_same, Nat.le_refl _, .nil, ?_, ?_, tabs_same R1.tabs (same_upd nD), by rw [List.drop_zero]; exact eq⟩
    · exact ⟨fun a o e _ _ => same_upd nD a o e, fun a z => z.elim .inl fun e => .inr (by rw [e]; exact nD), fun a e => Same.free (same_upd nD) e, fun a xs e => same_upd nD a _ e, fun a o u e => same_upd nD a _ e⟩
    · exact R1.hnd.mv (fun a o e _ _ => same_upd nD a o e) (fun a o e _ _ => same_upd nD a o e) (fun a n z => z.elim id fun e => absurd (by rw [e]; exact nD) n) (fun a xs e => same_upd nD a _ e) fun a o u e => same_upd nD a _ e
  · rintro i m Hc ⟨rfl, hi, acc, accD, hc, eD, la, qa, st, hh, tb, ec⟩
    have itM : Stp (lpM true ρ1 σ hd) H1 (fun a => hd = some a ∨ a = D) Hc := st
    by_cases hlt : i < its.length
    · have ei : its[i]? = some its[i] := List.getElem?_eq_getElem hlt
      obtain ⟨go, yl⟩ := it.go _ _ itM i _ ei
      rw [drop_get ei] at ec
      unfold compD at ec
      refine .inr ⟨go, fun H' => i + 1 ≤ its.length ∧ ∃ (acc : List (Key × V)) (accD : List (PyData × PyData)) (hc : Hand), H' D = some (.dK acc) ∧ acc.length ≤ i + 1 ∧ RpK G.K H' (fun a => G.Z ρ1 σ hd a ∨ a = D) acc accD ∧
        Stp (fun a => hd = some a) H1 (fun a => hd = some a ∨ a = D) H' ∧ HndOk G.K H' (fun a => G.Z ρ1 σ hd a ∨ a = D) hd hc ∧ Tabs G.T H' ∧ compD (wipeE (lend ρ1) vs) t (evc C cond) (ev C key) (ev C val) (its.drop (i + 1)) accD hc = some (q.1, q.2), fun H' ⟨l, p⟩ => ⟨its.length - (i + 1), by omega, rfl, l, p⟩, fun x Hy y => ?_⟩
      obtain ⟨sm, rx⟩ := yl x Hy y
      -- at the turn's start
      have stY : Stp (fun a => hd = some a) H1 (fun a => hd = some a ∨ a = D) Hy := st.trans (Stp.same sm)
      have hhY : HndOk G.K Hy (fun a => G.Z ρ1 σ hd a ∨ a = D) hd hc := hh.mv (fun a o e _ _ => sm a o e) (fun a o e _ _ => sm a o e) (fun _ _ z => z) (fun a xs e => sm a _ e) fun a o u e => sm a _ e
      have RY := blk_rel (vs := vs) R1 nD stY (by rw [sm D _ eD]; simp) hhY (tabs_same tb sm)
      have mo : ∀ {a : Addr}, Mo (wipeE (lend ρ1) vs) (wipe σ vs) hd a ↔ hd = some a := (blk_noOwn ρ1 vs).mo
      have eDY : Hy D = some (.dK acc) := sm D _ eD
      have qaY : RpK G.K Hy (fun a => G.Z ρ1 σ hd a ∨ a = D) acc accD := qa.same sm
      cases eb : bindT t its[i] (wipeE (lend ρ1) vs) with
      | none => rw [eb] at ec; cases ec
      | some ρ2 =>
        rw [eb] at ec
        have no2 := bindT_noOwn (blk_noOwn ρ1 vs) eb
        refine ⟨blkG G ρ1 σ hd D Hy, rfl, hd, _, hc, its[i], ρ2, RY, rx.anti fun a z => ?_, eb, fun σ2 R2 l2 on => ⟨on vs hs |>.trans ?_, blkG G ρ1 σ hd D Hy, rfl, hd, ρ2, hc, R2, ?_⟩⟩
        · rcases z with (z | z) | z
          · exact .inl z
          · exact .inr (.inr z)
          · exact .inr (.inl (mo.mp z))
        · -- wiping twice
          have : ∀ (us : List Nat) (τ : L2.St), (∀ i ∈ us, i ∈ vs) → wipe (wipe τ us) vs = wipe τ vs := by
            intro us
            induction us with
            | nil => intro τ _; rfl
            | cons u r ih =>
              intro τ hu
              show wipe ((wipe τ r).set u none) vs = _
              rw [wipe_comm, if_pos (hu u List.mem_cons_self)]
              exact ih τ fun i hi => hu i (List.mem_cons_of_mem _ hi)
          exact this vs σ fun i hi => hi
        · -- what a turn leaves
          have leave : ∀ {ρ' : Env} {h' : Hand} {H' : Hp}, Rel (blkG G ρ1 σ hd D Hy) hd ρ' h' σ2 H' → Stp (Mo ρ2 σ2 hd) Hy (Mo ρ' σ2 hd) H' →
              Stp (fun a => hd = some a) H1 (fun a => hd = some a ∨ a = D) H' ∧ HndOk G.K H' (fun a => G.Z ρ1 σ hd a ∨ a = D) hd h' ∧ Tabs G.T H' ∧ H' D = some (.dK acc) ∧ RpK G.K H' (fun a => G.Z ρ1 σ hd a ∨ a = D) acc accD := fun {ρ' h' H'} R' s' => by
            have k : ∀ a o, Hy a = some o → hd ≠ some a → (∀ ps, o ≠ .tbl ps) → H' a = some o := fun a o e n t => s'.keep a o e (fun m => n (no2.mo.mp m)) t
            refine ⟨?_, ?_, R'.tabs, ?_, ?_⟩
            · exact ⟨fun a o e n t => k a o (stY.keep a o e n t) n t, fun a z => z.elim .inl fun e => .inr (by rw [e]; exact nD), fun a e => stY.there a (s'.there a e), fun a xs e => s'.tups a xs (stY.tups a xs e), fun a o u e => s'.frzs a o u (stY.frzs a o u e)⟩
            · exact HndOk.mv (fun a o e _ _ => e) (fun a o e _ _ => e) (fun a _ z => .inl z) (fun _ _ e => e) (fun _ _ _ e => e) R'.hnd
            · exact k D _ eDY nhD (fun ps => by simp)
            · exact qaY.mv (fun a o e n t => k a o e (fun z => n (.inl (.inr (.inl z)))) t) (fun a _ z => z) s'.tups s'.frzs
          dsimp only at ec
          cases e2 : evc C cond ρ2 hc with
          | fail => rw [e2] at ec; cases ec
          | exc c ρ3 h3 => rw [e2] at ec; cases ec
          | ok b ρ3 h3 =>
            rw [e2] at ec
            intro H3 R3 s3
            cases b with
            | false =>
              obtain ⟨a1, a2, a3, a4, a5⟩ := leave R3 s3
              exact ⟨hlt, acc, accD, h3, a4, Nat.le_succ_of_le la, a5, a1, a2, a3, ec⟩
            | true =>
              refine ⟨blkG G ρ1 σ hd D Hy, rfl, hd, ρ3, h3, R3, ?_⟩
              dsimp only at ec
              cases e3 : ev C key ρ3 h3 with
              | fail => rw [e3] at ec; cases ec
              | exc c ρ4 h4 => rw [e3] at ec; cases ec
              | ok p ρ4 h4 =>
                rw [e3] at ec
                dsimp only at ec
                intro H4 R4 s4 y ry
                refine ⟨blkG G ρ1 σ hd D Hy, rfl, hd, ρ4, h4, R4, ?_⟩
                cases e5 : ev C val ρ4 h4 with
                | fail => rw [e5] at ec; cases ec
                | exc c ρ5 h5 => rw [e5] at ec; cases ec
                | ok pv ρ5 h5 =>
                  rw [e5] at ec
                  dsimp only at ec
                  intro H5 R5 s5 z rz
                  obtain ⟨a1, a2, a3, a4, a5⟩ := leave R5 ((s3.trans s4).trans s5)
                  cases ek : keyOf p.2 with
                  | none => rw [ek] at ec; cases ec
                  | some k =>
                    rw [ek] at ec
                    dsimp only at ec
                    have ll : acc.length < sizeLine := by
                      have := it.len
                      omega
                    have ekv := kV_of ry.1 ek
                    refine ⟨acc, k, ekv, a4, ll, hlt, putK acc k z, dput accD k pv.2, h5, upd_same, ?_, ?_, ?_, ?_, tabs_updK a3 a4, ec⟩
                    · have := length_putK acc k z
                      omega
                    · have ud := updK_stp (M := fun a => G.Z ρ1 σ hd a ∨ a = D) (ys := putK acc k z) (.inr rfl) a4
                      have rz' : Rp G.K H5 (fun a => G.Z ρ1 σ hd a ∨ a = D) z pv.2 := rz.1.anti fun a z => .inl z
                      exact (a5.put k rz').mv (fun a o e n t => ud.keep a o e n t) (fun a _ z => z) ud.tups ud.frzs
                    · refine ⟨fun a o e n t => ?_, fun a z => z.elim .inl fun e => .inr (by rw [e]; exact nD), fun a e => ?_, fun a xs e => ?_, fun a o u e => ?_⟩
                      · rw [upd_ne (ne_of_none e nD)]; exact a1.keep a o e n t
                      · by_cases z : a = D
                        · rw [z]; exact nD
                        · rw [upd_ne z] at e; exact a1.there a e
                      · rw [upd_ne (ne_of_none e nD)]; exact a1.tups a xs e
                      · rw [upd_ne (ne_of_none e nD)]; exact a1.frzs a o u e
                    · have ud := updK_stp (M := fun a => G.Z ρ1 σ hd a ∨ a = D) (ys := putK acc k z) (.inr rfl) a4
                      exact a2.mv (fun a o e z _ => by rw [upd_ne (fun w => nhD (by rw [← w]; exact z))]; exact e) (fun a o e n t => ud.keep a o e n t) (fun a _ z => z) ud.tups ud.frzs
    · have e : i = its.length := by omega
      subst e
      rw [List.drop_length] at ec
      unfold compD at ec
      have er : accD = q.1 := congrArg Prod.fst (Option.some.inj ec)
      have er2 : hc = q.2 := congrArg Prod.snd (Option.some.inj ec)
      subst er2
      have stop := it.stop _ _ itM
      have st0 : Stp (fun a => hd = some a) H1 (fun a => hd = some a) Hc := st.moreM fun a z => .inl z
      have hh0 : HndOk G.K Hc (G.Z ρ1 σ hd) hd q.2 := hh.mv (fun a o e _ _ => e) (fun a o e _ _ => e) (fun a _ z => .inl z) (fun _ _ e => e) (fun _ _ _ e => e)
      have R2 := R1.move st0 hh0 tb
      have nz := R1.fresh nD
      have qa0 : RpK G.K Hc (G.Z ρ1 σ hd) acc accD := qa.anti fun a z => .inl z
      have o3 := o2 Hc R2 ⟨fun a o e n t => st0.keep a o e (fun z => n (.inl z)) t, fun a z => .inl z, st0.there, st0.tups, st0.frzs⟩ (.ref D) ⟨by rw [← er]; exact .dic eD nz qa0, fun _ => ⟨D, rfl, .inr (R1.stp.there D nD), nz, ?_, R1.moveAlso nD ⟨st0, hh0, tb⟩ hh (by rw [eD]; simp)⟩⟩
      · exact .inl ⟨stop, o3⟩
      · rw [← er]
        refine .dic eD (qa.anti fun a z => ?_)
        rcases z with (z | z) | z
        · exact .inl (.inl z)
        · exact .inr z
        · exact .inl (.inr z)
variable {X : Cx} {x tg iter : Expr} {ifs : List Expr} {scope : Scope} {own : List (Str × Nat)} {pos : Pos}
theorem s_comp (hc : X.calm = true) (hN : X.N.Nodup) (hi : PI X tg iter (tI S W true (evSrc C true src))) (ok : BlkOk X.N X.env.scope scope own) (hv : own.map (·.2) = vs) (hs : ∀ i ∈ tgN t, i ∈ vs)
    (hg : ∀ (s : Shared) (H : Hp) (Ca : Addr) (cl : List (Str × Addr)) (fp : List Addr), PG (X.blk s H scope (compEnvC scope cl Ca X.env) fp) tg (tG S (tgN t) (bindT t)))
    (ht : ∀ (s : Shared) (H : Hp) (Ca : Addr) (cl : List (Str × Addr)) (fp : List Addr), PTs (X.blk s H scope (compEnvC scope cl Ca X.env) fp) ifs (tT S noW (evc C cond)))
    (he : ∀ (s : Shared) (H : Hp) (Ca : Addr) (cl : List (Str × Addr)) (fp : List Addr), PE (X.blk s H scope (compEnvC scope cl Ca X.env) fp) x (tE S noW (ev C elt))) (hf : ∀ x, foldedSetIterable iter X.env x = pure x) :
    PE X (.ListComp x [⟨tg, iter, ifs, 0⟩] scope pos) (tE S W (ev C (.comp vs t src cond elt))) := by
  subst hv
  exact PE.imp (pe_lc hc hN hi ok hg ht he hf) fun σ H Q h => lc_tE hs h
theorem s_dcomp {key val : E} {y : Expr} (hc : X.calm = true) (hN : X.N.Nodup) (hi : PI X tg iter (tI S W true (evSrc C true src))) (ok : BlkOk X.N X.env.scope scope own) (hv : own.map (·.2) = vs) (hs : ∀ i ∈ tgN t, i ∈ vs)
    (hg : ∀ (s : Shared) (H : Hp) (Ca : Addr) (cl : List (Str × Addr)) (fp : List Addr), PG (X.blk s H scope (compEnvC scope cl Ca X.env) fp) tg (tG S (tgN t) (bindT t)))
    (ht : ∀ (s : Shared) (H : Hp) (Ca : Addr) (cl : List (Str × Addr)) (fp : List Addr), PTs (X.blk s H scope (compEnvC scope cl Ca X.env) fp) ifs (tT S noW (evc C cond)))
    (hk : ∀ (s : Shared) (H : Hp) (Ca : Addr) (cl : List (Str × Addr)) (fp : List Addr), PE (X.blk s H scope (compEnvC scope cl Ca X.env) fp) x (tE S noW (ev C key)))
    (he : ∀ (s : Shared) (H : Hp) (Ca : Addr) (cl : List (Str × Addr)) (fp : List Addr), PE (X.blk s H scope (compEnvC scope cl Ca X.env) fp) y (tE S noW (ev C val))) (hf : ∀ x, foldedSetIterable iter X.env x = pure x) :
    PE X (.DictComp x y [⟨tg, iter, ifs, 0⟩] scope pos) (tE S W (ev C (.dcomp vs t src cond key val))) := by
  subst hv
  exact PE.imp (pe_dc hc hN hi ok hg ht hk he hf) fun σ H Q h => dc_tE hs h
end
/-! {k: v} -/
section
variable {G : Gh} {hd : Option Addr} {ρ : Env} {h : Hand} {σ : L2.St} {H : Hp}
/-- a place that may change, and that nothing looks at, changes -/
theorem Rel.updZ (R : Rel G hd ρ h σ H) {p : Addr} {xs ys : List (Key × V)} (e : H p = some (.dK xs)) (zp : G.Zc p) (bp : ¬ G.Bz p) (hp : hd ≠ some p) (n0 : G.H0 p = none) : Rel G hd ρ h σ (upd H p (.dK ys)) := by
  have keep : ∀ a o, H a = some o → a ≠ p → upd H p (.dK ys) a = some o := fun a o ea z => by rw [upd_ne z]; exact ea
  have ht : ∀ a xs, H a = some (.tup xs) → upd H p (.dK ys) a = some (.tup xs) := fun a xs ea => by rw [upd_ne (ne_of ea e (by intro z; cases z))]; exact ea
  have hf : ∀ b o u, H b = some (.frz o u) → upd H p (.dK ys) b = some (.frz o u) := fun a o u ea => by rw [upd_ne (ne_of ea e (by intro z; cases z))]; exact ea
  have hk : ∀ a o, H a = some o → ¬ (G.Zc a ∨ Mo ρ σ hd a) → (∀ ps, o ≠ .tbl ps) → upd H p (.dK ys) a = some o := fun a o ea n _ => keep a o ea fun z => n (.inl (by rw [z]; exact zp))
  refine ⟨R.len, fun i s q => ?_, R.uniq, ?_, ⟨fun a o ea n t => keep a o (R.stp.keep a o ea n t) (fun z => by rw [z, n0] at ea; cases ea), R.stp.own, fun a ea => ?_, fun a xs ea => ht a xs (R.stp.tups a xs ea), fun a o u ea => hf a o u (R.stp.frzs a o u ea)⟩, R.hd0, tabs_updK R.tabs e, fun a z n => ?_, R.bz⟩
  · have so := R.slot i s q
    cases s with
    | non => trivial
    | sh d =>
      obtain ⟨v, e1, r⟩ := so
      exact ⟨v, e1, r.mv hk (fun _ _ z => z) ht hf⟩
    | own d =>
      obtain ⟨a, e1, r, n1, nz, nh⟩ := so
      exact ⟨a, e1, r.mv (fun o ea _ _ => keep a o ea fun z => nz (by rw [z]; exact zp)) hk (fun _ _ z => z) ht hf, n1, nz, nh⟩
    | bor d =>
      obtain ⟨a, e1, r, nm, az⟩ := so
      exact ⟨a, e1, r.mv (fun o ea _ _ => keep a o ea fun z => bp (by rw [← z]; exact az)) hk (fun _ _ z => z) ht hf, nm, az⟩
    | fn k => exact so
    | hnd => exact so
    | exc c => exact so
    | scr ds =>
      obtain ⟨a, zs, e1, f, l, q⟩ := so
      exact ⟨a, zs, e1, f.mv hf, l, q.mv hk (fun _ _ z => z) ht hf⟩
  · have hh := R.hnd
    cases h with
    | none => exact hh
    | some hs =>
      obtain ⟨b, e1, zs, e2, l2, q2⟩ := hh
      exact ⟨b, e1, zs, keep b _ e2 (fun z => hp (by rw [← z]; exact e1)), l2, q2.mv hk (fun _ _ z => z) ht hf⟩
  · by_cases z : a = p
    · rw [z]; exact n0
    · rw [upd_ne z] at ea; exact R.stp.there a ea
  · by_cases w : a = p
    · rw [w, upd_same] at n; cases n
    · rw [upd_ne w] at n; exact R.zdom a z n
theorem Rel.less {p : Addr} (R : Rel (G.plus p) hd ρ h σ H) (bz : ∀ a, G.Bz a → G.Zc a) : Rel G hd ρ h σ H where
  len := R.len
  slot := fun i s q => SlotOk.mv (G := G.plus p) (G' := G) rfl rfl rfl rfl (fun a o e1 _ _ => e1) (fun a z => .inl z) (fun a _ z => .inl z) rfl (fun _ _ z => z) (fun a xs e1 => e1) (fun a o u e1 => e1) (R.slot i s q)
  uniq := R.uniq
  hnd := HndOk.mv (Z := (G.plus p).Z ρ σ hd) (Z' := G.Z ρ σ hd) (fun a o e1 _ _ => e1) (fun a o e1 _ _ => e1) (fun a _ z => z.imp .inl id) (fun a xs e1 => e1) (fun a o u e1 => e1) R.hnd
  stp := R.stp
  hd0 := R.hd0
  tabs := R.tabs
  zdom := fun a z => R.zdom a (.inl z)
  bz := bz
end
theorem Stp.updNew {M M' : Addr → Prop} {H H2 : Hp} {p : Addr} {xs ys : List (Key × V)} (st : Stp M H M' H2) (n : H p = none) (e : H2 p = some (.dK xs)) : Stp M H M' (upd H2 p (.dK ys)) where
  keep := fun a o ea nm t => by rw [upd_ne (ne_of_none ea n)]; exact st.keep a o ea nm t
  own := st.own
  there := fun a ea => by
    by_cases z : a = p
    · rw [z]; exact n
    · rw [upd_ne z] at ea; exact st.there a ea
  tups := fun a xs ea => by rw [upd_ne (ne_of_none ea n)]; exact st.tups a xs ea
  frzs := fun a o u ea => by rw [upd_ne (ne_of_none ea n)]; exact st.frzs a o u ea
theorem Out.plus {α : Type} {G : Gh} {W : WX} {hd : Option Addr} {ρ : Env} {σ : L2.St} {H : Hp} {p : Addr} {r : Rs α} {k : α → Env → Hand → Hp → Prop} (bz : ∀ a, G.Bz a → G.Zc a) (o : Out G W σ hd ρ H r k) : Out (G.plus p) W σ hd ρ H r k := by
  cases r with
  | ok a ρ' h' => exact fun H' R s => o H' (R.less bz) s
  | exc c ρ' h' => exact fun H' R => o H' (R.less bz)
  | fail => exact o
theorem s_dic1 {X : Cx} {S : Sx} {W : WX} {C : Cl} {ea eb : E} {x y : Expr} {pos : Pos} (ha : PE X x (tE S W (ev C ea))) (hb : PE X y (tE S W (ev C eb))) : PE X (.Dict [some x] [y] pos) (tE S W (ev C (.dic1 ea eb))) := by
  refine PE.imp (pe_disp (pps_cons ha hb pps_nil) rfl rfl (by simp) (by simp)) fun σ H Q h p n => ?_
  obtain ⟨G, rfl, hd, ρ, h, R, oo⟩ := h
  unfold ev at oo
  have R' : Rel (G.plus p) hd ρ h σ (upd H p (.dK [])) := R.also n (same_upd n) (by rw [upd_same]; simp)
  have oo' := Out.plus (p := p) R.bz (Out.from oo (Stp.same (same_upd n) : Stp (Mo ρ σ hd) H (Mo ρ σ hd) (upd H p (.dK []))))
  have nhp : hd ≠ some p := fun e => Mo.dom R (.inl e) n
  have nbz : ¬ G.Bz p := fun z => R.zdom p (R.bz p z) n
  have n0 : G.H0 p = none := R.stp.there p n
  have nzp : ¬ G.Zc p := fun z => R.zdom p z n
  have nm0 : ¬ Mo ρ σ hd p := fun m => Mo.dom R m n
  refine seqE (G := G.plus p) R' oo' fun p1 ρ1 h1 v1 H1 eq1 R1 s1 r1 o1 => seqE (G := G.plus p) R1 o1 fun q ρ2 h2 v2 H2 eq2 R2 s2 r2 o2 => ?_
  have k1 : H1 p = some (.dK []) := s1.keep p _ upd_same nm0 (fun ps => by simp)
  have np1 : ¬ Mo ρ1 σ hd p := fun m => (s1.own p m).elim nm0 fun e => by rw [upd_same] at e; cases e
  have k2 : H2 p = some (.dK []) := s2.keep p _ k1 np1 (fun ps => by simp)
  have np2 : ¬ Mo ρ2 σ hd p := fun m => (s2.own p m).elim np1 fun e => by rw [k1] at e; cases e
  rw [eq1, bind_ok, eq2, bind_ok] at oo
  have ex : ∃ kk, keyOf p1.2 = some kk := by
    cases ek : keyOf p1.2 with
    | none => rw [ek] at oo; exact oo.elim
    | some kk => exact ⟨kk, rfl⟩
  obtain ⟨kk, ek⟩ := ex
  rw [ek] at oo
  have o3 : Out G W σ hd ρ H (.ok (true, .dict [(keyD kk, q.2)]) ρ2 h2) (fun p ρ' h' H' => ∀ v, Res G hd ρ' h' σ H' v p → Q v H') := oo
  have ekv := kV_of r1.1 ek
  refine ⟨k2, [(kk, v2)], by rw [ekv]; rfl, by simp, ?_⟩
  have em : mergeK [] [(kk, v2)] = [(kk, v2)] := rfl
  rw [em]
  have R4 : Rel (G.plus p) hd ρ2 h2 σ (upd H2 p (.dK [(kk, v2)])) := R2.updZ k2 (.inr rfl) nbz nhp n0
  have st : Stp (Mo ρ σ hd) H (Mo ρ2 σ hd) (upd H2 p (.dK [(kk, v2)])) := ((Stp.same (same_upd n)).trans (s1.trans s2)).updNew n k2
  have nz : ¬ G.Z ρ2 σ hd p := fun z => z.elim nzp np2
  have rq : RpK G.K (upd H2 p (.dK [(kk, v2)])) ((G.plus p).Z ρ2 σ hd) [(kk, v2)] [(keyD kk, q.2)] := .cons (r2.1.mv (fun a o ea nz _ => by rw [upd_ne (fun z => nz (.inl (.inr z)))]; exact ea) (fun _ _ z => z) (fun a xs ea => by rw [upd_ne (ne_of ea k2 (by intro z; cases z))]; exact ea) fun a o u ea => by rw [upd_ne (ne_of ea k2 (by intro z; cases z))]; exact ea) .nil
  exact o3 _ (R4.less R.bz) st (.ref p) ⟨.dic upd_same nz (rq.anti fun a z => z.imp .inl id), fun _ => ⟨p, rfl, .inr n0, nz, .dic upd_same rq, R4⟩⟩
end PyD

/-! PyN: the readings of statements; the plain ones. -/
namespace PyD
open PySem L2 LamX

def Hs (hd hd' : Option Addr) : Prop := hd = none ∨ hd' = hd
theorem Hs.refl (hd : Option Addr) : Hs hd hd := .inr rfl
theorem Hs.trans {a b c : Option Addr} (h1 : Hs a b) (h2 : Hs b c) : Hs a c := by
  rcases h1 with h1 | h1
  · exact .inl h1
  · subst h1; exact h2
/-- what a statement's end wants -/
def OutS (G : Gh) (W : WX) (D : Ends) (hd : Option Addr) (r : Rt) : Prop := match r with
  | .nx ρ' h' => ∀ hd' σ' H', Hs hd hd' → Rel G hd' ρ' h' σ' H' → D.nx σ' H'
  | .brk ρ' h' => ∀ hd' σ' H', Hs hd hd' → Rel G hd' ρ' h' σ' H' → D.bk σ' H'
  | .ct ρ' h' => ∀ hd' σ' H', Hs hd hd' → Rel G hd' ρ' h' σ' H' → D.ct σ' H'
  | .ret fr d h' => ∀ hd' ρ' σ' H' v, Hs hd hd' → Rel G hd' ρ' h' σ' H' → Res G hd' ρ' h' σ' H' v (fr, d) → D.rt v H'
  | .exc c ρ' h' => ∀ hd' σ' H', Hs hd hd' → Rel G hd' ρ' h' σ' H' → W (.ref (G.ca c)) none σ' H'
  | .fail => False
def tS (S : Sx) (W : WX) (m : MS) : TS := fun D σ H => ∃ G, G.S = S ∧ ∃ hd ρ h, Rel G hd ρ h σ H ∧ OutS G W D hd (m ρ h)
theorem OutS.hs {G : Gh} {W : WX} {D : Ends} {hd hd' : Option Addr} {r : Rt} (o : OutS G W D hd r) (h : Hs hd hd') : OutS G W D hd' r := by
  cases r with
  | nx ρ' h' => exact fun a b c q R => o a b c (h.trans q) R
  | brk ρ' h' => exact fun a b c q R => o a b c (h.trans q) R
  | ct ρ' h' => exact fun a b c q R => o a b c (h.trans q) R
  | ret fr d h' => exact fun a b c d e q R => o a b c d e (h.trans q) R
  | exc c ρ' h' => exact fun a b c q R => o a b c (h.trans q) R
  | fail => exact o
section
variable {G : Gh} {W : WX} {D : Ends} {hd : Option Addr} {ρ : Env} {h : Hand} {σ : L2.St} {H : Hp}
theorem thenE {m : M (Bool × PyData)} {f : Bool × PyData → Env → Hand → Rt} (R : Rel G hd ρ h σ H) (o : OutS G W D hd ((m ρ h).thenS f)) {Q : VK}
    (hq : ∀ p ρ1 h1 v H1, Rel G hd ρ1 h1 σ H1 → Stp (Mo ρ σ hd) H (Mo ρ1 σ hd) H1 → Res G hd ρ1 h1 σ H1 v p → OutS G W D hd (f p ρ1 h1) → Q v H1) : tE G.S W m σ H Q := by
  refine ⟨G, rfl, hd, ρ, h, R, ?_⟩
  cases e : m ρ h with
  | ok p ρ1 h1 => rw [e] at o; exact fun H1 R1 s1 v r => hq p ρ1 h1 v H1 R1 s1 r o
  | exc c ρ1 h1 => rw [e] at o; exact fun H1 R1 => o hd σ H1 (Hs.refl hd) R1
  | fail => rw [e] at o; exact o
theorem thenT {m : M Bool} {f : Bool → Env → Hand → Rt} (R : Rel G hd ρ h σ H) (o : OutS G W D hd ((m ρ h).thenS f)) {Q : Bool → Hp → Prop}
    (hq : ∀ p ρ1 h1 H1, Rel G hd ρ1 h1 σ H1 → Stp (Mo ρ σ hd) H (Mo ρ1 σ hd) H1 → OutS G W D hd (f p ρ1 h1) → Q p H1) : tT G.S W m σ H Q := by
  refine ⟨G, rfl, hd, ρ, h, R, ?_⟩
  cases e : m ρ h with
  | ok p ρ1 h1 => rw [e] at o; exact fun H1 R1 s1 => hq p ρ1 h1 H1 R1 s1 o
  | exc c ρ1 h1 => rw [e] at o; exact fun H1 R1 => o hd σ H1 (Hs.refl hd) R1
  | fail => rw [e] at o; exact o
theorem thenSrc {m : M (List PyData)} {f : List PyData → Env → Hand → Rt} {own : Bool} (R : Rel G hd ρ h σ H) (o : OutS G W D hd ((m ρ h).thenS f)) {Q : It → Hp → Prop}
    (hq : ∀ its ρ1 h1 J H1, Rel G hd ρ1 h1 σ H1 → Stp (Mo ρ σ hd) H (Mo ρ1 σ hd) H1 → ItOk G.K (lpZ own G ρ1 σ hd) J its (lpM own ρ1 σ hd) H1 → OutS G W D hd (f its ρ1 h1) → Q J H1) : tI G.S W own m σ H Q := by
  refine ⟨G, rfl, hd, ρ, h, R, ?_⟩
  cases e : m ρ h with
  | ok p ρ1 h1 => rw [e] at o; exact fun H1 R1 s1 J r => hq p ρ1 h1 J H1 R1 s1 r o
  | exc c ρ1 h1 => rw [e] at o; exact fun H1 R1 => o hd σ H1 (Hs.refl hd) R1
  | fail => rw [e] at o; exact o
theorem thenAs {m : M (List PyData)} {f : List PyData → Env → Hand → Rt} (R : Rel G hd ρ h σ H) (o : OutS G W D hd ((m ρ h).thenS f)) {Q : List V → Hp → Prop}
    (hq : ∀ ds ρ1 h1 vs H1, Rel G hd ρ1 h1 σ H1 → Stp (Mo ρ σ hd) H (Mo ρ1 σ hd) H1 → RpA G.K H1 (G.Z ρ1 σ hd) vs ds → OutS G W D hd (f ds ρ1 h1) → Q vs H1) : tAs G.S W m σ H Q := by
  refine ⟨G, rfl, hd, ρ, h, R, ?_⟩
  cases e : m ρ h with
  | ok p ρ1 h1 => rw [e] at o; exact fun H1 R1 s1 v r => hq p ρ1 h1 v H1 R1 s1 r o
  | exc c ρ1 h1 => rw [e] at o; exact fun H1 R1 => o hd σ H1 (Hs.refl hd) R1
  | fail => rw [e] at o; exact o
theorem thenI {m : M (Bool × PyData)} {f : Int → Env → Hand → Rt} (R : Rel G hd ρ h σ H) (o : OutS G W D hd ((asIntR (m ρ h)).thenS f)) {Q : VK}
    (hq : ∀ b ρ1 h1 H1, Rel G hd ρ1 h1 σ H1 → Stp (Mo ρ σ hd) H (Mo ρ1 σ hd) H1 → OutS G W D hd (f b ρ1 h1) → Q (.int b) H1) : tE G.S W m σ H Q := by
  refine ⟨G, rfl, hd, ρ, h, R, ?_⟩
  cases e : m ρ h with
  | ok p ρ1 h1 =>
    rw [e] at o
    obtain ⟨fr, d⟩ := p
    cases d with
    | int b => exact fun H1 R1 s1 v r => by rw [r.1.vint]; exact hq b ρ1 h1 H1 R1 s1 o
    | _ => exact o.elim
  | exc c ρ1 h1 => rw [e] at o; exact fun H1 R1 => o hd σ H1 (Hs.refl hd) R1
  | fail => rw [e] at o; exact o
/-- a value stored in a slot -/
theorem Rel.put (R : Rel G hd ρ h σ H) {v : V} {p : Bool × PyData} (r : Res G hd ρ h σ H v p) (i : Nat) : Rel G hd (ρ.set i (slotOf p)) h (σ.set i (some v)) H := by
  obtain ⟨fr, d⟩ := p
  cases fr with
  | false => exact R.storeSh r.1
  | true =>
    obtain ⟨a, rfl, n0, nz, rt, R'⟩ := r.2 rfl
    exact R.storeOwn R' n0 nz rt
end
section
variable {X : Cx} {S : Sx} {W : WX} {C : Cl} {th : Option (Hand → Cr)} {e c : E} {x y z : Expr} {r a b : Ss} {st : Stmt} {rest p q : List Stmt} {pos : Pos} {i : Nat} {n : Str}
theorem ss_nil : PSs X [] (tS S W (exs C th .nil)) := by
  refine PSs.imp pss_nil fun D σ H h => ?_
  obtain ⟨G, rfl, hd, ρ, h, R, o⟩ := h
  unfold exs at o
  exact o hd σ H (Hs.refl _) R
theorem ss_cons {s : PyD.S} (h1 : PS X st (tS S W (ex C th s))) (h2 : PSs X rest (tS S W (exs C th r))) : PSs X (st :: rest) (tS S W (exs C th (.cons s r))) := by
  refine PSs.imp (pss_cons h1 h2) fun D σ H h => ?_
  obtain ⟨G, rfl, hd, ρ, h, R, o⟩ := h
  unfold exs at o
  refine ⟨G, rfl, hd, ρ, h, R, ?_⟩
  cases e : ex C th s ρ h with
  | nx ρ1 h1 =>
    rw [e] at o
    exact fun hd' σ' H' q R' => ⟨G, rfl, hd', ρ1, h1, R', OutS.hs (show OutS G W D hd (exs C th r ρ1 h1) from o) q⟩
  | brk ρ1 h1 => rw [e] at o; exact o
  | ct ρ1 h1 => rw [e] at o; exact o
  | ret fr d h1 => rw [e] at o; exact o
  | exc c ρ1 h1 => rw [e] at o; exact o
  | fail => rw [e] at o; exact o
theorem ss_asg {pos' : Pos} (hN : X.N.Nodup) (hi : X.N[i]? = some n) (hx : Loc X.env.scope n) (hf : X.fn n = true ∨ X.env.scope.names.lookup n = some .local) (he : PE X x (tE S W (ev C e))) (hs : swapsWith x (some (.Name n pos')) pos.line X.env = pure false) :
    PS X (.Assign [.Name n pos'] x pos) (tS S W (ex C th (.asg (.nm i) e))) := by
  refine PS.imp (ps_set hN hi hx he hs hf) fun D σ H h => ?_
  obtain ⟨G, rfl, hd, ρ, h, R, o⟩ := h
  unfold ex at o
  exact thenE R o fun p ρ1 h1 v H1 R1 s1 r1 o1 => o1 hd _ H1 (Hs.refl _) (R1.put r1 i)
theorem ss_asgT {ts : Tgs} {tg : Expr} (hg : PG X tg (tG S (tgN (.tp ts)) (bindT (.tp ts)))) (he : PE X x (tE S W (ev C e))) (hs : swapsWithSole [tg] x pos.line X.env = pure false) (hw : swappedStores [tg] x X.env = pure none) (h1 : (assignEach [tg] X.env).map (·.2) = [assign tg X.env]) :
    PS X (.Assign [tg] x pos) (tS S W (ex C th (.asg (.tp ts) e))) := by
  refine PS.imp (ps_asg he hg hs hw h1) fun D σ H h => ?_
  obtain ⟨G, rfl, hd, ρ, h, R, o⟩ := h
  unfold ex at o
  refine thenE R o fun p ρ1 h1 v H1 R1 s1 r1 o1 => ?_
  unfold asgT at o1
  dsimp only at o1
  cases eb : bindT (.tp ts) p.2 ρ1 with
  | none => rw [eb] at o1; exact o1.elim
  | some ρ2 =>
    rw [eb] at o1
    exact ⟨G, rfl, hd, ρ1, h1, p.2, ρ2, R1, r1.1, eb, fun σ2 R2 _ _ => o1 hd σ2 H1 (Hs.refl _) R2⟩
theorem ss_ex (he : PE X x (tE S W (ev C e))) (hs : swapsWith x none pos.line X.env = pure false) : PS X (.Expr x pos) (tS S W (ex C th (.ex e))) := by
  refine PS.imp (ps_expr he hs) fun D σ H h => ?_
  obtain ⟨G, rfl, hd, ρ, h, R, o⟩ := h
  unfold ex at o
  exact thenE R o fun p ρ1 h1 v H1 R1 s1 r1 o1 => o1 hd σ H1 (Hs.refl _) R1
theorem ss_doc {w : Str} {j : Nat} {p1 p2 : Pos} : PS X (.Expr (.Constant (.str w) j p1) p2) (tS S W (ex C th .pass)) := by
  refine PS.imp ps_doc fun D σ H h => ?_
  obtain ⟨G, rfl, hd, ρ, h, R, o⟩ := h
  unfold ex at o
  exact o hd σ H (Hs.refl _) R
theorem ss_pass : PS X (.Pass pos) (tS S W (ex C th .pass)) := by
  refine PS.imp ps_pass fun D σ H h => ?_
  obtain ⟨G, rfl, hd, ρ, h, R, o⟩ := h
  unfold ex at o
  exact o hd σ H (Hs.refl _) R
theorem ss_brk : PS X (.Break pos) (tS S W (ex C th .brk)) := by
  refine PS.imp ps_break fun D σ H h => ?_
  obtain ⟨G, rfl, hd, ρ, h, R, o⟩ := h
  unfold ex at o
  exact o hd σ H (Hs.refl _) R
theorem ss_cnt : PS X (.Continue pos) (tS S W (ex C th .cnt)) := by
  refine PS.imp ps_continue fun D σ H h => ?_
  obtain ⟨G, rfl, hd, ρ, h, R, o⟩ := h
  unfold ex at o
  exact o hd σ H (Hs.refl _) R
theorem ss_if (hc : PT X x (tT S W (fun ρ h => asBool (ev C c ρ h)))) (ha : PSs X p (tS S W (exs C th a))) (hb : PSs X q (tS S W (exs C th b))) : PS X (.If x p q pos) (tS S W (ex C th (.ife c a b))) := by
  refine PS.imp (ps_if hc ha hb) fun D σ H h => ?_
  obtain ⟨G, rfl, hd, ρ, h, R, o⟩ := h
  unfold ex at o
  refine thenT (m := fun ρ h => asBool (ev C c ρ h)) R o fun t ρ1 h1 H1 R1 s1 o1 => ?_
  cases t with
  | true => exact ⟨G, rfl, hd, ρ1, h1, R1, o1⟩
  | false => exact ⟨G, rfl, hd, ρ1, h1, R1, o1⟩
theorem ss_retN : PS X (.Return none pos) (tS S W (ex C th .retn)) := by
  refine PS.imp ps_retN fun D σ H h => ?_
  obtain ⟨G, rfl, hd, ρ, h, R, o⟩ := h
  unfold ex at o
  exact o hd ρ σ H _ (Hs.refl _) R (.plain .non)
/-- a list of one's own goes out -/
theorem Rel.give {G : Gh} {hd : Option Addr} {ρ : Env} {h : Hand} {σ : L2.St} {H : Hp} (R : Rel G hd ρ h σ H) {d : PyData} (e : ρ[i]? = some (.own d)) :
    Rel G hd (ρ.set i .non) h σ H ∧ ∃ a, σ[i]? = some (some (.ref a)) ∧ Res G hd (ρ.set i .non) h σ H (.ref a) (true, d) := by
  obtain ⟨a, ea, r, n0, nz, nh⟩ := R.slot i _ e
  have hM : ∀ b, Mo (ρ.set i .non) σ hd b → Mo ρ σ hd b := fun b m => Mo.freeze (fun _ z => by cases z) m
  have na : ¬ Mo (ρ.set i .non) σ hd a := by
    rintro (m | ⟨j, d', e1, e2⟩)
    · exact nh m
    · by_cases hj : i = j
      · subst hj
        rw [List.getElem?_set_self (slot_lt e)] at e1
        cases e1
      · rw [List.getElem?_set_ne hj] at e1
        exact hj (R.uniq i j d d' a e e1 ea e2)
  have g : ∀ (G' : Gh), G'.S = G.S → G'.H0 = G.H0 → G'.M0 = G.M0 → G'.hd0 = G.hd0 → G'.Bz = G.Bz → (∀ b, G'.Zc b ↔ (G.Zc b ∨ (b = a ∧ G'.Zc a))) → Rel G' hd (ρ.set i .non) h σ H := fun G' e1 e2 e3 e4 eB e5 => by
    have zz : ∀ b, (G'.Zc b ∨ Mo (ρ.set i .non) σ hd b) → (G.Zc b ∨ Mo ρ σ hd b) := fun b z => by
      rcases z with z | z
      · rcases (e5 b).mp z with z | ⟨z, _⟩
        · exact .inl z
        · rw [z]; exact .inr (.inr ⟨i, d, e, ea⟩)
      · exact .inr (hM b z)
    have eK : G'.K = G.K := congrArg Sx.K e1
    refine ⟨by rw [List.length_set]; exact R.len, fun j s q => ?_, fun j k d1 d2 b q1 q2 q3 q4 => ?_, ?_, ?_, fun b z => R.hd0 b (by rw [← e4]; exact z), by rw [show G'.T = G.T from congrArg Sx.T e1]; exact R.tabs, fun b z => ?_, fun b z => (e5 b).mpr (.inl (R.bz b (by rw [← eB]; exact z)))⟩
    · by_cases hj : i = j
      · subst hj
        rw [List.getElem?_set_self (slot_lt e)] at q
        cases q
        trivial
      · rw [List.getElem?_set_ne hj] at q
        have so := R.slot j s q
        cases s with
        | non => trivial
        | sh d' =>
          obtain ⟨v, e6, q'⟩ := so
          exact ⟨v, e6, by rw [eK]; exact q'.anti zz⟩
        | own d' =>
          obtain ⟨b, e6, q', m0, mz, mh⟩ := so
          have nb : b ≠ a := fun w => hj (R.uniq i j d d' a e q ea (by rw [← w]; exact e6))
          refine ⟨b, e6, by rw [eK]; exact q'.mv (fun _ e _ _ => e) (fun _ _ e _ _ => e) (fun b _ z => zz b z) (fun _ _ e => e) (fun _ _ _ e => e), by rw [e2, e3]; exact m0, fun z => ?_, mh⟩
          rcases (e5 b).mp z with z | ⟨z, _⟩
          · exact mz z
          · exact nb z
        | bor d' =>
          obtain ⟨b, e6, q', nm, az⟩ := so
          exact ⟨b, e6, by rw [eK]; exact q'.mv (fun _ e _ _ => e) (fun _ _ e _ _ => e) (fun b _ z => zz b z) (fun _ _ e => e) (fun _ _ _ e => e), fun z => nm (hM b z), by rw [eB]; exact az⟩
        | fn k => exact (by rw [show G'.fa = G.fa from congrArg Sx.fa e1, e1]; exact so : σ[j]? = some (some (.ref (G'.fa k))) ∧ k < G'.S.nf)
        | hnd => exact so
        | exc c => exact (by rw [e1]; exact so : ∀ a c0, G'.S.ea = some (a, c0) → σ[j]? = some (some (.ref a)) ∧ c = c0)
        | scr ds =>
          obtain ⟨b, ys, e6, f, l, q'⟩ := so
          exact ⟨b, ys, e6, by rw [eK]; exact f, l, by rw [eK]; exact q'.anti zz⟩
    · have f : ∀ {k : Nat} {d' : PyData}, (ρ.set i .non)[k]? = some (.own d') → ρ[k]? = some (.own d') := fun {k d'} q => by
        by_cases hk : i = k
        · subst hk
          rw [List.getElem?_set_self (slot_lt e)] at q
          cases q
        · rwa [List.getElem?_set_ne hk] at q
      exact R.uniq j k d1 d2 b (f q1) (f q2) q3 q4
    · rw [eK]
      exact R.hnd.mv (fun a o e1 _ _ => e1) (fun a o e1 _ _ => e1) (fun b _ z => zz b z) (fun a xs e1 => e1) fun a o u e1 => e1
    · rw [e2, e3]
      exact R.stp.trans (Stp.lessM hM)
    · rcases (e5 b).mp z with z | ⟨z, _⟩
      · exact R.zdom b z
      · rw [z]; exact r.dom
  have R1 := g G rfl rfl rfl rfl rfl fun b => ⟨.inl, fun z => z.elim id fun ⟨_, w⟩ => absurd w nz⟩
  have R2 := g (G.plus a) rfl rfl rfl rfl rfl fun b => ⟨fun z => z.imp id fun w => ⟨w, .inr rfl⟩, fun z => z.imp id And.left⟩
  have r1 : Rp G.K H (G.Z (ρ.set i .non) σ hd) (.ref a) d := by
    have r' := r.mv (H' := H) (Z' := G.Z (ρ.set i .non) σ hd) (fun o e1 _ _ => e1) (fun _ _ e1 _ _ => e1) (fun b _ z => z.imp id (hM b)) (fun _ _ e1 => e1) fun _ _ _ e1 => e1
    exact r'.rp (fun z => z.elim nz na)
  refine ⟨R1, a, ea, r1, fun _ => ⟨a, rfl, n0, fun z => z.elim nz na, ?_, R2⟩⟩
  refine r.mv (fun _ e _ _ => e) (fun _ _ e _ _ => e) (fun b _ z => ?_) (fun _ _ e => e) fun _ _ _ e => e
  rcases z with (z | z) | z
  · exact .inl z
  · rw [z]; exact .inr (.inr ⟨i, d, e, ea⟩)
  · exact .inr (hM b z)
theorem ss_retV (hv : PE X x (tVar i)) : PS X (.Return (some x) pos) (tS S W (ex C th (.ret (.var i)))) := by
  refine PS.imp (ps_ret hv) fun D σ H h => ?_
  obtain ⟨G, rfl, hd, ρ, h, R, o⟩ := h
  unfold ex at o
  dsimp only at o
  cases q : ρ[i]? with
  | none => rw [q] at o; exact o.elim
  | some s =>
    rw [q] at o
    cases s with
    | sh d =>
      obtain ⟨v, e1, r⟩ := R.slot i _ q
      exact ⟨v, e1, o hd ρ σ H v (Hs.refl _) R (.plain r)⟩
    | own d =>
      obtain ⟨R', a, ea, r⟩ := R.give q
      exact ⟨_, ea, o hd _ σ H _ (Hs.refl _) R' r⟩
    | _ => exact o.elim
theorem ex_ret (hn : ∀ i, e ≠ .var i) : ex C th (.ret e) = fun ρ h => (ev C e ρ h).thenS fun p _ h => .ret p.1 p.2 h := by
  cases e <;> first | (unfold ex; rfl) | exact absurd rfl (hn _)
theorem ss_ret (hn : ∀ i, e ≠ .var i) (he : PE X x (tE S W (ev C e))) : PS X (.Return (some x) pos) (tS S W (ex C th (.ret e))) := by
  refine PS.imp (ps_ret he) fun D σ H h => ?_
  obtain ⟨G, rfl, hd, ρ, h, R, o⟩ := h
  rw [ex_ret hn] at o
  exact thenE R o fun p ρ1 h1 v H1 R1 s1 r1 o1 => o1 hd ρ1 σ H1 v (Hs.refl _) R1 r1
end
end PyD

/-! PyO: loops, raise. -/
namespace PyD
open PySem L2 LamX

/-- the same ghosts, begun anew -/
def Gh.anew (G : Gh) (H : Hp) (M : Addr → Prop) : Gh := { G with H0 := H, M0 := M }
section
variable {G G2 : Gh} {W : WX} {D : Ends} {hd hd' : Option Addr} {ρ ρ' : Env} {h h' : Hand} {σ σ' : L2.St} {H H' : Hp}
theorem Rel.anew (R : Rel G hd ρ h σ H) : Rel (G.anew H (Mo ρ σ hd)) hd ρ h σ H where
  len := R.len
  slot := fun i s e => by
    have so := R.slot i s e
    cases s with
    | own d =>
      obtain ⟨a, ea, r, _, nz, nh⟩ := so
      exact ⟨a, ea, r, .inl (.inr ⟨i, d, e, ea⟩), nz, nh⟩
    | bor d => exact so
    | non => trivial
    | sh d => exact so
    | fn k => exact so
    | hnd => exact so
    | exc c => exact so
    | scr ds => exact so
  uniq := R.uniq
  hnd := R.hnd
  stp := Stp.refl _ _
  hd0 := R.hd0
  tabs := R.tabs
  zdom := R.zdom
  bz := R.bz
/-- what is new to the one is new to the other -/
theorem Rel.newer (R : Rel G hd ρ h σ H) (q : Hs hd hd') {a : Addr} (nh : hd' ≠ some a) (n : Mo ρ σ hd a ∨ H a = none) : G.M0 a ∨ G.H0 a = none := by
  rcases n with (n | ⟨i, d, e, ea⟩) | n
  · rcases q with q | q
    · rw [q] at n; cases n
    · exact absurd (q.trans n) nh
  · obtain ⟨b, eb, _, m, _⟩ := R.slot i _ e
    rw [ea] at eb; cases eb
    exact m
  · exact .inr (R.stp.there a n)
theorem Rel.back (R : Rel G hd ρ h σ H) (q : Hs hd hd') (e0 : G2.H0 = G.H0) (eM : G2.M0 = G.M0) (R' : Rel (G2.anew H (Mo ρ σ hd)) hd' ρ' h' σ' H') : Rel G2 hd' ρ' h' σ' H' where
  len := R'.len
  slot := fun i s e => by
    have so := R'.slot i s e
    cases s with
    | own d =>
      obtain ⟨a, ea, r, m, nz, nh⟩ := so
      exact ⟨a, ea, r, by rw [e0, eM]; exact R.newer q nh m, nz, nh⟩
    | bor d => exact so
    | non => trivial
    | sh d => exact so
    | fn k => exact so
    | hnd => exact so
    | exc c => exact so
    | scr ds => exact so
  uniq := R'.uniq
  hnd := R'.hnd
  stp := by rw [e0, eM]; exact R.stp.trans R'.stp
  hd0 := R'.hd0
  tabs := R'.tabs
  zdom := R'.zdom
  bz := R'.bz
theorem Res.back (R : Rel G hd ρ h σ H) (q : Hs hd hd') {v : V} {p : Bool × PyData} (r : Res (G.anew H (Mo ρ σ hd)) hd' ρ' h' σ' H' v p) : Res G hd' ρ' h' σ' H' v p := by
  refine ⟨r.1, fun e => ?_⟩
  obtain ⟨a, ea, m, nz, rt, R'⟩ := r.2 e
  exact ⟨a, ea, R.newer q (fun z => nz (.inr (.inl z))) m, nz, rt, R.back (G2 := G.plus a) q rfl rfl R'⟩
theorem Rel.frzE (R : Rel G hd ρ h σ H) (e : E) : Rel G hd (frzE e ρ) h σ H := by
  cases e with
  | var i =>
    unfold PyD.frzE
    dsimp only
    cases q : ρ[i]? with
    | none => exact R
    | some s =>
      cases s with
      | own d => exact (R.freeze q).1
      | _ => exact R
  | _ => exact R
theorem Rel.frzS (R : Rel G hd ρ h σ H) (s : Src) : Rel G hd (frzS s ρ) h σ H := by
  cases s with
  | val e => exact R.frzE e
  | zip a b => exact (R.frzE b).frzE a
  | enm a => exact R.frzE a
  | enz a b => exact (R.frzE b).frzE a
  | _ => exact R
end
section
variable {X : Cx} {S : Sx} {W : WX} {C : Cl} {th : Option (Hand → Cr)} {c : E} {x tg iter : Expr} {b : Ss} {body : List Stmt} {pos : Pos} {t : Tg} {src : Src}
/-- the ends of a loop's turn, told anew -/
theorem OutS.inner {G : Gh} {D D' : Ends} {hd hd' : Option Addr} {ρ : Env} {h : Hand} {σ : L2.St} {H : Hp} (R : Rel G hd ρ h σ H) (q : Hs hd hd') {r : Rt} (go : Env → Hand → Rt) (N : L2.St → Hp → Prop) (eN : D'.nx = N) (eC : D'.ct = N) (eB : D'.bk = D.nx) (eR : D'.rt = D.rt)
    (hN : ∀ hd2 ρ2 h2 σ2 H2, Hs hd hd2 → Rel (G.anew H (Mo ρ σ hd)) hd2 ρ2 h2 σ2 H2 → OutS G W D hd (go ρ2 h2) → N σ2 H2)
    (o : OutS G W D hd (match r with | .nx ρ2 h2 => go ρ2 h2 | .ct ρ2 h2 => go ρ2 h2 | .brk ρ2 h2 => .nx ρ2 h2 | r => r)) : OutS (G.anew H (Mo ρ σ hd)) W D' hd' r := by
  cases r with
  | nx ρ2 h2 => exact fun hd2 σ2 H2 q2 R2 => by rw [eN]; exact hN hd2 ρ2 h2 σ2 H2 (q.trans q2) R2 o
  | ct ρ2 h2 => exact fun hd2 σ2 H2 q2 R2 => by rw [eC]; exact hN hd2 ρ2 h2 σ2 H2 (q.trans q2) R2 o
  | brk ρ2 h2 => exact fun hd2 σ2 H2 q2 R2 => by rw [eB]; exact o hd2 σ2 H2 (q.trans q2) (R.back (G2 := G) (q.trans q2) rfl rfl R2)
  | ret fr d h2 => exact fun hd2 ρ2 σ2 H2 v q2 R2 r2 => by rw [eR]; exact o hd2 ρ2 σ2 H2 v (q.trans q2) (R.back (G2 := G) (q.trans q2) rfl rfl R2) (Res.back R (q.trans q2) r2)
  | exc c2 ρ2 h2 => exact fun hd2 σ2 H2 q2 R2 => o hd2 σ2 H2 (q.trans q2) (R.back (G2 := G) (q.trans q2) rfl rfl R2)
  | fail => exact o
theorem ss_for (hp : PassesOwn (model X.prog X.w) X.A X.env X.xe) (hc : X.calm = true) (hi : PI X tg iter (tI S W false (evSrc C false src))) (hg : PG X tg (tG S (tgN t) (bindT t))) (hb : PSs X body (tS S W (exs C th b))) (hs : ∀ x, foldedSetIterable iter X.env x = pure x) :
    PS X (.For tg iter body [] pos) (tS S W (ex C th (.for_ t src b))) := by
  refine PS.imp (ps_for hp hc hi hg hb hs) fun D σ H h => ?_
  obtain ⟨G, rfl, hd, ρ, h, R, o⟩ := h
  unfold ex at o
  refine thenSrc (m := evSrc C false src) (R.frzS src) o fun its ρ1 h1 J H1 R1 s1 it o1 => ?_
  refine ⟨fun i m σ' H' => m = its.length - i ∧ i ≤ its.length ∧ ∃ hd' ρ' h', Hs hd hd' ∧ Rel (G.anew H1 (Mo ρ1 σ hd)) hd' ρ' h' σ' H' ∧ OutS G W D hd (forL t (exs C th b) (its.drop i) ρ' h'), ⟨its.length, by simp, Nat.zero_le _, hd, ρ1, h1, Hs.refl hd, R1.anew, o1⟩, ?_⟩
  rintro i m σ' H' ⟨rfl, hi', hd', ρ', h', q, R', o'⟩
  have st : Stp (lpM false ρ1 σ hd) H1 (Mo ρ' σ' hd') H' := R'.stp
  by_cases hlt : i < its.length
  · have ei : its[i]? = some its[i] := List.getElem?_eq_getElem hlt
    obtain ⟨go, yl⟩ := it.go _ _ st i _ ei
    rw [drop_get ei] at o'
    unfold forL at o'
    refine .inr ⟨go, fun σ2 H2 => i + 1 ≤ its.length ∧ ∃ hd' ρ' h', Hs hd hd' ∧ Rel (G.anew H1 (Mo ρ1 σ hd)) hd' ρ' h' σ2 H2 ∧ OutS G W D hd (forL t (exs C th b) (its.drop (i + 1)) ρ' h'), fun σ2 H2 ⟨l, p⟩ => ⟨its.length - (i + 1), by omega, rfl, l, p⟩, fun x Hy y => ?_⟩
    obtain ⟨sm, rx⟩ := yl x Hy y
    cases eb : bindT t its[i] ρ' with
    | none => rw [eb] at o'; exact o'.elim
    | some ρ2 =>
      rw [eb] at o'
      refine ⟨G.anew H1 (Mo ρ1 σ hd), rfl, hd', ρ', h', its[i], ρ2, R'.same sm, rx, eb, fun σ2 R2 _ _ => ⟨G.anew H1 (Mo ρ1 σ hd), rfl, hd', ρ2, h', R2, ?_⟩⟩
      exact OutS.inner R1 q (forL t (exs C th b) (its.drop (i + 1))) _ rfl rfl rfl rfl (fun hd2 ρ3 h3 σ3 H3 q3 R3 o3 => ⟨hlt, hd2, ρ3, h3, q3, R3, o3⟩) o'
  · have e : i = its.length := by omega
    subst e
    rw [List.drop_length] at o'
    unfold forL at o'
    exact .inl ⟨it.stop _ _ st, o' hd' σ' H' q (R1.back (G2 := G) q rfl rfl R')⟩
theorem ss_whl (hp : PassesOwn (model X.prog X.w) X.A X.env X.xe) (hc : PT X x (tT S W (fun ρ h => asBool (ev C c ρ h)))) (hb : PSs X body (tS S W (exs C th b))) : PS X (.While x body [] pos) (tS S W (ex C th (.whl c b))) := by
  refine PS.imp (ps_while hp hc hb) fun D σ H h => ?_
  obtain ⟨G, rfl, hd, ρ, h, R, o⟩ := h
  unfold ex at o
  refine ⟨fun n σ' H' => ∃ hd' ρ' h', Rel G hd' ρ' h' σ' H' ∧ OutS G W D hd' (whlL (fun ρ h => asBool (ev C c ρ h)) (exs C th b) n ρ' h'), ⟨fuel, hd, ρ, h, R, o⟩, ?_⟩
  rintro n σ' H' ⟨hd', ρ', h', R', o'⟩
  cases n with
  | zero => exact o'.elim
  | succ n =>
    unfold whlL at o'
    refine thenT (m := fun ρ h => asBool (ev C c ρ h)) R' o' fun t ρ1 h1 H1 R1 s1 o1 => ?_
    cases t with
    | false => exact o1 hd' σ' H1 (Hs.refl _) R1
    | true =>
      simp only [if_true] at o1 ⊢
      refine ⟨fun σ2 H2 => ∃ hd' ρ' h', Rel G hd' ρ' h' σ2 H2 ∧ OutS G W D hd' (whlL (fun ρ h => asBool (ev C c ρ h)) (exs C th b) n ρ' h'), fun σ2 H2 w => ⟨n, Nat.lt_succ_self n, w⟩, G, rfl, hd', ρ1, h1, R1, ?_⟩
      cases e : exs C th b ρ1 h1 with
      | nx ρ2 h2 => rw [e] at o1; exact fun hd2 σ2 H2 q R2 => ⟨hd2, ρ2, h2, R2, OutS.hs o1 q⟩
      | ct ρ2 h2 => rw [e] at o1; exact fun hd2 σ2 H2 q R2 => ⟨hd2, ρ2, h2, R2, OutS.hs o1 q⟩
      | brk ρ2 h2 => rw [e] at o1; exact o1
      | ret fr d h2 => rw [e] at o1; exact o1
      | exc c2 ρ2 h2 => rw [e] at o1; exact o1
      | fail => rw [e] at o1; exact o1
/-! ### raise -/
theorem pmk_own0 {Ca : Addr} {bmB : List Value} {B newId initId : String} {n : Str} {p pos : Pos} (F : ExcBaseFacts B newId initId bmB) (q : PySem.W.excIn X.K Ca bmB newId = true) (gC : X.mg n = some (.ref Ca)) (kC : PySem.W.keepIn X.K (.ref Ca) = true) (r : Raises X (.ref Ca)) (hg : Gl X n)
    (hdb : (n == ("__debug__" : Str)) = false) : PMk X (.Call (.Name n p) [] [] pos) (fun _ H Q => Q (.ref Ca) none H) := by
  intro pins s σ H Q I h
  refine wpAny_Call_Name_kw (ld_glob I hg gC ?_ hdb)
  refine PySem.W.callWith_K0 I.kIn kC ?_
  show wpAny _ _ (call (.ref Ca) []) _ _ _
  obtain ⟨bm, N, nm, qn, bs, hdct, sn, sub, ab, col, dd, k0, k1, k2, k3, k5, mN, hC, hN, hni, T⟩ := exc_obj I.kIn q
  refine wpAny_call_exc_subT F T hC hN hni (fun h' e hm => ?_) (Nat.zero_le _)
  exact mk_of I hm r h (I.hok.gone hm.new)
theorem ss_rse {k : Nat} (hc : X.calm = true) (tk : Takes X W) (he : PMk X x (fun _ H Q => Q (.ref (S.ca k)) none H)) : PS X (.Raise (some x) none pos) (tS S W (ex C th (.rse k))) := by
  refine PS.imp (ps_raise hc tk he) fun D σ H h => ?_
  obtain ⟨G, rfl, hd, ρ, h, R, o⟩ := h
  unfold ex at o
  exact o hd σ H (Hs.refl _) R
end
end PyD

/-! PyP: what changes lists; several names at once. -/
namespace PyD
open PySem L2 LamX

section
variable {G : Gh} {W : WX} {D : Ends} {hd : Option Addr} {ρ : Env} {h : Hand} {σ : L2.St} {H : Hp} {i : Nat}
/-- the list in a slot that may be changed -/
theorem Rel.getM (R : Rel G hd ρ h σ H) {xs : List PyData} (e : getM ρ h i = some xs) : ∃ a vs, σ[i]? = some (some (.ref a)) ∧ H a = some (.lst vs) ∧ vs.length ≤ sizeLine ∧ RpA G.K H (G.Z ρ σ hd) vs xs := by
  unfold PyD.getM at e
  cases q : ρ[i]? with
  | none => rw [q] at e; cases e
  | some s =>
    rw [q] at e
    cases s with
    | own d =>
      cases d with
      | list ds =>
        cases e
        obtain ⟨a, ea, r, _⟩ := R.slot i _ q
        cases r with
        | lst h1 l q1 => exact ⟨a, _, ea, h1, l, q1⟩
      | _ => cases e
    | hnd =>
      obtain ⟨a, ea, ei⟩ := R.slot i _ q
      dsimp only at e
      subst e
      obtain ⟨b, eb, ys, h1, l, q1⟩ := R.hnd
      rw [ea] at eb; cases eb
      exact ⟨a, ys, ei, h1, l, q1⟩
    | _ => cases e
theorem ixN_len {m n : Nat} (e : m = n) (k : Int) : L2.ixN m k = L2.ixN n k := by rw [e]
/-- x[k] = v -/
theorem Rel.setSl (R : Rel G hd ρ h σ H) {k : Int} {d : PyData} {v : V} (r : Rp G.K H (G.Z ρ σ hd) v d) {ρ' : Env} {h' : Hand} (e : setSl i (.int k) d ρ h = some (ρ', h')) :
    ∃ a xs j, σ[i]? = some (some (.ref a)) ∧ H a = some (.lst xs) ∧ L2.ixN xs.length k = some j ∧ Rel G hd ρ' h' σ (L2.upd H a (.lst (xs.set j v))) := by
  unfold PyD.setSl at e
  cases q : ρ[i]? with
  | none => rw [q] at e; cases e
  | some s =>
    rw [q] at e
    cases s with
    | own d0 =>
      cases d0 with
      | list ds =>
        dsimp only at e
        obtain ⟨ys, e1, e2⟩ := Option.map_eq_some_iff.mp e
        cases e2
        obtain ⟨a, ea, r0, _⟩ := R.slot i _ q
        cases r0 with
        | lst h1 l q1 =>
          rename_i xs
          unfold setAt at e1
          obtain ⟨j, e3, e4⟩ := Option.map_eq_some_iff.mp e1
          subst e4
          refine ⟨a, xs, j, ea, h1, by rw [ixN_len q1.len]; exact e3, (R.updOwn q ea h1 (by rw [List.length_set]; exact l) (q1.set j r)).1⟩
      | _ => cases e
    | hnd =>
      dsimp only at e
      cases h with
      | none => cases e
      | some hs =>
        dsimp only at e
        obtain ⟨ys, e1, e2⟩ := Option.map_eq_some_iff.mp e
        cases e2
        obtain ⟨a, ea, ei⟩ := R.slot i _ q
        obtain ⟨b, eb, xs, h1, l, q1⟩ := R.hnd
        rw [ea] at eb; cases eb
        unfold setAt at e1
        obtain ⟨j, e3, e4⟩ := Option.map_eq_some_iff.mp e1
        subst e4
        exact ⟨a, xs, j, ei, h1, by rw [ixN_len q1.len]; exact e3, (R.updHnd ea h1 (by rw [List.length_set]; exact l) (q1.set j r)).1⟩
    | _ => cases e
/-- x[k] = v, and what stays -/
theorem Rel.setSlS (R : Rel G hd ρ h σ H) {k : Int} {d : PyData} {v : V} (r : Rp G.K H (G.Z ρ σ hd) v d) {ρ' : Env} {h' : Hand} (e : PyD.setSl i (.int k) d ρ h = some (ρ', h')) :
    ∃ a xs j, σ[i]? = some (some (.ref a)) ∧ H a = some (.lst xs) ∧ L2.ixN xs.length k = some j ∧ Rel G hd ρ' h' σ (L2.upd H a (.lst (xs.set j v))) ∧ Stp (Mo ρ σ hd) H (Mo ρ' σ hd) (L2.upd H a (.lst (xs.set j v))) := by
  unfold PyD.setSl at e
  cases q : ρ[i]? with
  | none => rw [q] at e; cases e
  | some s =>
    rw [q] at e
    cases s with
    | own d0 =>
      cases d0 with
      | list ds =>
        dsimp only at e
        obtain ⟨ys, e1, e2⟩ := Option.map_eq_some_iff.mp e
        cases e2
        obtain ⟨a, ea, r0, _⟩ := R.slot i _ q
        cases r0 with
        | lst h1 l q1 =>
          rename_i xs
          unfold setAt at e1
          obtain ⟨j, e3, e4⟩ := Option.map_eq_some_iff.mp e1
          subst e4
          refine ⟨a, xs, j, ea, h1, by rw [ixN_len q1.len]; exact e3, (R.updOwn q ea h1 (by rw [List.length_set]; exact l) (q1.set j r))⟩
      | _ => cases e
    | hnd =>
      dsimp only at e
      cases h with
      | none => cases e
      | some hs =>
        dsimp only at e
        obtain ⟨ys, e1, e2⟩ := Option.map_eq_some_iff.mp e
        cases e2
        obtain ⟨a, ea, ei⟩ := R.slot i _ q
        obtain ⟨b, eb, xs, h1, l, q1⟩ := R.hnd
        rw [ea] at eb; cases eb
        unfold setAt at e1
        obtain ⟨j, e3, e4⟩ := Option.map_eq_some_iff.mp e1
        subst e4
        exact ⟨a, xs, j, ei, h1, by rw [ixN_len q1.len]; exact e3, (R.updHnd ea h1 (by rw [List.length_set]; exact l) (q1.set j r))⟩
    | _ => cases e
/-- the new list is the hand -/
theorem Rel.storeHand {a : Addr} {ds : List PyData} (R0 : Rel G none ρ h σ H) (R : Rel (G.plus a) none ρ h σ H) (n0 : G.M0 a ∨ G.H0 a = none) (nz : ¬ G.Z ρ σ none a) (r : Root G.K H ((G.plus a).Z ρ σ none) a (.list ds)) : Rel G (some a) (ρ.set i .hnd) (some ds) (σ.set i (some (.ref a))) H := by
  have hM : ∀ b, Mo (ρ.set i .hnd) (σ.set i (some (.ref a))) (some a) b → Mo ρ σ none b ∨ b = a := fun b m => by
    rcases m with m | ⟨j, d', e1, e2⟩
    · exact .inr (Option.some.inj m).symm
    · by_cases hj : i = j
      · subst hj
        by_cases hl : i < ρ.length
        · rw [List.getElem?_set_self hl] at e1; cases e1
        · rw [List.getElem?_eq_none (by rw [List.length_set]; omega)] at e1; cases e1
      · rw [List.getElem?_set_ne hj] at e1 e2
        exact .inl (.inr ⟨j, d', e1, e2⟩)
  have hz : ∀ b, G.Z (ρ.set i .hnd) (σ.set i (some (.ref a))) (some a) b → (G.plus a).Z ρ σ none b := fun b z => by
    rcases z with z | z
    · exact .inl (.inl z)
    · exact (hM b z).elim .inr fun e => .inl (.inr e)
  refine ⟨by rw [List.length_set, List.length_set]; exact R.len, fun j t ej => ?_, fun j k d1 d2 b e1 e2 e3 e4 => ?_, ?_, ?_, fun b e => absurd (R0.hd0 b e) (by simp), R.tabs, fun b z => R.zdom b (.inl z), R0.bz⟩
  · by_cases hj : i = j
    · subst hj
      by_cases hl : i < ρ.length
      · rw [List.getElem?_set_self hl] at ej
        cases ej
        rw [List.getElem?_set_self (by rw [R.len]; exact hl)]
        exact ⟨a, rfl, rfl⟩
      · rw [List.getElem?_eq_none (by rw [List.length_set]; omega)] at ej; cases ej
    · rw [List.getElem?_set_ne hj] at ej
      rw [List.getElem?_set_ne hj]
      have so := R.slot j t ej
      cases t with
      | non => trivial
      | sh d' =>
        obtain ⟨v, e1, q⟩ := so
        exact ⟨v, e1, q.anti hz⟩
      | own d' =>
        obtain ⟨b, e1, q, m0, mz, mh⟩ := so
        refine ⟨b, e1, q.mv (fun _ e _ _ => e) (fun _ _ e _ _ => e) (fun b _ z => hz b z) (fun _ _ e => e) (fun _ _ _ e => e), m0, fun z => mz (.inl z), fun z => ?_⟩
        have ab : a = b := Option.some.inj z
        exact nz (.inr (.inr ⟨j, d', ej, by rw [ab]; exact e1⟩))
      | bor d' =>
        obtain ⟨b, e1, q, nm, _⟩ := so
        obtain ⟨b', e1', _, _, az⟩ := R0.slot j _ ej
        rw [e1] at e1'; cases e1'
        have nb : b ≠ a := fun z => nz (.inl (by rw [← z]; exact R0.bz _ az))
        exact ⟨b, e1, q.mv (fun _ e _ _ => e) (fun _ _ e _ _ => e) (fun b _ z => hz b z) (fun _ _ e => e) (fun _ _ _ e => e), fun z => (hM b z).elim nm nb, az⟩
      | fn k => exact so
      | hnd => obtain ⟨b, eb, _⟩ := so; cases eb
      | exc c => exact so
      | scr ds =>
        obtain ⟨b, ys, e1, f, l, q⟩ := so
        exact ⟨b, ys, e1, f, l, q.anti hz⟩
  · have f : ∀ {k : Nat} {d : PyData}, (ρ.set i .hnd)[k]? = some (.own d) → ρ[k]? = some (.own d) ∧ i ≠ k := fun {k d} q => by
      by_cases hk : i = k
      · subst hk
        by_cases hl : i < ρ.length
        · rw [List.getElem?_set_self hl] at q; cases q
        · rw [List.getElem?_eq_none (by rw [List.length_set]; omega)] at q; cases q
      · rw [List.getElem?_set_ne hk] at q; exact ⟨q, hk⟩
    obtain ⟨f1, g1⟩ := f e1
    obtain ⟨f2, g2⟩ := f e2
    rw [List.getElem?_set_ne g1] at e3
    rw [List.getElem?_set_ne g2] at e4
    exact R.uniq j k d1 d2 b f1 f2 e3 e4
  · cases r with
    | lst h1 l q => exact ⟨a, rfl, _, h1, l, q.anti hz⟩
  · exact ⟨R0.stp.keep, fun b m => (hM b m).elim (R0.stp.own b) fun e => by rw [e]; exact n0, R0.stp.there, R0.stp.tups, R0.stp.frzs⟩
theorem seqIx_len {m n : Nat} (e : m = n) (k : Int) : seqIndex? k m = seqIndex? k n := by rw [e]
end
theorem thenO {α : Type} {G : Gh} {W : WX} {D : Ends} {hd : Option Addr} {ρ : Env} {h : Hand} {o : Option α} {f : α → Env → Hand → Rt} (x : OutS G W D hd ((PyD.ofO o ρ h).thenS f)) : ∃ a, o = some a ∧ OutS G W D hd (f a ρ h) := by
  cases o with
  | none => exact x.elim
  | some a => exact ⟨a, rfl, x⟩
section
variable {X : Cx} {S : Sx} {W : WX} {C : Cl} {th : Option (Hand → Cr)} {e k v : E} {x y z : Expr} {pos apos cpos p1 tpos : Pos} {i : Nat} {n : Str} {o : Bop}
theorem ss_ext (hv : PE X x (tVar i)) (he : PE X y (tE S W (ev C e))) (hs : notStar y = true) (hK : X.K = S.K) (hb : attributeBase x "extend" X.env (eval x X.env) = eval x X.env) (hl : (apos.endLine == cpos.line) = true) :
    PS X (.Expr (.Call (.Attribute x "extend" apos) [y] [] cpos) pos) (tS S W (ex C th (.ext i e))) := by
  have few : ((backTo cpos (starEach [y] X.env)).all (fun x => !x.1) && (backToKw cpos (keywordEach [] X.env)).all (fun x => x.1.isSome) && decide ([y].length + ([] : List Keyword).length + (if ([] : List Keyword).isEmpty then 0 else 1) < 30)) = true := by
    rw [star_cons hs]; rfl
  refine PS.imp (ps_expr (pe_bm PySem.F.plainAttrs_list PySem.F.slot_list_extend PySem.F.type_list_extend mt_extend hv (pa_cons he pa_nil (star_cons hs)) hb few hl (star_cons hs) rfl) rfl) fun D σ H h => ?_
  obtain ⟨G, rfl, hd, ρ, h, R, oo⟩ := h
  unfold ex at oo
  cases q : ρ[i]? with
  | none => rw [q] at oo; exact oo.elim
  | some s =>
    rw [q] at oo
    cases s with
    | own d =>
      cases d with
      | list ds =>
        try dsimp only at oo
        obtain ⟨a, ea, r0, _⟩ := R.slot i _ q
        cases r0 with
        | lst h1 l1 q1 =>
          refine ⟨_, ea, .inl ⟨rfl, _, .inl (.inl h1)⟩, thenE R oo fun p ρ1 h2 v H1 R1 s1 r1 o1 => ?_⟩
          try dsimp only at o1
          cases q2 : ρ1[i]? with
          | none => rw [q2] at o1; exact o1.elim
          | some s =>
            rw [q2] at o1
            cases s with
            | own d =>
              cases d with
              | list es =>
                try dsimp only at o1
                obtain ⟨b, eb, r2, _⟩ := R1.slot i _ q2
                rw [ea] at eb; cases eb
                cases r2 with
                | lst h3 l3 q3 =>
                  obtain ⟨fr, pd⟩ := p
                  cases pd with
                  | list ys =>
                    dsimp only at o1
                    by_cases hl : es.length + ys.length ≤ big
                    · rw [if_pos hl] at o1
                      have hz := sz
                      have hlen := q3.len
                      have r1' := r1.1
                      cases r1' with
                      | lst h5 nz l5 q5 =>
                        have hlen5 := q5.len
                        refine ⟨a, _, _, _, rfl, rfl, h3, h5, by omega, o1 hd σ _ (Hs.refl _) (R1.updOwn q2 ea h3 ?_ (q3.app q5)).1⟩
                        rw [List.length_append]
                        omega
                    · rw [if_neg hl] at o1; exact o1.elim
                  | _ => exact o1.elim
              | _ => exact o1.elim
            | _ => exact o1.elim
      | _ => exact oo.elim
    | _ => exact oo.elim
theorem ss_asgd (hv : PE X x (tVar i)) (hk : PE X y (tE S W (ev C k))) (he : PE X z (tE S W (ev C v))) (hu : X.A.units + 70 < cLine) (hs : swapsWith z (some (.Subscript x y tpos)) pos.line X.env = pure false) : PS X (.Assign [.Subscript x y tpos] z pos) (tS S W (ex C th (.asgd i k v))) := by
  refine PS.imp (ps_dput (by omega) hv hk he hs) fun D σ H h => ?_
  obtain ⟨G, rfl, hd, ρ, h, R, oo⟩ := h
  unfold ex at oo
  refine thenE R oo fun p ρ1 h1 v1 H1 R1 s1 r1 o1 => ?_
  cases q1 : ρ1[i]? with
  | none => rw [q1] at o1; exact o1.elim
  | some s =>
    rw [q1] at o1
    cases s with
    | own d =>
      cases d with
      | dict es =>
        dsimp only at o1
        obtain ⟨a, ea, r0, _⟩ := R1.slot i _ q1
        refine ⟨_, ea, thenE R1 o1 fun q ρ2 h2 kv H2 R2 s2 r2 o2 => ?_⟩
        cases ek : keyOf q.2 with
        | none => rw [ek] at o2; exact o2.elim
        | some kk =>
          rw [ek] at o2
          cases q2 : ρ2[i]? with
          | none => rw [q2] at o2; exact o2.elim
          | some s =>
            rw [q2] at o2
            cases s with
            | own d =>
              cases d with
              | dict fs =>
                dsimp only at o2
                obtain ⟨b, eb, r3, _⟩ := R2.slot i _ q2
                rw [ea] at eb; cases eb
                cases r3 with
                | dic h3 q3 =>
                  by_cases hl : fs.length < big
                  · rw [if_pos hl] at o2
                    have ekv := kV_of r2.1 ek
                    subst ekv
                    have hz := sz
                    have hlen := q3.len
                    exact ⟨a, _, rfl, DPut.k h3 (by omega), o2 hd σ _ (Hs.refl _) (R2.updOwnK q2 ea h3 (q3.put kk (Rp.stp s2 r1.1))).1⟩
                  · rw [if_neg hl] at o2; exact o2.elim
              | _ => exact o2.elim
            | _ => exact o2.elim
      | _ => exact o1.elim
    | _ => exact o1.elim
theorem ss_skip {st : Stmt} : PS X st (tS S W (ex C th .skip)) := ⟨fun pins s σ H D I h => by
  obtain ⟨G, rfl, hd, ρ, h, R, oo⟩ := h
  exact oo.elim⟩
theorem ss_asgSkip {t : Tg} {st : Stmt} : PS X st (tS S W (ex C th (.asg t .skip))) := ⟨fun pins s σ H D I h => by
  obtain ⟨G, rfl, hd, ρ, h, R, oo⟩ := h
  unfold ex ev at oo
  exact oo.elim⟩
theorem ss_app (hv : PE X x (tVar i)) (he : PE X y (tE S W (ev C e))) (hs : notStar y = true) (hK : X.K = S.K) (hb : attributeBase x "append" X.env (eval x X.env) = eval x X.env) (hl : (apos.endLine == cpos.line) = true) :
    PS X (.Expr (.Call (.Attribute x "append" apos) [y] [] cpos) pos) (tS S W (ex C th (.app i e))) := by
  have few : ((backTo cpos (starEach [y] X.env)).all (fun x => !x.1) && (backToKw cpos (keywordEach [] X.env)).all (fun x => x.1.isSome) && decide ([y].length + ([] : List Keyword).length + (if ([] : List Keyword).isEmpty then 0 else 1) < 30)) = true := by
    rw [star_cons hs]; rfl
  refine PS.imp (ps_expr (pe_bm PySem.F.plainAttrs_list PySem.F.slot_list_append PySem.F.type_list_append mt_append hv (pa_cons he pa_nil (star_cons hs)) hb few hl (star_cons hs) rfl) rfl) fun D σ H h => ?_
  obtain ⟨G, rfl, hd, ρ, h, R, oo⟩ := h
  unfold ex at oo
  cases q : ρ[i]? with
  | none => rw [q] at oo; exact oo.elim
  | some s =>
    rw [q] at oo
    cases s with
    | own d =>
      cases d with
      | list ds =>
        try dsimp only at oo
        obtain ⟨a, ea, r0, _⟩ := R.slot i _ q
        cases r0 with
        | lst h1 l1 q1 =>
          refine ⟨_, ea, .inl ⟨rfl, _, .inl (.inl h1)⟩, thenE R oo fun p ρ1 h2 v H1 R1 s1 r1 o1 => ?_⟩
          try dsimp only at o1
          cases q2 : ρ1[i]? with
          | none => rw [q2] at o1; exact o1.elim
          | some s =>
            rw [q2] at o1
            cases s with
            | own d =>
              cases d with
              | list es =>
                try dsimp only at o1
                obtain ⟨b, eb, r2, _⟩ := R1.slot i _ q2
                rw [ea] at eb; cases eb
                cases r2 with
                | lst h3 l3 q3 =>
                  by_cases hl : es.length < big
                  · rw [if_pos hl] at o1
                    have hz := sz
                    have hlen := q3.len
                    refine ⟨a, _, v, rfl, rfl, h3, by omega, o1 hd σ _ (Hs.refl _) (R1.updOwn q2 ea h3 ?_ (q3.app (.cons r1.1 .nil))).1⟩
                    rw [List.length_append, List.length_singleton]
                    omega
                  · rw [if_neg hl] at o1; exact o1.elim
              | _ => exact o1.elim
            | _ => exact o1.elim
      | _ => exact oo.elim
    | _ => exact oo.elim
theorem s_pop0 (hv : PE X x (tVar i)) (hb : attributeBase x "pop" X.env (eval x X.env) = eval x X.env) (hl : (apos.endLine == cpos.line) = true) : PE X (.Call (.Attribute x "pop" apos) [] [] cpos) (tE S W (ev C (.pop0 i))) := by
  refine PE.imp (pe_bm0 PySem.F.plainAttrs_list PySem.F.slot_list_pop PySem.F.type_list_pop mt_pop hv hb hl) fun σ H Q h => ?_
  obtain ⟨G, rfl, hd, ρ, h, R, oo⟩ := h
  unfold ev at oo
  cases q : ρ[i]? with
  | none => rw [q] at oo; exact oo.elim
  | some s =>
    rw [q] at oo
    cases s with
    | own d =>
      cases d with
      | list ds =>
        try dsimp only at oo
        cases q2 : ds[ds.length - 1]? with
        | none => rw [q2] at oo; exact oo.elim
        | some d =>
          rw [q2] at oo
          obtain ⟨a, ea, r0, _⟩ := R.slot i _ q
          cases r0 with
          | lst h1 l1 q1 =>
            obtain ⟨y, ey, ry⟩ := q1.get q2
            obtain ⟨R', st⟩ := R.updOwn q ea h1 (by rw [List.length_dropLast]; omega) q1.dropLast
            exact ⟨_, ea, .inl ⟨rfl, _, .inl (.inl h1)⟩, a, _, y, rfl, rfl, h1, by rw [q1.len]; exact ey, oo _ R' st y (.plain (Rp.stp st ry))⟩
      | _ => exact oo.elim
    | _ => exact oo.elim
theorem s_pop1 (hv : PE X x (tVar i)) (he : PE X y (tE S W (ev C e))) (hs : notStar y = true) (hb : attributeBase x "pop" X.env (eval x X.env) = eval x X.env) (hl : (apos.endLine == cpos.line) = true) : PE X (.Call (.Attribute x "pop" apos) [y] [] cpos) (tE S W (ev C (.pop1 i e))) := by
  have few : ((backTo cpos (starEach [y] X.env)).all (fun x => !x.1) && (backToKw cpos (keywordEach [] X.env)).all (fun x => x.1.isSome) && decide ([y].length + ([] : List Keyword).length + (if ([] : List Keyword).isEmpty then 0 else 1) < 30)) = true := by
    rw [star_cons hs]; rfl
  refine PE.imp (pe_bm PySem.F.plainAttrs_list PySem.F.slot_list_pop PySem.F.type_list_pop mt_popAt hv (pa_cons he pa_nil (star_cons hs)) hb few hl (star_cons hs) rfl) fun σ H Q h => ?_
  obtain ⟨G, rfl, hd, ρ, h, R, oo⟩ := h
  unfold ev at oo
  cases q : ρ[i]? with
  | none => rw [q] at oo; exact oo.elim
  | some s =>
    rw [q] at oo
    cases s with
    | own d =>
      cases d with
      | list ds =>
        try dsimp only at oo
        obtain ⟨a, ea, r0, _⟩ := R.slot i _ q
        cases r0 with
        | lst h1 l1 q1 =>
          refine ⟨_, ea, .inl ⟨rfl, _, .inl (.inl h1)⟩, seqI R oo fun j ρ1 h2 H1 R1 s1 o1 => ?_⟩
          cases q2 : ρ1[i]? with
          | none => rw [q2] at o1; exact o1.elim
          | some s =>
            rw [q2] at o1
            cases s with
            | own d =>
              cases d with
              | list es =>
                try dsimp only at o1
                by_cases hr : rngOk j = true
                · rw [if_pos hr] at o1
                  obtain ⟨b1, b2⟩ := rng_ok hr
                  cases q3 : seqIndex? j es.length with
                  | none => rw [q3] at o1; exact o1.elim
                  | some m =>
                    rw [q3] at o1
                    dsimp only at o1
                    cases q4 : es[m]? with
                    | none => rw [q4] at o1; exact o1.elim
                    | some d =>
                      rw [q4] at o1
                      obtain ⟨b, eb, r2, _⟩ := R1.slot i _ q2
                      rw [ea] at eb; cases eb
                      cases r2 with
                      | lst h3 l3 q5 =>
                        rename_i xs
                        obtain ⟨w, ew, rw'⟩ := q5.get q4
                        obtain ⟨R', st⟩ := R1.updOwn q2 ea h3 (Nat.le_trans (by rw [List.length_eraseIdx]; split <;> omega) l3) (q5.erase m)
                        exact ⟨a, xs, j, m, w, rfl, rfl, h3, by omega, by omega, by rw [seqIx_len q5.len]; exact q3, ew, o1 _ R' st w (.plain (Rp.stp st rw'))⟩
                · rw [if_neg hr] at o1; exact o1.elim
              | _ => exact o1.elim
            | _ => exact o1.elim
      | _ => exact oo.elim
    | _ => exact oo.elim
theorem ss_asgs (hv : PE X x (tVar i)) (hk : PE X y (tE S W (ev C k))) (he : PE X z (tE S W (ev C v))) (hs : swapsWithSole [.Subscript x y tpos] z pos.line X.env = pure false)
    (ha : ∀ v, assign (.Subscript x y tpos) X.env v = (do
      let ov ← holding [v] (eval x X.env)
      let iv ← holding [v, ov] (eval y X.env)
      standAt tpos
      holding [v, ov, iv] (setItem ov iv v)
      release [v, ov, iv] [])) : PS X (.Assign [.Subscript x y tpos] z pos) (tS S W (ex C th (.asgs i k v))) := by
  refine PS.imp (ps_asg he (pg_sub hv hk set_list ha) hs rfl rfl) fun D σ H h => ?_
  obtain ⟨G, rfl, hd, ρ, h, R, oo⟩ := h
  unfold ex at oo
  refine thenE R oo fun p ρ1 h1 v1 H1 R1 s1 r1 o1 => ?_
  obtain ⟨xs, ex, o2⟩ := thenO o1
  obtain ⟨a, vs, ea, _⟩ := R1.getM ex
  refine ⟨_, ea, thenE R1 o2 fun q ρ2 h2 kv H2 R2 s2 r2 o3 => ?_⟩
  obtain ⟨fr, kd⟩ := q
  cases kd with
  | int j =>
    cases e3 : setSl i (.int j) p.2 ρ2 h2 with
    | none => rw [e3] at o3; exact o3.elim
    | some w =>
      rw [e3] at o3
      obtain ⟨b, ys, m, eb, h3, e4, R3⟩ := R2.setSl (Rp.stp s2 r1.1) e3
      rw [ea] at eb; cases eb
      exact ⟨a, ys, j, m, rfl, r2.1.vint, h3, e4, o3 hd σ _ (Hs.refl _) R3⟩
  | _ => unfold setSl at o3; exact o3.elim
theorem get_list : PGet X (rIxL X.K) := by
  intro pins s σ H o i ov iv Q I ro ri h
  obtain ⟨p, xs, i, z, rfl, rfl, hq, he, q⟩ := h
  cases ro
  obtain ⟨t, rfl⟩ := ri
  obtain ⟨its, r, pl, hz⟩ := I.list hq
  obtain ⟨j, h1, h2, h3, h4, h5⟩ := atI_get he
  obtain ⟨w, ew, rw'⟩ := r.get h2
  have hl := r.length
  have hn := line63
  have fin : EP X pins σ Q w s := ⟨z, H, I, rw', q⟩
  by_cases h0 : 0 ≤ i
  · have hj : i.toNat = j := by
      rw [seqIndex_of h0 h5] at h1
      exact Option.some.inj h1
    exact wpAny_getItem_list pl.isList h0 (by omega) (by rw [hj]; simpa using ew) fin
  · have hj : (i + (its.toArray.size : Int)).toNat = j := by
      rw [seqIndex_neg (by omega) h4] at h1
      rw [List.size_toArray, ← hl]
      exact Option.some.inj h1
    exact wpAny_getItem_list_neg pl.isList (by omega) (by rw [List.size_toArray] <;> omega) (by omega) (by rw [hj]; simpa using ew) fin
def rAug (o : Bop) : TIp := fun x y H Q => ∃ a b z, x = .int a ∧ y = .int b ∧ augD o (.int a) (.int b) = some (.int z) ∧ Q (.int z) H
theorem ip_aug (ho : o = .add ∨ o = .sub) : PIp X (opB o) (rAug o) := by
  intro pins s σ H x y v u Q I r1 r2 h
  obtain ⟨a, b, z, e1, e2, e3, q⟩ := h
  rcases ho with ho | ho <;> subst ho
  · cases e3
    exact ip_add pins s σ H x y v u Q I r1 r2 ⟨a, b, e1, e2, q⟩
  · cases e3
    exact ip_sub pins s σ H x y v u Q I r1 r2 ⟨a, b, e1, e2, q⟩
theorem augD_inv {x y z : PyData} (h : augD o x y = some z) : ∃ a b c, x = .int a ∧ y = .int b ∧ z = .int c := by
  cases o <;> cases x <;> (first | cases h | skip) <;> cases y <;> first | (cases h; done) | exact ⟨_, _, _, rfl, rfl, (Option.some.inj h).symm⟩
theorem ss_aug (hN : X.N.Nodup) (hi : X.N[i]? = some n) (hx : Loc X.env.scope n) (hf : X.fn n = true ∨ X.env.scope.names.lookup n = some .local) (he : PE X y (tE S W (ev C e))) (ho : o = .add ∨ o = .sub) :
    PS X (.AugAssign (.Name n p1) (opB o) y pos) (tS S W (ex C th (.aug i o e))) := by
  refine PS.imp (ps_aug hN hi hx he (ip_aug ho) hf) fun D σ H h => ?_
  obtain ⟨G, rfl, hd, ρ, h, R, oo⟩ := h
  unfold ex at oo
  cases q0 : ρ[i]? with
  | none => rw [q0] at oo; exact oo.elim
  | some s0 =>
    rw [q0] at oo
    cases s0 with
    | sh d0 =>
      obtain ⟨u, eu, _⟩ := R.slot i _ q0
      refine ⟨u, eu, thenE R oo fun p ρ1 h1 v1 H1 R1 s1 r1 o1 => ?_⟩
      cases q : ρ1[i]? with
      | none => rw [q] at o1; exact o1.elim
      | some s =>
        rw [q] at o1
        cases s with
        | sh d =>
          dsimp only at o1
          cases e3 : augD o d p.2 with
          | none => rw [e3] at o1; exact o1.elim
          | some w =>
            rw [e3] at o1
            obtain ⟨a, b, c, rfl, e4, rfl⟩ := augD_inv e3
            rw [e4] at e3
            obtain ⟨v', ev', r'⟩ := R1.slot i _ q
            rw [eu] at ev'; cases ev'
            have r1' := r1.1
            rw [e4] at r1'
            exact ⟨a, b, c, r'.vint, r1'.vint, e3, o1 hd _ H1 (Hs.refl _) (R1.storeSh (.int c))⟩
        | _ => exact o1.elim
    | _ => exact oo.elim
theorem ss_augs (hv : PE X x (tVar i)) (hk : PE X y (tE S W (ev C k))) (he : PE X z (tE S W (ev C e))) (ho : o = .add ∨ o = .sub)
    (ha : ∀ ov iv new, augStore y ov iv new = (do holding [new, ov, iv] (setItem ov iv new); release [new, ov, iv] []; pure .next)) (hK : X.K = S.K) : PS X (.AugAssign (.Subscript x y tpos) (opB o) z pos) (tS S W (ex C th (.augs i k o e))) := by
  refine PS.imp (ps_augS hv hk get_list he (ip_aug ho) set_list ha) fun D σ H h => ?_
  obtain ⟨G, rfl, hd, ρ, h, R, oo⟩ := h
  unfold ex at oo
  obtain ⟨xs, ex, o1⟩ := thenO oo
  obtain ⟨a, vs, ea, h0, l0, q0⟩ := R.getM ex
  refine ⟨_, ea, thenE R o1 fun q ρ1 h1 kv H1 R1 s1 r1 o2 => ?_⟩
  obtain ⟨y0, ey, o3⟩ := thenO o2
  obtain ⟨xs1, ex1, ey1⟩ := Option.bind_eq_some_iff.mp ey
  obtain ⟨b, vs1, eb, h2, l2, q2⟩ := R1.getM ex1
  rw [ea] at eb; cases eb
  obtain ⟨fr, kd⟩ := q
  cases kd with
  | int j =>
    obtain ⟨w, ew, rw'⟩ := atI_rp q2 (show atI xs1 j = some y0 from ey1)
    refine ⟨a, vs1, j, w, rfl, r1.1.vint, by rw [hK]; exact .inl (.inl h2), ew, thenE R1 o3 fun p ρ2 h3 v2 H2 R2 s2 r2 o4 => ?_⟩
    cases e3 : augD o y0 p.2 with
    | none => rw [e3] at o4; exact o4.elim
    | some z0 =>
      rw [e3] at o4
      dsimp only at o4
      obtain ⟨m, b, c, rfl, e4, rfl⟩ := augD_inv e3
      rw [e4] at e3
      have r2' := r2.1
      rw [e4] at r2'
      cases e5 : setSl i (.int j) (.int c) ρ2 h3 with
      | none => rw [e5] at o4; exact o4.elim
      | some w5 =>
        rw [e5] at o4
        obtain ⟨b5, ys, m5, eb5, h5, e6, R3⟩ := R2.setSl (.int c) e5
        rw [ea] at eb5; cases eb5
        exact ⟨m, b, c, rw'.vint, r2'.vint, e3, a, ys, j, m5, rfl, r1.1.vint, h5, e6, o4 hd σ _ (Hs.refl _) R3⟩
  | _ => cases ey1
theorem ss_hand {pos' : Pos} (hN : X.N.Nodup) (hi : X.N[i]? = some n) (hx : Loc X.env.scope n) (hf : X.fn n = true ∨ X.env.scope.names.lookup n = some .local) (he : PE X x (tE S W (ev C e))) (hs : swapsWith x (some (.Name n pos')) pos.line X.env = pure false) :
    PS X (.Assign [.Name n pos'] x pos) (tS S W (ex C th (.hand i e))) := by
  refine PS.imp (ps_set hN hi hx he hs hf) fun D σ H h => ?_
  obtain ⟨G, rfl, hd, ρ, h, R, o⟩ := h
  unfold ex at o
  refine thenE R o fun p ρ1 h1 v H1 R1 s1 r1 o1 => ?_
  obtain ⟨fr, d⟩ := p
  cases fr with
  | false => exact o1.elim
  | true =>
    cases d with
    | list xs =>
      cases h1 with
      | some hs => exact o1.elim
      | none =>
        have e0 : hd = none := R1.hnd
        subst e0
        obtain ⟨a, rfl, n0, nz, rt, R'⟩ := r1.2 rfl
        exact o1 (some a) _ H1 (.inl rfl) (R1.storeHand R' n0 nz rt)
    | _ => exact o1.elim
end
end PyD

/-! PyQ: several names at once. -/
namespace PyD
open PySem L2 LamX

def Gh.plusL (G : Gh) : List Addr → Gh
  | [] => G
  | a :: as => (G.plusL as).plus a
theorem plusL_Zc (G : Gh) : ∀ (as : List Addr) (b : Addr), (G.plusL as).Zc b ↔ G.Zc b ∨ b ∈ as
  | [], b => by simp [Gh.plusL]
  | a :: as, b => by
    show ((G.plusL as).Zc b ∨ b = a) ↔ _
    rw [plusL_Zc G as b, List.mem_cons]
    exact ⟨fun z => by rcases z with (z | z) | z <;> simp [z], fun z => by rcases z with z | z | z <;> simp [z]⟩
theorem plusL_S (G : Gh) : ∀ as, (G.plusL as).S = G.S ∧ (G.plusL as).H0 = G.H0 ∧ (G.plusL as).M0 = G.M0 ∧ (G.plusL as).Bz = G.Bz
  | [] => ⟨rfl, rfl, rfl, rfl⟩
  | a :: as => plusL_S G as
theorem plus_comm (G : Gh) (a b : Addr) : (G.plus a).plus b = (G.plus b).plus a := by
  unfold Gh.plus
  congr 1
  funext c
  exact propext ⟨fun z => by rcases z with (z | z) | z <;> simp [z], fun z => by rcases z with (z | z) | z <;> simp [z]⟩
theorem plusL_comm (G : Gh) (a : Addr) : ∀ as, (G.plus a).plusL as = (G.plusL as).plus a
  | [] => rfl
  | b :: as => by
    show ((G.plus a).plusL as).plus b = ((G.plusL as).plus b).plus a
    rw [plusL_comm G a as, plus_comm]
theorem plusL_anew (G : Gh) (H : Hp) (M : Addr → Prop) : ∀ as, (G.anew H M).plusL as = (G.plusL as).anew H M
  | [] => rfl
  | b :: as => by
    show ((G.anew H M).plusL as).plus b = ((G.plusL as).plus b).anew H M
    rw [plusL_anew G H M as]
    rfl
section
variable {G : Gh} {hd : Option Addr} {ρ : Env} {h : Hand} {σ : L2.St} {H : Hp}
theorem Rel.minus {a : Addr} (hb : ∀ b, G.Bz b → G.Zc b) (R : Rel (G.plus a) hd ρ h σ H) : Rel G hd ρ h σ H where
  len := R.len
  slot := fun i s e => by
    have so := R.slot i s e
    have zz : ∀ b, (G.Zc b ∨ Mo ρ σ hd b) → ((G.plus a).Zc b ∨ Mo ρ σ hd b) := fun b z => z.imp .inl id
    cases s with
    | own d =>
      obtain ⟨b, ea, r, m, nz, nh⟩ := so
      exact ⟨b, ea, r.mv (fun _ e _ _ => e) (fun _ _ e _ _ => e) (fun b _ z => zz b z) (fun _ _ e => e) (fun _ _ _ e => e), m, fun z => nz (.inl z), nh⟩
    | bor d =>
      obtain ⟨b, ea, r, nm, bz⟩ := so
      exact ⟨b, ea, r.mv (fun _ e _ _ => e) (fun _ _ e _ _ => e) (fun b _ z => zz b z) (fun _ _ e => e) (fun _ _ _ e => e), nm, bz⟩
    | non => trivial
    | sh d => obtain ⟨v, e1, r⟩ := so; exact ⟨v, e1, r.anti zz⟩
    | fn k => exact so
    | hnd => exact so
    | exc c => exact so
    | scr ds => obtain ⟨b, ys, e1, f, l, q⟩ := so; exact ⟨b, ys, e1, f, l, q.anti zz⟩
  uniq := R.uniq
  hnd := HndOk.mv (fun _ _ e _ _ => e) (fun _ _ e _ _ => e) (fun b _ (z : G.Zc b ∨ Mo ρ σ hd b) => z.imp .inl id) (fun _ _ e => e) (fun _ _ _ e => e) R.hnd
  stp := R.stp
  hd0 := R.hd0
  tabs := R.tabs
  zdom := fun b z => R.zdom b (.inl z)
  bz := hb
theorem Rel.minusL (hb : ∀ b, G.Bz b → G.Zc b) : ∀ {as : List Addr}, Rel (G.plusL as) hd ρ h σ H → Rel G hd ρ h σ H
  | [], R => R
  | a :: as, R => Rel.minusL hb (Rel.minus (fun b z => (plusL_Zc G as b).mpr (.inl (hb b (by rw [(plusL_S G as).2.2.2] at z; exact z)))) R)
end
/-- values, some new -/
inductive VL (K : PySem.W.Frag) (H : Hp) (Z : Addr → Prop) : List Addr → List V → List (Bool × PyData) → Prop
  | nil : VL K H Z [] [] []
  | sh {as : List Addr} {v : V} {vs : List V} {d : PyData} {ps : List (Bool × PyData)} : Rp K H Z v d → VL K H Z as vs ps → VL K H Z as (v :: vs) ((false, d) :: ps)
  | own {as : List Addr} {a : Addr} {vs : List V} {d : PyData} {ps : List (Bool × PyData)} : Root K H Z a d → VL K H Z as vs ps → VL K H Z (a :: as) (.ref a :: vs) ((true, d) :: ps)
theorem VL.anti {K : PySem.W.Frag} {H : Hp} {Z Z' : Addr → Prop} (h : ∀ a, Z' a → Z a) {as : List Addr} {vs : List V} {ps : List (Bool × PyData)} (x : VL K H Z as vs ps) : VL K H Z' as vs ps := by
  induction x with
  | nil => exact .nil
  | sh r _ ih => exact .sh (r.anti h) ih
  | own r _ ih => exact .own (r.mv (fun _ e _ _ => e) (fun _ _ e _ _ => e) (fun b _ z => h b z) (fun _ _ e => e) fun _ _ _ e => e) ih
theorem VL.len {K : PySem.W.Frag} {H : Hp} {Z : Addr → Prop} {as : List Addr} {vs : List V} {ps : List (Bool × PyData)} (x : VL K H Z as vs ps) : vs.length = ps.length := by
  induction x with
  | nil => rfl
  | sh _ _ ih => rw [List.length_cons, List.length_cons, ih]
  | own _ _ ih => rw [List.length_cons, List.length_cons, ih]
theorem VL.same {K : PySem.W.Frag} {H H' : Hp} {Z : Addr → Prop} (h : Same H H') {as : List Addr} {vs : List V} {ps : List (Bool × PyData)} (x : VL K H Z as vs ps) : VL K H' Z as vs ps := by
  induction x with
  | nil => exact .nil
  | sh r _ ih => exact .sh (r.mv (fun a o e _ _ => h a o e) (fun _ _ z => z) (fun a xs e => h a _ e) fun b o u e => h b _ e) ih
  | own r _ ih => exact .own (r.mv (fun o e _ _ => h _ o e) (fun a o e _ _ => h a o e) (fun _ _ z => z) (fun a xs e => h a _ e) fun b o u e => h b _ e) ih
def ResL (G : Gh) (hd : Option Addr) (ρ : Env) (h : Hand) (σ : L2.St) (H : Hp) (vs : List V) (ps : List (Bool × PyData)) : Prop :=
  ∃ as, as.Nodup ∧ (∀ a ∈ as, (G.M0 a ∨ G.H0 a = none) ∧ ¬ G.Z ρ σ hd a) ∧ (∀ b, G.Bz b → G.Zc b) ∧ Rel (G.plusL as) hd ρ h σ H ∧ VL G.K H (fun b => G.Z ρ σ hd b ∨ b ∈ as) as vs ps
section
variable {G : Gh} {hd : Option Addr} {ρ : Env} {h : Hand} {σ : L2.St} {H : Hp}
theorem ResL.nil_rel (r : ResL G hd ρ h σ H [] []) : Rel G hd ρ h σ H := by
  obtain ⟨as, _, _, hb, R, _⟩ := r
  exact R.minusL hb
theorem ResL.same {H' : Hp} {vs : List V} {ps : List (Bool × PyData)} (r : ResL G hd ρ h σ H vs ps) (e : Same H H') : ResL G hd ρ h σ H' vs ps := by
  obtain ⟨as, nd, fr, hb, R, x⟩ := r
  exact ⟨as, nd, fr, hb, R.same e, x.same e⟩
theorem ResL.len {vs : List V} {ps : List (Bool × PyData)} (r : ResL G hd ρ h σ H vs ps) : vs.length = ps.length := by
  obtain ⟨as, _, _, _, _, x⟩ := r
  exact x.len
theorem ResL.put {v : V} {vs : List V} {p : Bool × PyData} {ps : List (Bool × PyData)} (r : ResL G hd ρ h σ H (v :: vs) (p :: ps)) (i : Nat) : ResL G hd (ρ.set i (slotOf p)) h (σ.set i (some v)) H vs ps := by
  obtain ⟨as, nd, fr, hb, R, x⟩ := r
  cases x with
  | sh r0 x =>
    rename_i d
    have lm : ∀ b, Mo (ρ.set i (.sh d)) (σ.set i (some v)) hd b → Mo ρ σ hd b := fun b m => Mo.store (fun _ z => by cases z) m
    have zz : ∀ b, G.Z (ρ.set i (.sh d)) (σ.set i (some v)) hd b → G.Z ρ σ hd b := fun b z => z.imp id (lm b)
    refine ⟨as, nd, fun a ha => ⟨(fr a ha).1, fun z => (fr a ha).2 (zz a z)⟩, hb, R.storeSh ?_, x.anti fun b z => z.imp (zz b) id⟩
    have eK : (G.plusL as).K = G.K := congrArg Sx.K (plusL_S G as).1
    rw [eK]
    refine r0.anti fun b z => ?_
    rcases z with z | z
    · exact ((plusL_Zc G as b).mp z).imp .inl id
    · exact .inl (.inr z)
  | own r0 x =>
    rename_i as' a d
    have nd' := List.nodup_cons.mp nd
    have fa := fr a List.mem_cons_self
    have lm : ∀ b, Mo (ρ.set i (.own d)) (σ.set i (some (.ref a))) hd b → Mo ρ σ hd b ∨ b = a := fun b m => by
      rcases m with m | ⟨j, d', e1, e2⟩
      · exact .inl (.inl m)
      · by_cases hj : i = j
        · subst hj
          by_cases hl : i < ρ.length
          · rw [List.getElem?_set_self (by rw [R.len]; exact hl)] at e2
            cases e2; exact .inr rfl
          · rw [List.getElem?_eq_none (by rw [List.length_set]; omega)] at e1; cases e1
        · rw [List.getElem?_set_ne hj] at e1 e2
          exact .inl (.inr ⟨j, d', e1, e2⟩)
    have R0 : Rel (G.plusL as') hd ρ h σ H := Rel.minus (fun b z => (plusL_Zc G as' b).mpr (.inl (hb b (by rw [(plusL_S G as').2.2.2] at z; exact z)))) R
    have eK : (G.plusL as').K = G.K := congrArg Sx.K (plusL_S G as').1
    have nz : ¬ (G.plusL as').Z ρ σ hd a := fun z => by
      rcases z with z | z
      · exact ((plusL_Zc G as' a).mp z).elim (fun z => fa.2 (.inl z)) nd'.1
      · exact fa.2 (.inr z)
    have R1 : Rel (G.plusL as') hd (ρ.set i (.own d)) h (σ.set i (some (.ref a))) H := R0.storeOwn R (by rw [(plusL_S G as').2.1, (plusL_S G as').2.2.1]; exact fa.1) nz (by
      rw [eK]
      refine r0.mv (fun _ e _ _ => e) (fun _ _ e _ _ => e) (fun b _ z => ?_) (fun _ _ e => e) fun _ _ _ e => e
      rcases z with (z | z) | z
      · exact ((plusL_Zc G as' b).mp z).imp .inl (List.mem_cons_of_mem _)
      · exact .inr (by rw [z]; exact List.mem_cons_self)
      · exact .inl (.inr z))
    refine ⟨as', nd'.2, fun b hb' => ⟨(fr b (List.mem_cons_of_mem _ hb')).1, fun z => ?_⟩, hb, R1, x.anti fun b z => ?_⟩
    · rcases z with z | z
      · exact (fr b (List.mem_cons_of_mem _ hb')).2 (.inl z)
      · rcases lm b z with z | z
        · exact (fr b (List.mem_cons_of_mem _ hb')).2 (.inr z)
        · exact nd'.1 (by rw [← z]; exact hb')
    · rcases z with (z | z) | z
      · exact .inl (.inl z)
      · exact (lm b z).elim (fun z => .inl (.inr z)) fun z => .inr (by rw [z]; exact List.mem_cons_self)
      · exact .inr (List.mem_cons_of_mem _ z)
/-- one more in front -/
theorem ResL.cons {ρ' : Env} {h' : Hand} {H' : Hp} {v : V} {vs : List V} {p : Bool × PyData} {ps : List (Bool × PyData)} (R : Rel G hd ρ h σ H) (r : Res G hd ρ h σ H v p) :
    ∃ G', G'.S = G.S ∧ Rel G' hd ρ h σ H ∧ ∀ ρ' h' H' vs ps, (Rel G' hd ρ' h' σ H' → Rel G hd ρ' h' σ H') ∧ (ResL G' hd ρ' h' σ H' vs ps → Stp (Mo ρ σ hd) H (Mo ρ' σ hd) H' → ResL G hd ρ' h' σ H' (v :: vs) (p :: ps)) := by
  obtain ⟨fr, d⟩ := p
  cases fr with
  | false =>
    refine ⟨G.anew H (Mo ρ σ hd), rfl, R.anew, fun ρ' h' H' vs ps => ⟨fun R' => R.back (G2 := G) (Hs.refl hd) rfl rfl R', fun rl st => ?_⟩⟩
    obtain ⟨as, nd, frs, hb, R', x⟩ := rl
    rw [plusL_anew] at R'
    refine ⟨as, nd, fun a ha => ⟨R.newer (Hs.refl hd) (fun z => (frs a ha).2 (.inr (.inl z))) (frs a ha).1, (frs a ha).2⟩, hb, R.back (Hs.refl hd) (plusL_S G as).2.1 (plusL_S G as).2.2.1 R', .sh ?_ x⟩
    refine r.1.mv (fun b o e n t => st.keep b o e (fun m => n (.inr m)) t) (fun b n z => ?_) st.tups st.frzs
    rcases z with (z | z) | z
    · exact .inl z
    · exact (st.own b z).elim .inr fun e => absurd e n
    · exact (frs b z).1.elim .inr fun e => absurd e n
  | true =>
    obtain ⟨a, rfl, n0, nz, rt, R2⟩ := r.2 rfl
    refine ⟨(G.plus a).anew H (Mo ρ σ hd), rfl, R2.anew, fun ρ' h' H' vs ps => ⟨fun R' => Rel.minus R.bz (R2.back (G2 := G.plus a) (Hs.refl hd) rfl rfl R'), fun rl st => ?_⟩⟩
    obtain ⟨as, nd, frs, hb, R', x⟩ := rl
    rw [plusL_anew] at R'
    have R3 := R2.back (G2 := (G.plus a).plusL as) (Hs.refl hd) (plusL_S (G.plus a) as).2.1 (plusL_S (G.plus a) as).2.2.1 R'
    rw [plusL_comm] at R3
    have na : a ∉ as := fun ha => (frs a ha).2 (.inl (.inr rfl))
    refine ⟨a :: as, List.nodup_cons.mpr ⟨na, nd⟩, fun b hb' => ?_, R.bz, R3, .own ?_ (x.anti fun b z => ?_)⟩
    · rcases List.mem_cons.mp hb' with e | hb'
      · subst e
        refine ⟨n0, fun z => ?_⟩
        rcases z with z | z
        · exact nz (.inl z)
        · exact (st.own b z).elim (fun m => nz (.inr m)) fun e => rt.dom e
      · refine ⟨R2.newer (Hs.refl hd) (fun z => (frs b hb').2 (.inr (.inl z))) (frs b hb').1, fun z => (frs b hb').2 (z.imp .inl id)⟩
    · refine rt.mv (fun o e t _ => st.keep a o e (fun m => nz (.inr m)) t) (fun b o e n t => st.keep b o e (fun m => n (.inr m)) t) (fun b n z => ?_) st.tups st.frzs
      rcases z with (z | z) | z
      · exact .inl (.inl z)
      · exact (st.own b z).elim .inr fun e => absurd e n
      · rcases List.mem_cons.mp z with e | z
        · exact .inl (.inr e)
        · exact (frs b z).1.elim .inr fun e => absurd e n
    · rcases z with (z | z) | z
      · exact .inl (.inl (.inl z))
      · exact .inl (.inr z)
      · exact (List.mem_cons.mp z).elim (fun e => .inl (.inl (.inr e))) .inr
end
def tL (S : Sx) (W : WX) (m : M (List (Bool × PyData))) : TA := fun σ H Q => ∃ G, G.S = S ∧ ∃ hd ρ h, Rel G hd ρ h σ H ∧ Out G W σ hd ρ H (m ρ h) fun ps ρ' h' H' => ∀ vs, ResL G hd ρ' h' σ H' vs ps → Q vs H'
section
variable {X : Cx} {S : Sx} {W : WX} {C : Cl} {th : Option (Hand → Cr)} {e : E} {es : Es} {x : Expr} {xs : List Expr} {pos : Pos} {i j l : Nat}
theorem al_nil : PA X [] (tL S W (evl C .nil)) := by
  refine PA.imp pa_nil fun σ H Q h => ?_
  obtain ⟨G, rfl, hd, ρ, h, R, oo⟩ := h
  unfold evl at oo
  exact oo H R (Stp.refl _ _) [] ⟨[], List.nodup_nil, fun a ha => by simp at ha, R.bz, R, .nil⟩
theorem al_cons (ha : PE X x (tE S W (ev C e))) (hr : PA X xs (tL S W (evl C es))) (hs : notStar x = true) : PA X (x :: xs) (tL S W (evl C (.cons e es))) := by
  refine PA.imp (pa_cons ha hr (star_cons hs)) fun σ H Q h => ?_
  obtain ⟨G, rfl, hd, ρ, h, R, oo⟩ := h
  unfold evl at oo
  refine seqE R oo fun p ρ1 h1 v1 H1 _ R1 s1 r1 o1 => ?_
  obtain ⟨G', eS, R', bk⟩ := ResL.cons (ρ' := ρ1) (h' := h1) (H' := H1) (vs := []) (ps := []) R1 r1
  refine ⟨G', eS, hd, ρ1, h1, R', ?_⟩
  have eC : G'.ca = G.ca := congrArg Sx.ca eS
  cases e2 : evl C es ρ1 h1 with
  | ok ds ρ2 h2 =>
    rw [e2] at o1
    exact fun H2 R2 s2 vs rl => o1 H2 ((bk ρ2 h2 H2 vs ds).1 R2) s2 (v1 :: vs) ((bk ρ2 h2 H2 vs ds).2 rl s2)
  | exc c ρ2 h2 =>
    rw [e2] at o1
    exact fun H2 R2 => by rw [eC]; exact o1 H2 ((bk ρ2 h2 H2 [] []).1 R2)
  | fail => rw [e2] at o1; exact o1
theorem thenL {G : Gh} {D : Ends} {hd : Option Addr} {ρ : Env} {h : Hand} {σ : L2.St} {H : Hp} {m : M (List (Bool × PyData))} {f : List (Bool × PyData) → Env → Hand → Rt} (R : Rel G hd ρ h σ H) (o : OutS G W D hd ((m ρ h).thenS f)) {Q : List V → Hp → Prop}
    (hq : ∀ ps ρ1 h1 vs H1, ResL G hd ρ1 h1 σ H1 vs ps → OutS G W D hd (f ps ρ1 h1) → Q vs H1) : tL G.S W m σ H Q := by
  refine ⟨G, rfl, hd, ρ, h, R, ?_⟩
  cases e : m ρ h with
  | ok p ρ1 h1 => rw [e] at o; exact fun H1 R1 s1 vs r => hq p ρ1 h1 vs H1 r o
  | exc c ρ1 h1 => rw [e] at o; exact fun H1 R1 => o hd σ H1 (Hs.refl hd) R1
  | fail => rw [e] at o; exact o
theorem ss_par {a b : Expr} {n m : Str} {px py pt : Pos} {kt k2 : Nat} {pt2 : Pos} (hc : X.calm = true) (hN : X.N.Nodup) (hi : X.N[i]? = some n) (hj : X.N[j]? = some m) (hij : i ≠ j) (hx : X.env.scope.names.lookup n = some .local) (hy : X.env.scope.names.lookup m = some .local)
    (ha : PA X [a, b] (tL S W (evl C es))) (hw : swappedStores [.Tuple [.Name n px, .Name m py] kt pt] (.Tuple [a, b] k2 pt2) X.env = pure (some [n, m])) :
    PS X (.Assign [.Tuple [.Name n px, .Name m py] kt pt] (.Tuple [a, b] k2 pt2) pos) (tS S W (ex C th (.par [i, j] es))) := by
  refine PS.imp (ps_par hc hN hi hj hij hx hy ha hw) fun D σ H h => ?_
  obtain ⟨G, rfl, hd, ρ, h, R, o⟩ := h
  unfold ex at o
  refine thenL R o fun ps ρ1 h1 vs H1 r o1 => ?_
  match ps, o1, r with
  | [], o1, r => exact o1.elim
  | [_], o1, r => exact o1.elim
  | _ :: _ :: _ :: _, o1, r => exact o1.elim
  | [p, q], o1, r =>
    have hl := r.len
    match vs, hl, r with
    | [], hl, _ => cases hl
    | [_], hl, _ => cases hl
    | _ :: _ :: _ :: _, hl, _ => cases hl
    | [v, w], _, r => exact ⟨v, w, rfl, o1 hd _ H1 (Hs.refl _) ((r.put i).put j).nil_rel⟩
theorem ss_par3 {a b c : Expr} {n m k : Str} {px py pz pt : Pos} {kt k2 : Nat} {pt2 : Pos} (hc : X.calm = true) (hN : X.N.Nodup) (hi : X.N[i]? = some n) (hj : X.N[j]? = some m) (hl : X.N[l]? = some k) (hij : i ≠ j) (hil : i ≠ l) (hjl : j ≠ l)
    (hx : X.env.scope.names.lookup n = some .local) (hy : X.env.scope.names.lookup m = some .local) (hz : X.env.scope.names.lookup k = some .local)
    (ha : PA X [a, b, c] (tL S W (evl C es))) (hw : swappedStores [.Tuple [.Name n px, .Name m py, .Name k pz] kt pt] (.Tuple [a, b, c] k2 pt2) X.env = pure (some [n, m, k])) :
    PS X (.Assign [.Tuple [.Name n px, .Name m py, .Name k pz] kt pt] (.Tuple [a, b, c] k2 pt2) pos) (tS S W (ex C th (.par [i, j, l] es))) := by
  refine PS.imp (L2.ps_par3 hc hN hi hj hl hij hil hjl hx hy hz ha hw) fun D σ H h => ?_
  obtain ⟨G, rfl, hd, ρ, h, R, o⟩ := h
  unfold ex at o
  refine thenL R o fun ps ρ1 h1 vs H1 r o1 => ?_
  match ps, o1, r with
  | [], o1, r => exact o1.elim
  | [_], o1, r => exact o1.elim
  | [_, _], o1, r => exact o1.elim
  | _ :: _ :: _ :: _ :: _, o1, r => exact o1.elim
  | [p, q, s], o1, r =>
    have hl := r.len
    match vs, hl, r with
    | [], hl, _ => cases hl
    | [_], hl, _ => cases hl
    | [_, _], hl, _ => cases hl
    | _ :: _ :: _ :: _ :: _, hl, _ => cases hl
    | [v, w, u], _, r => exact ⟨v, w, u, rfl, o1 hd _ H1 (Hs.refl _) (((r.put i).put j).put l).nil_rel⟩
/-- as ss_par, by a pair that is made and taken apart (a name that a block sees) -/
theorem ss_parT {a b : Expr} {n m : Str} {px py pt : Pos} {kt k2 : Nat} {pt2 : Pos} (hc : X.calm = true) (hN : X.N.Nodup) (hi : X.N[i]? = some n) (hj : X.N[j]? = some m) (hx : Loc X.env.scope n) (hy : Loc X.env.scope m) (hfx : X.fn n = true ∨ X.env.scope.names.lookup n = some .local) (hfy : X.fn m = true ∨ X.env.scope.names.lookup m = some .local)
    (ha : PA X [a, b] (tL S W (evl C es))) (hw : swappedStores [.Tuple [.Name n px, .Name m py] kt pt] (.Tuple [a, b] k2 pt2) X.env = pure none) :
    PS X (.Assign [.Tuple [.Name n px, .Name m py] kt pt] (.Tuple [a, b] k2 pt2) pos) (tS S W (ex C th (.par [i, j] es))) := by
  refine PS.imp (L2.ps_asg (pe_tup ha) (pg_tup hc (pgs_cons (pg_name hN hi hx hfx) (pgs_cons (pg_name hN hj hy hfy) pgs_nil))) rfl hw) fun D σ H h => ?_
  obtain ⟨G, rfl, hd, ρ, h, R, o⟩ := h
  unfold ex at o
  refine thenL R o fun ps ρ1 h1 vs H1 r o1 => ?_
  match ps, o1, r with
  | [], o1, r => exact o1.elim
  | [_], o1, r => exact o1.elim
  | _ :: _ :: _ :: _, o1, r => exact o1.elim
  | [p, q], o1, r =>
    have hl := r.len
    match vs, hl, r with
    | [], hl, _ => cases hl
    | [_], hl, _ => cases hl
    | _ :: _ :: _ :: _, hl, _ => cases hl
    | [v, w], _, r => exact ⟨show 2 ≤ sizeLine by decide, fun ad n => ⟨ad, [v, w], rfl, .inl (.inl upd_same), rfl, v, [w], rfl, w, [], rfl, rfl, o1 hd _ _ (Hs.refl _) (((r.same (same_upd n)).put i).put j).nil_rel⟩⟩
theorem thenO1 {α : Type} {G : Gh} {W : WX} {D : Ends} {hd : Option Addr} {ρ : Env} {h : Hand} {o : Option α} {f : α → Env → Hand → Rt} (x : OutS G W D hd ((PyD.ofO o ρ h).thenS f)) : ∃ a, o = some a ∧ OutS G W D hd (f a ρ h) := thenO x
/-- x[k], y[l] = a, b -/
theorem ss_pars {x1 y1 x2 y2 a b : Expr} {t1 t2 pt : Pos} {kt k2 : Nat} {pt2 : Pos} {k l : E} (hc : X.calm = true) (hv1 : PE X x1 (tVar i)) (hk1 : PE X y1 (tE S W (ev C k))) (hv2 : PE X x2 (tVar j)) (hk2 : PE X y2 (tE S W (ev C l)))
    (ha1 : ∀ v, assign (.Subscript x1 y1 t1) X.env v = (do
      let ov ← holding [v] (eval x1 X.env)
      let iv ← holding [v, ov] (eval y1 X.env)
      standAt t1
      holding [v, ov, iv] (setItem ov iv v)
      release [v, ov, iv] []))
    (ha2 : ∀ v, assign (.Subscript x2 y2 t2) X.env v = (do
      let ov ← holding [v] (eval x2 X.env)
      let iv ← holding [v, ov] (eval y2 X.env)
      standAt t2
      holding [v, ov, iv] (setItem ov iv v)
      release [v, ov, iv] []))
    (ha : PA X [a, b] (tL S W (evl C es))) (hw : swappedStores [.Tuple [.Subscript x1 y1 t1, .Subscript x2 y2 t2] kt pt] (.Tuple [a, b] k2 pt2) X.env = pure none) :
    PS X (.Assign [.Tuple [.Subscript x1 y1 t1, .Subscript x2 y2 t2] kt pt] (.Tuple [a, b] k2 pt2) pos) (tS S W (ex C th (.pars i k j l es))) := by
  refine PS.imp (L2.ps_asg (pe_tup ha) (pg_tup hc (pgs_cons (pg_sub hv1 hk1 set_list ha1) (pgs_cons (pg_sub hv2 hk2 set_list ha2) pgs_nil))) rfl hw) fun D σ H h => ?_
  obtain ⟨G, rfl, hd, ρ, h, R, o⟩ := h
  unfold ex at o
  refine thenL R o fun ps ρ1 h1 vs H1 r o1 => ?_
  match ps, o1, r with
  | [], o1, r => exact o1.elim
  | [(true, _)], o1, r => exact (show False from o1).elim
  | [(false, _)], o1, r => exact (show False from o1).elim
  | (true, _) :: (true, _) :: _ :: _, o1, r => exact (show False from o1).elim
  | (true, _) :: (false, _) :: _ :: _, o1, r => exact (show False from o1).elim
  | (false, _) :: (true, _) :: _ :: _, o1, r => exact (show False from o1).elim
  | (false, _) :: (false, _) :: _ :: _, o1, r => exact (show False from o1).elim
  | [(true, _), (true, _)], o1, r => exact (show False from o1).elim
  | [(true, _), (false, _)], o1, r => exact (show False from o1).elim
  | [(false, _), (true, _)], o1, r => exact (show False from o1).elim
  | [(false, d1), (false, d2)], o1, r =>
    have hl := r.len
    match vs, hl, r with
    | [], hl, _ => cases hl
    | [_], hl, _ => cases hl
    | _ :: _ :: _ :: _, hl, _ => cases hl
    | [v, w], _, r =>
      refine ⟨show 2 ≤ sizeLine by decide, fun ad n => ⟨ad, [v, w], rfl, .inl (.inl upd_same), rfl, v, [w], rfl, ?_⟩⟩
      obtain ⟨as, nd, fr, hb, R1, x⟩ := r.same (same_upd n)
      cases x with
      | sh r1 x =>
        cases x with
        | sh r2 x =>
          cases x
          have R1 : Rel G hd ρ1 h1 σ _ := R1
          have r1 := r1.anti (Z' := fun b => G.Z ρ1 σ hd b) fun b z => .inl z
          have r2 := r2.anti (Z' := fun b => G.Z ρ1 σ hd b) fun b z => .inl z
          obtain ⟨xs, e1, o2⟩ := thenO o1
          obtain ⟨c1, us, ea, _⟩ := R1.getM e1
          refine ⟨_, ea, thenE R1 o2 fun q ρ2 h2 kv H2 R2 s2 q2 o3 => ?_⟩
          obtain ⟨fr', kd⟩ := q
          cases kd with
          | int m1 =>
            obtain ⟨w1, e3, o4⟩ := thenO o3
            obtain ⟨c2, ys, j1, eb, h3, e4, R3, s3⟩ := R2.setSlS (Rp.stp s2 r1) e3
            rw [ea] at eb; cases eb
            refine ⟨c1, ys, m1, j1, rfl, q2.1.vint, h3, e4, w, [], rfl, ?_⟩
            obtain ⟨xs', e5, o5⟩ := thenO o4
            obtain ⟨c3, us', ea', _⟩ := R3.getM e5
            refine ⟨_, ea', thenE R3 o5 fun q' ρ4 h4 kv' H4 R4 s4 q4 o6 => ?_⟩
            obtain ⟨fr4, kd⟩ := q'
            cases kd with
            | int m2 =>
              cases e6 : PyD.setSl j (.int m2) d2 ρ4 h4 with
              | none => rw [e6] at o6; exact o6.elim
              | some w2 =>
                rw [e6] at o6
                obtain ⟨c4, zs, j2, ec, h5, e7, R5⟩ := R4.setSl (Rp.stp s4 (Rp.stp s3 (Rp.stp s2 r2))) e6
                rw [ea'] at ec; cases ec
                exact ⟨c3, zs, m2, j2, rfl, q4.1.vint, h5, e7, rfl, o6 hd σ _ (Hs.refl _) R5⟩
            | _ => unfold PyD.setSl at o6; exact o6.elim
          | _ => unfold PyD.setSl at o3; exact o3.elim
end
end PyD

/-! PyY: a lambda made, with one default or none; its call. (After HandS.Lambda; there: no default, and no word of what stays free.) -/
namespace PyD
open PySem L2 LamX

abbrev lamFd (q : Str) (params : Arguments) (body : Expr) (scope : Scope) (cl : List (Str × Addr)) (dV pm : Value) (c' : Value) (ctv : Value) : FuncData := { PySem.W.kla_fn "<lambda>" q params body scope cl pm c' ctv with defaults := dV }
abbrev lamOb (q : Str) (params : Arguments) (body : Expr) (scope : Scope) (cl : List (Str × Addr)) (dV pm : Value) (c' : Value) (ctv : Value) : Obj := { cls := .type "function", data := .func (lamFd q params body scope cl dV pm c' ctv) }
section
variable {M : Model} {A : Around} {E : Value → Shared → Prop} {s : Shared} {q : Str} {params : Arguments} {body : Expr} {scope : Scope} {env : PySem.Env} {c P : Addr} {ps : Array Value} {pos : Pos} {fl : Nat} {mg : Str → Option Value} {clos : List (Str × Addr)} {dV : Value} {Q : Value → Shared → Prop}
theorem mk_new (hcl : closureFor scope env = pure clos) (hge0 : env.globals = mainGlobals) (hg : s.heap.Ns mainGlobals mg) (hcode : env.code = .ref c) (Cd : PySem.W.CodeHd s.heap c P) (hP : s.heap.get? P = some { cls := .none, data := .fields ps }) (ht : TriplesOk ps.toList)
    (hnf : codeAmong pos ps.toList = none) (hgP : mainGlobals ≠ P) (hb : s.heap.BuiltinsAt mg P)
    (h : ∀ c' ctv h' tk, Heap.ExtBut P s.heap h' → s.heap.objs.size ≤ c' → c' < h'.objs.size → h'.CodeRec (.ref c') q → h'.get? P = some { cls := .none, data := .fields (ps ++ #[rawInt pos.line, rawInt pos.col, .ref c']) } →
      Q (.ref h'.objs.size) { s with heap := h'.push (lamOb q params body scope clos dV ((mg "__name__").getD .none) (.ref c') ctv), toks := tk }) :
    wpAny M A (makeTail "<lambda>" q params (.expr body) scope env dV .none none pos fl) Q E s := by
  obtain ⟨bm, ob, e1, e2, _, e3, e4, e5, e6, e7⟩ := hb
  unfold makeTail
  rw [hcl, hge0]
  refine wpAny_bind (wpAny_pure ?_)
  by_cases hn : clos = []
  · subst hn
    simp only [List.isEmpty_nil, if_true]
    refine wpAny_bind (wpAny_pure ?_)
    refine wpAny_bind (wpAny_functionCodeX hcode (Cd.code hP ht) (Cd.tab hP) hnf fun c' h' tk hx hge hlt _ hrec htb _ => ?_)
    have hg' := hg.extBut hx hgP
    refine wpAny_bind (wpAny_builtinsFor hg' e1 e2 (hx _ _ e3 e4) e5 e6 e7 (wpAny_bind (wpAny_nsGet hg' ?_)))
    exact wpAny_bind (wpAny_pure (wpAny_newObj_type (h c' .none h' tk hx hge hlt hrec htb.2) (by size_fits)))
  · have hi : clos.isEmpty = false := by cases clos <;> first | rfl | exact absurd rfl hn
    simp only [hi, Bool.false_eq_true, if_false]
    refine wpAny_bind (wpAny_newTextTuple ?_)
    have up : ∀ {oT : Obj}, ∀ b o, s.heap.get? b = some o → (s.heap.push oT).get? b = some o := fun b o e => Heap.get?_push_of_some _ e
    refine wpAny_bind (wpAny_functionCodeX hcode ((Cd.keeps up).code (up _ _ hP) ht) ((Cd.keeps up).tab (up _ _ hP)) hnf fun c' h' tk hx hge hlt _ hrec htb _ => ?_)
    have hg' := (hg.push _).extBut hx hgP
    have hx' : Heap.ExtBut P s.heap h' := fun b o hb' e => hx b o hb' (up _ _ e)
    have hge' : s.heap.objs.size ≤ c' := Nat.le_trans (by rw [Heap.size_push]; omega) hge
    refine wpAny_bind (wpAny_builtinsFor hg' e1 e2 (hx' _ _ e3 e4) e5 e6 e7 (wpAny_bind (wpAny_nsGet hg' ?_)))
    exact wpAny_bind (wpAny_pure (wpAny_newObj_type (h c' _ h' tk hx' hge' hlt hrec htb.2) (by size_fits)))
theorem mk_hit {cv : Value} (hcl : closureFor scope env = pure clos) (hge0 : env.globals = mainGlobals) (hg : s.heap.Ns mainGlobals mg) (hcode : env.code = .ref c) (Cd : PySem.W.CodeHd s.heap c P) (hP : s.heap.get? P = some { cls := .none, data := .fields ps }) (ht : TriplesOk ps.toList)
    (hf : codeAmong pos ps.toList = some cv) (hb : s.heap.BuiltinsAt mg P)
    (h : ∀ (ctv : Value) (h' : Heap) (tk : Tok), (∀ b o, s.heap.get? b = some o → h'.get? b = some o) → s.heap.objs.size ≤ h'.objs.size →
      Q (.ref h'.objs.size) { s with heap := h'.push (lamOb q params body scope clos dV ((mg "__name__").getD .none) cv ctv), toks := tk }) :
    wpAny M A (makeTail "<lambda>" q params (.expr body) scope env dV .none none pos fl) Q E s := by
  obtain ⟨bm, ob, e1, e2, _, e3, e4, e5, e6, e7⟩ := hb
  unfold makeTail
  rw [hcl, hge0]
  refine wpAny_bind (wpAny_pure ?_)
  by_cases hn : clos = []
  · subst hn
    simp only [List.isEmpty_nil, if_true]
    refine wpAny_bind (wpAny_pure (wpAny_bind (wpAny_functionCode_hit hcode (Cd.code hP ht) hf (wpAny_bind (wpAny_builtinsFor hg e1 e2 e4 e5 e6 e7 (wpAny_bind (wpAny_nsGet hg ?_)))))))
    exact wpAny_bind (wpAny_pure (wpAny_newObj_type (h .none s.heap s.toks (fun _ _ e => e) (Nat.le_refl _)) (by size_fits)))
  · have hi : clos.isEmpty = false := by cases clos <;> first | rfl | exact absurd rfl hn
    simp only [hi, Bool.false_eq_true, if_false]
    refine wpAny_bind (wpAny_newTextTuple ?_)
    have up : ∀ {oT : Obj}, ∀ b o, s.heap.get? b = some o → (s.heap.push oT).get? b = some o := fun b o e => Heap.get?_push_of_some _ e
    refine wpAny_bind (wpAny_functionCode_hit hcode ((Cd.keeps up).code (up _ _ hP) ht) hf (wpAny_bind (wpAny_builtinsFor (hg.push _) e1 e2 (up _ _ e4) e5 e6 e7 (wpAny_bind (wpAny_nsGet (hg.push _) ?_)))))
    have hsz : ∀ oT : Obj, s.heap.objs.size ≤ (s.heap.push oT).objs.size := fun oT => by rw [Heap.size_push]; omega
    exact wpAny_bind (wpAny_pure (wpAny_newObj_type (h _ _ s.toks up (hsz _)) (by size_fits)))
end
section
variable {X : Cx} {pins : List (Addr × Obj)} {σ : L2.St} {H HZ : Hp} {s s1 : Shared}
/-- what is known of a lambda that was made -/
structure LamAt (X : Cx) (T : List (Addr × Str)) (H : Hp) (q : Str) (params : Arguments) (body : Expr) (scope : Scope) (dV : Value) (f c' : Addr) (pm ctv : Value) (H1 : Hp) (s' : Shared) : Prop where
  ext : ExtN H H1
  there : ∀ a, H1 a = none → H a = none
  tabs : Tabs T H1
  obj : s'.heap.get? f = some (lamOb q params body scope (cloFrom X.env.cells scope.names []) dV pm (.ref c') ctv)
  free : H1 f = none
  nofr : f ∉ frs X.stack
  code : H1 c' = some (CodeO c' q)
theorem lam_tail {T : List (Addr × Str)} {c P : Addr} {q : Str} {params : Arguments} {body : Expr} {scope : Scope} {pos : Pos} {fl : Nat} {dV : Value} {E : Value → Shared → Prop} {Q : Value → Shared → Prop} (I : L2.Inv X pins σ H s) (TB : TabB X.base X.mg c P) (hcode : X.env.code = .ref c)
    (hm : (P, q) ∈ T) (hu : ∀ p ∈ T, p.1 = P → p.2 = q) (hT : Tabs T H) (hfree : ∀ y ∈ scope.names, y.2 = .free → ∃ c, X.env.cells.lookup y.1 = some c)
    (h : ∀ (f c' : Addr) (pm ctv : Value) (H1 : Hp) (s' : Shared), L2.Inv X pins σ H1 s' → LamAt X T H q params body scope dV f c' pm ctv H1 s' → Q (.ref f) s') :
    wpAny (model X.prog X.w) X.A (makeTail "<lambda>" q params (.expr body) scope X.env dV .none none pos fl) Q E s := by
  obtain ⟨ps, hP, ht, ha⟩ := hT _ hm
  have bP : s.heap.BuiltinsAt X.mg P := TB.bm.keeps I.bk
  have hP' : s.heap.get? P = some { cls := .none, data := .fields ps } := I.hok P _ hP
  have nofr : ∀ f, s.heap.objs.size ≤ f → f ∉ frs X.stack := fun f hf z => by
    rcases List.mem_cons.mp (I.stkSub _ z) with e | e
    · have h1 := I.lt
      rw [← e] at h1
      exact Nat.lt_irrefl _ (Nat.lt_of_lt_of_le h1 hf)
    · exact I.nofs hf e
  cases hc : codeAmong pos ps.toList with
  | some cv =>
    obtain ⟨c', e, hco⟩ := ha pos cv hc
    subst e
    refine mk_hit (mg := X.mg) (closure_ok hfree) I.ok.glob (I.mod.glob.keeps I.bk) hcode (TB.code.keeps I.bk) hP' ht hc bP fun ctv h' tk hx hsz => ?_
    have I1 : L2.Inv X pins σ H { s with heap := h'.push (lamOb q params body scope (cloFrom X.env.cells scope.names []) dV ((X.mg "__name__").getD .none) (.ref c') ctv), toks := tk } := I.kept fun b o e => Heap.get?_push_of_some _ (hx b o e)
    exact h h'.objs.size c' ((X.mg "__name__").getD .none) ctv H _ I1 ⟨ExtN.refl H, fun _ e => e, hT, Heap.get?_push_size _ rfl, I.hok.fresh hsz, nofr _ hsz, hco⟩
  | none =>
    refine mk_new (mg := X.mg) (closure_ok hfree) I.ok.glob (I.mod.glob.keeps I.bk) hcode (TB.code.keeps I.bk) hP' ht hc TB.gP bP fun c' ctv h' tk hx hge hlt hrec htb => ?_
    obtain ⟨c2, oc, vs, t, e2, hoc, hd, hv⟩ := hrec
    cases e2
    have hsz : s.heap.objs.size ≤ h'.objs.size := Nat.le_trans hge (Nat.le_of_lt hlt)
    have nC : H c' = none := I.hok.fresh hge
    have I1 := inv_table (t' := tk) (more := #[rawInt pos.line, rawInt pos.col, .ref c']) (h' := h'.push (lamOb q params body scope (cloFrom X.env.cells scope.names []) dV ((X.mg "__name__").getD .none) (.ref c') ctv)) I hP
      (fun b o hb e => Heap.get?_push_of_some _ (hx b o hb e)) (Heap.get?_push_of_some _ htb) hge ⟨oc, vs, t, Heap.get?_push_of_some _ hoc, hd, hv⟩
    have hE : ExtN H (L2.upd (L2.upd H P (.tbl (ps ++ #[rawInt pos.line, rawInt pos.col, .ref c']))) c' (CodeO c' q)) := fun b o e n => by
      rw [upd_ne (ne_of_none e nC), upd_ne (fun z => n ps (Option.some.inj (e.symm.trans (by rw [z]; exact hP))))]
      exact e
    have eL : (ps ++ #[rawInt pos.line, rawInt pos.col, .ref c']).toList = ps.toList ++ [rawInt pos.line, rawInt pos.col, .ref c'] := by simp
    refine h h'.objs.size c' ((X.mg "__name__").getD .none) ctv _ _ I1 ⟨hE, fun a e => ?_, fun p hp => ?_, Heap.get?_push_size _ rfl, ?_, nofr _ hsz, upd_same⟩
    · by_cases h1 : a = c'
      · rw [h1]; exact nC
      · rw [upd_ne h1] at e
        by_cases h2 : a = P
        · rw [h2, upd_same] at e; cases e
        · rw [upd_ne h2] at e; exact e
    · by_cases hb : p.1 = P
      · rw [hu p hp hb, hb]
        refine ⟨_, by rw [upd_ne (ne_of_none hP nC), upd_same], by rw [eL]; exact PySem.TriplesOk_snoc _ _ _ _ ht, fun p' cv hcv => ?_⟩
        rw [eL] at hcv
        rcases among_app _ ht hcv with z | z
        · obtain ⟨c0, e1, e2⟩ := ha p' cv z
          exact ⟨c0, e1, hE _ _ e2 codeO_ne⟩
        · exact ⟨c', z, upd_same⟩
      · obtain ⟨ps', a1, a2, a3⟩ := hT p hp
        refine ⟨ps', by rw [upd_ne (ne_of_none a1 nC), upd_ne hb]; exact a1, a2, fun p' cv hcv => ?_⟩
        obtain ⟨c0, e1, e2⟩ := a3 p' cv hcv
        exact ⟨c0, e1, hE _ _ e2 codeO_ne⟩
    · have n1 : h'.objs.size ≠ c' := Nat.ne_of_gt hlt
      have n2 : h'.objs.size ≠ P := Nat.ne_of_gt (Nat.lt_of_lt_of_le (Heap.lt_size hP') hsz)
      rw [upd_ne n1, upd_ne n2]
      exact I.hok.fresh hsz
end
end PyD

/-! PyZ: a lambda's call from within the def that got it. (After HandS.Lambda.) -/
namespace PyD
open PySem L2 LamX

/-- the lambda's parameters: none, or one with a whole number for its default -/
inductive LamP : Arguments → Option (Str × Int) → Prop
  | no : LamP ⟨[], [], none, [], [], none, []⟩ none
  | one {a : PySem.Arg} {n : Int} {k : Nat} {p : Pos} : LamP ⟨[], [a], none, [], [], none, [.Constant (.int n) k p]⟩ (some (a.arg, n))
/-- the default's tuple -/
def DefAt (od : Option (Str × Int)) (dV : Value) (H : Hp) : Prop := match od with
  | none => dV = .none
  | some (_, n) => ∃ d, dV = .ref d ∧ H d = some (.tup [.int n])
theorem DefAt.mv {od : Option (Str × Int)} {dV : Value} {H H' : Hp} (h : DefAt od dV H) (ht : ∀ a xs, H a = some (.tup xs) → H' a = some (.tup xs)) : DefAt od dV H' := by
  cases od with
  | none => exact h
  | some p => obtain ⟨d, e1, e2⟩ := h; exact ⟨d, e1, ht _ _ e2⟩
/-- no cell of its own; its local names are not the maker's -/
structure LamG (sc scope : Scope) (N : List Str) (od : Option (Str × Int)) : Prop where
  kind : scope.kind = .function
  co : scope.isCoroutine = false
  gen : scope.isGenerator = false
  cell : ∀ y ∈ scope.names, y.2 ≠ .cell
  own : ∀ y ∈ scope.names, y.2 = .local → y.1 ∉ N
  free : ∀ y ∈ scope.names, y.2 = .free → sc.names.lookup y.1 = some .cell ∨ sc.names.lookup y.1 = some .free
  par : ∀ a n, od = some (a, n) → scope.names.lookup a = some .local
section
variable {X : Cx} {pins : List (Addr × Obj)} {σ : L2.St} {H HZ : Hp} {s s1 : Shared} {scope : Scope} {od : Option (Str × Int)} {params : Arguments} {body : Expr} {dV : Value}
theorem LamG.has (L : LamG X.env.scope scope X.N od) (ok : X.Ok) : ∀ y ∈ scope.names, y.2 = .free → ∃ c, X.env.cells.lookup y.1 = some c := fun y hy e => by
  rcases L.free y hy e with k | k
  · exact ok.has _ (.inl k)
  · exact ok.has _ (.inr k)
theorem lam_eval {T : List (Addr × Str)} {c P : Addr} {q : Str} {pos : Pos} {E : Value → Shared → Prop} {Q : Value → Shared → Prop} (lp : LamP params od) (I : L2.Inv X pins σ H s) (TB : TabB X.base X.mg c P) (hcode : X.env.code = .ref c) (hq : q = X.env.qual ++ "<lambda>")
    (hm : (P, q) ∈ T) (hu : ∀ p ∈ T, p.1 = P → p.2 = q) (hT : Tabs T H) (L : LamG X.env.scope scope X.N od)
    (h : ∀ (f c' : Addr) (dV pm ctv : Value) (H1 : Hp) (s' : Shared), L2.Inv X pins σ H1 s' → LamAt X T H q params body scope dV f c' pm ctv H1 s' → DefAt od dV H1 → Q (.ref f) s') :
    wpAny (model X.prog X.w) X.A (eval (.Lambda params body scope pos) X.env) Q E s := by
  subst hq
  have hfree := L.has I.ok
  cases lp with
  | no =>
    rw [arm_eval_Lambda]
    show wpAny _ X.A (do let dv ← evalAll []; let kdv ← holding dv (evalAllOpt []); makeFunction "<lambda>" (X.env.qual ++ "<lambda>") _ (.expr body) scope X.env dv kdv [] pos pos.line) Q E s
    refine wpAny_bind (wpAny_pure (wpAny_bind (wpAny_holding (wpAny_pure ?_))))
    rw [makeFunction_eq]
    simp only [List.zip_nil_right, List.filterMap_nil, List.isEmpty_nil, if_true, pure_bind]
    exact lam_tail I TB hcode hm hu hT hfree fun f c' pm ctv H1 s' I1 la => h f c' .none pm ctv H1 s' I1 la rfl
  | one =>
    rename_i a n k p
    rw [arm_eval_Lambda]
    show wpAny _ X.A (do let dv ← evalAll [eval (.Constant (.int n) k p) X.env]; let kdv ← holding dv (evalAllOpt []); makeFunction "<lambda>" (X.env.qual ++ "<lambda>") _ (.expr body) scope X.env dv kdv [] pos pos.line) Q E s
    refine wpAny_bind (wpAny_evalAll_cons (wpAny_Constant_int (wpAny_evalAll_nil (wpAny_bind (wpAny_holding (wpAny_pure ?_))))))
    rw [makeFunction_eq]
    simp only [List.zip_nil_right, List.filterMap_nil, List.isEmpty_nil, List.isEmpty_cons, Bool.false_eq_true, if_false, if_true, pure_bind]
    refine wpAny_bind (wpAny_newTextTuple ?_)
    have I0 : L2.Inv X pins σ (L2.upd H s.heap.objs.size (.tup [.int n])) { s with heap := s.heap.push { cls := .type "tuple", data := .seq [Value.int n s.toks].toArray }, toks := s.toks + 1 } := by
      refine I.laid (t' := s.toks + 1) (fun _ _ e => Heap.get?_push_of_some _ e) (Nat.le_refl _) ⟨by show 1 ≤ sizeLine; decide, [.int n s.toks], .cons ⟨_, rfl⟩ .nil, ?_⟩
      exact ⟨_, Heap.get?_push_size _ rfl, rfl, _, rfl⟩
    have nd : H s.heap.objs.size = none := I.hok.fresh (Nat.le_refl _)
    have sm := same_upd (H := H) (o := .tup [.int n]) nd
    refine lam_tail I0 TB hcode hm hu (hT.ext sm) hfree fun f c' pm ctv H1 s' I1 la => h f c' _ pm ctv H1 s' I1 ⟨fun b o e t => la.ext b o (sm b o e) t, fun a e => Same.free sm (la.there a e), la.tabs, la.obj, la.free, la.nofr, la.code⟩ ⟨_, rfl, la.ext _ _ upd_same fun ps z => by cases z⟩
/-- what the lambda binds when it is called with nothing -/
theorem lam_binds {q : Str} {cl : List (Str × Addr)} {pm c' ctv : Value} (lp : LamP params od) (I : L2.Inv X pins σ HZ s) (hd : DefAt od dV HZ) : ∃ binds : List (Str × Value), BindsTo s (lamFd q params body scope cl dV pm c' ctv) ⟨[], []⟩ binds ∧ ∀ y ∈ binds, ∃ n, od = some (y.1, n) := by
  cases lp with
  | no =>
    have hd : dV = .none := hd
    subst hd
    exact ⟨[], .of_eq rfl, fun y hy => by cases hy⟩
  | one =>
    rename_i a n k p
    obtain ⟨d, rfl, e2⟩ := hd
    obtain ⟨_, its, rv, o, ho, hc, m, hdt⟩ := I.hok d _ e2
    obtain ⟨u, rfl, _⟩ := rv.one
    refine ⟨[(a.arg, u)], .of_defaults rfl ho hdt rfl ?_, fun y hy => ?_⟩
    · simp [List.lookup]
    · have : y = (a.arg, u) := by simpa using hy
      subst this
      exact ⟨n, rfl⟩
theorem lam_startG {A : Around} {outer : List PySem.Env} {E : XK} {f c' : Addr} {h₁ : Heap} {tk : Nat} {mm : Str → Option Value} (I : L2.Inv X pins σ H s) (L : LamG X.env.scope scope X.N od) (e0 : Env0 X.prog X.w X.K X.mg X.base A outer s1 HZ) (hd : A.handled = none)
    (un : Un (frs X.stack) [] H HZ s.heap s1.heap) (hns : h₁.Ns s1.heap.objs.size mm) (kp : ∀ b o, s1.heap.get? b = some o → h₁.get? b = some o) :
    L2.Inv (lamCx X A outer s1 HZ E scope f c') [] σ HZ { s1 with heap := h₁, toks := tk } := by
  have hfree := L.has I.ok
  have cm : ∀ {y c}, (cloFrom X.env.cells scope.names []).lookup y = some c → X.env.cells.lookup y = some c := fun {y c} e => by
    rcases cloFrom_mem (PySem.mem_of_lookup e) with hm | ⟨h1, h2⟩
    · cases hm
    · obtain ⟨c1, hc⟩ := hfree _ h1 rfl
      have hc : X.env.cells.lookup y = some c1 := hc
      have e2 : c = c1 := by
        rw [h2, hc] <;> rfl
      rw [e2]
      exact hc
  have look : ∀ {y}, scope.names.lookup y = some .free → ∃ c, (cloFrom X.env.cells scope.names []).lookup y = some c := fun {y} hl => mem_lookup (cloFrom_has (cells := X.env.cells) (acc := []) (show (y, NameKind.free) ∈ scope.names from PySem.mem_of_lookup hl))
  have cellK : ∀ {c : Addr} {v : Option Value}, H c = none → s.heap.IsCell c v → h₁.IsCell c v := fun {c v} n ⟨o, ho, hd⟩ => by
    obtain ⟨sl, q⟩ := un.any ho n (by simp)
    exact ⟨_, kp _ _ q, hd⟩
  have noA : ∀ b : Addr, b ∉ (lamCx X A outer s1 HZ E scope f c').ex := fun b z => absurd (show b ∈ ([] : List Addr) from z) (by simp)
  refine ⟨⟨e0.mod, L.kind, rfl, rfl, Nat.le_refl _, fun y z c e1 e2 => I.ok.inj y z c (cm e1) (cm e2), fun y hy => ?_, fun y c z _ => ?_, fun _ => hd, Around.frames_deeper e0.frames, .inr ⟨rfl, rfl⟩, fun b z => absurd z (noA b), e0.bs, e0.bsz, fun b _ _ => noA b,
      fun b z => absurd z (noA b), e0.funs, e0.frf⟩,
    rfl, e0.bare, Un.kept kp, ⟨_, hns, fun i y v e1 e2 e3 => ?_⟩, fun y c e => ?_, e0.hok.fresh (Nat.le_refl _), fun y c e => ?_, fun q hq => absurd (show q ∈ ([] : List (Addr × Obj)) ++ [] from hq) (by simp), e0.hok.kept kp, I.len⟩
  · have hy : scope.names.lookup y = some .cell ∨ scope.names.lookup y = some .free := hy
    rcases hy with hy | hy
    · exact absurd rfl (L.cell _ (PySem.mem_of_lookup hy))
    · exact look hy
  · have z : false = true := z
    cases z
  · have e3 : Vis scope y := e3
    rcases e3 with k | k | k
    · exact absurd (List.mem_of_getElem? e1) (L.own _ (PySem.mem_of_lookup k) rfl)
    · exact absurd rfl (L.cell _ (PySem.mem_of_lookup k))
    · obtain ⟨m, hn, hl⟩ := I.loc
      have hvis : Vis X.env.scope y := (L.free _ (PySem.mem_of_lookup k) rfl).elim (fun k => .inr (.inl k)) (fun k => .inr (.inr k))
      obtain ⟨w', r, q⟩ := hl i y v e1 e2 hvis
      obtain ⟨c2, h2⟩ := look k
      refine ⟨w', r, .inr ⟨.inr k, c2, h2, ?_⟩⟩
      have c1 := cm h2
      rcases q with ⟨k', _⟩ | ⟨_, c3, e', z⟩
      · have k' : X.env.scope.names.lookup y = some .local := k'
        rcases L.free _ (PySem.mem_of_lookup k) rfl with k2 | k2 <;> rw [show X.env.scope.names.lookup y = _ from k2] at k' <;> cases k'
      · rw [c1] at e'
        cases e'
        exact cellK (I.freeC y _ c1) z
  · obtain ⟨w', z⟩ := I.cell y c (cm e)
    exact ⟨w', cellK (I.freeC y c (cm e)) z⟩
  · obtain ⟨v, o, ho, hd⟩ := I.cell y c (cm e)
    exact un.free c o ho (I.freeC y c (cm e)) (by simp)
/-- x(), in the def that got the lambda: that def's context, entered at s -/
theorem act_call {CXg : CXT} {Eg : XK} {Ng : List Str} {qg q : Str} {sg : Scope} {g f c' : Addr} {cdg pm ctv : Value} {k i : Nat} {a : Str} {pn : List (Addr × Obj)} {xe : Value → Shared → Prop} {W : WX} {tb : XK → TE} {p1 p2 : Pos} (lp : LamP params od) (hq : q = X.env.qual ++ "<lambda>")
    (I : L2.Inv X pins σ H s) (L : LamG X.env.scope scope X.N od) (hf : s.heap.get? f = some (lamOb q params body scope (cloFrom X.env.cells scope.names []) dV pm (.ref c') ctv)) (hfn : H f = none) (hfr : f ∉ frs X.stack)
    (tk : Takes ((cxOf CXg X.prog X.w X.K X.mg X.base Ng qg sg g cdg X.A X.stack s H Eg).tr pn xe) W) (hr : Room (k + 1) (X.A.deeper (PyProof.Rows.envOfC qg sg s.heap.objs.size g cdg)))
    (hbody : ∀ (E : XK) (A : Around) (outer : List PySem.Env) (s : Shared) (H : Hp), A.guards = X.A.guards → Room k (A.deeper (lamEnv X scope s.heap.objs.size f c')) → PE (lamCx X A outer s H E scope f c') body (tb E))
    (hN : Ng[i]? = some a) (hv : Vis sg a) (hd : (a == ("__debug__" : Str)) = false) (hcd : (a == ("__classdict__" : Str)) = false) :
    PE ((cxOf CXg X.prog X.w X.K X.mg X.base Ng qg sg g cdg X.A X.stack s H Eg).tr pn xe) (.Call (.Name a p1) [] [] p2)
      (fun σZ HZ Q => ∃ E : XK, (∀ cls d H', E cls d H' → W cls d σZ H') ∧ σZ[i]? = some (some (.ref f)) ∧ HZ c' = some (CodeO c' q) ∧ DefAt od dV HZ ∧ tb E σ HZ Q) := by
  refine ⟨fun pinsZ sZ σZ HZ Q IZ h => ?_⟩
  obtain ⟨E, hW, hs, hc, hdf, ht⟩ := h
  refine wpAny_Call_Name_kw (thn ((pe_var (pos := p1) (i := i) hN hv hd hcd).run pinsZ sZ σZ HZ (fun v H1 => v = .ref f ∧ H1 = HZ) IZ ⟨.ref f, hs, rfl, rfl⟩) fun u s1 ⟨v, H1, I1, r1, q1⟩ => ?_)
  obtain ⟨ev, eH⟩ := q1
  subst ev
  rw [eH] at I1
  obtain rfl : u = Value.ref f := r1
  have of1 : s1.heap.get? f = some (lamOb q params body scope (cloFrom X.env.cells scope.names []) dV pm (.ref c') ctv) := I1.base.keep f _ hf hfn hfr (fun z => nomatch (show f ∈ ([] : List Addr) from z))
  refine PySem.W.callWith_F0 ⟨_, _, _, _, of1⟩ ?_
  have un : Un (frs X.stack) [] H HZ s.heap s1.heap := I1.base
  obtain ⟨⟨oc, vs, t, hoc, hdc, hvc⟩, _, _⟩ := I1.hok c' _ hc
  obtain ⟨binds, hb, hbl⟩ := lam_binds (q := q) (body := body) (scope := scope) (cl := cloFrom X.env.cells scope.names []) (pm := pm) (c' := .ref c') (ctv := ctv) lp I1 hdf
  have rc : codeAny (model X.prog X.w) (X.A.deeper (PyProof.Rows.envOfC qg sg s.heap.objs.size g cdg)) (.call (.ref f) ⟨[], []⟩) (CR (L2.CX X.prog X.w) (PyProof.Rows.envOfC qg sg s.heap.objs.size g cdg :: X.stack) X.prog X.w HZ s1 Q E) s1 := by
    refine PySem.W.kla_callFunE hr.depth of1 rfl L.co L.gen rfl ⟨c', oc, vs, t, rfl, hoc, hdc, hvc⟩ (hb _ _ _ _ ?_)
    refine wpAny_newFunctionEnv (fun y hy => L.cell y hy) (fun y hy => ?_) (fun h₁ hns hsb => ⟨I1.nolimit.fresh _ hsb, ?_⟩) L.kind
    · obtain ⟨n, e⟩ := hbl y hy
      exact L.par _ _ e
    · show codeAny _ _ (.expr body _) _ _
      subst hq
      have kp : ∀ b o, s1.heap.get? b = some o → h₁.get? b = some o := fun b o e => hsb.extBut b o (Nat.ne_of_lt (Heap.lt_size e)) (Heap.get?_push_of_some _ e)
      have J : L2.Inv (lamCx X (X.A.deeper (PyProof.Rows.envOfC qg sg s.heap.objs.size g cdg)) (PyProof.Rows.envOfC qg sg s.heap.objs.size g cdg :: X.stack) s1 HZ E scope f c') [] σ HZ { s1 with heap := h₁, toks := s1.toks + binds.length } :=
        lam_startG I L I1.env0 hr.hd un hns kp
      refine PySem.W.kla_codeExpr (wpAny_mono ((hbody E (X.A.deeper (PyProof.Rows.envOfC qg sg s.heap.objs.size g cdg)) (PyProof.Rows.envOfC qg sg s.heap.objs.size g cdg :: X.stack) s1 HZ rfl (hr.deeper _)).run [] _ _ HZ Q J ht) (fun v s' hq => ?_) fun e s' hq => hq)
      obtain ⟨w', H', J', rv, q⟩ := hq
      exact ⟨w', H', J'.os, J'.bare, J'.base, J'.hok, rv, q⟩
  refine wpAny_call (codeAny_mono rc fun r s' hq => ?_)
  cases r with
  | error e => exact tk e s' (XE.of_call I1 hW hq)
  | ok fl =>
    cases fl with
    | ret u => exact I1.after hq
    | next => exact False.elim hq
    | brk => exact False.elim hq
    | cont => exact False.elim hq
end
end PyD

/-! PyQ2: what a def promises that calls a lambda and tells its error; a call of such a def; isinstance of the caught error. -/
namespace PyD
open PySem L2 LamX

/-- the promise of a def x(call): try: call() except .. -/
def TdG (S : Sx) (P : Program) (w : World) (K : PySem.W.Frag) (mg : Str → Option Value) (base : Heap) (j : Nat) (x : Str) (ct : (Hand → Cr) → Hand → Cr) : Prop :=
  ∃ (g : Addr) (pg : Arguments) (bg : List Stmt) (sg : Scope) (dV kV doc pm cdv ctt oc : Value) (an od : Option Addr) (osl : Array (Option Value)) (Ng : List Str) (a : Str),
    mg x = some (.ref g) ∧ PySem.W.keepIn K (.ref g) = true ∧ K.lookup g = some ⟨oc, od, .func (PySem.W.fnOf x x pg bg sg dV kV doc pm an cdv ctt), osl⟩ ∧ PySem.W.codeIn K cdv x = true ∧
    Binds K (PySem.W.fnOf x x pg bg sg dV kV doc pm an cdv ctt) [a] [] ∧ FnScope Ng [a] sg ∧ Ng[0]? = some a ∧ Vis sg a ∧ (a == ("__debug__" : Str)) = false ∧ (a == ("__classdict__" : Str)) = false ∧
    ∀ (A : Around) (st : List PySem.Env) (f c' : Addr) (q : Str) (od' : Option (Str × Int)) (dV' : Value) (s : Shared) (H : Hp) (Q : VK) (tl : XK → Hp → VK → Prop), A.guards = some [] → Room j (A.deeper (PyProof.Rows.envOfC x sg s.heap.objs.size g cdv)) →
      (∀ (W : WX) (pn : List (Addr × Obj)) (xe : Value → Shared → Prop) (p1 p2 : Pos), Takes ((cxOf C8.CX0 P w K mg base Ng x sg g cdv A st s H C8.E0).tr pn xe) W →
        PE ((cxOf C8.CX0 P w K mg base Ng x sg g cdv A st s H C8.E0).tr pn xe) (.Call (.Name a p1) [] [] p2) (fun σZ HZ Q => ∃ E : XK, (∀ cls d H', E cls d H' → W cls d σZ H') ∧ σZ[0]? = some (some (.ref f)) ∧ HZ c' = some (CodeO c' q) ∧ DefAt od' dV' HZ ∧ tl E HZ Q)) →
      H c' = some (CodeO c' q) → DefAt od' dV' H → ∀ (Z : Addr → Prop) (hd : Option Addr) (h : Hand) (t : Hand → Cr), HndOk S.K H Z hd h → (∀ a, hd = some a → Z a) → (∀ a, Z a → H a ≠ none) → Tabs S.T H →
      (∀ h' H' Q' E', After S Z hd H H' h' → H' c' = some (CodeO c' q) → DefAt od' dV' H' → CrPost S Z hd H' Q' E' (t h') → tl E' H' Q') → CrPost S Z hd H Q (fun _ _ _ => False) (ct t h) →
      ∃ t', PSs (cxOf C8.CX0 P w K mg base Ng x sg g cdv A st s H C8.E0).nox bg t' ∧ t' { nx := fun _ H' => Q .non H', rt := Q } (L2.start Ng [.ref f]) H
section
variable {G : Gh} {hd : Option Addr} {ρ : Env} {h h' : Hand} {σ : L2.St} {H1 H : Hp}
/-- the ghosts of a lambda's body -/
def lamGh (G : Gh) (ρ : Env) (σ : L2.St) (hd : Option Addr) (H : Hp) : Gh := { S := G.S, Zc := G.Z ρ σ hd, H0 := H, M0 := fun a => hd = some a, Bz := G.Z ρ σ hd, hd0 := hd }
theorem lend_noOwn (ρ : Env) : NoOwn (lend ρ) := fun i d e => lend_no ρ e
theorem lend_rel (R : Rel G hd ρ h σ H) : Rel (lamGh G ρ σ hd H) hd (lend ρ) h σ H := by
  have mo : ∀ {a : Addr}, Mo (lend ρ) σ hd a ↔ hd = some a := (lend_noOwn ρ).mo
  have zz : ∀ a, ((lamGh G ρ σ hd H).Zc a ∨ Mo (lend ρ) σ hd a) → G.Z ρ σ hd a := fun a z => z.elim id fun m => .inr (.inl (mo.mp m))
  have rt : ∀ {a : Addr} {d : PyData}, Root G.K H (G.Z ρ σ hd) a d → Root G.K H (fun a => (lamGh G ρ σ hd H).Zc a ∨ Mo (lend ρ) σ hd a) a d := fun {a d} r => r.mv (fun _ e _ _ => e) (fun _ _ e _ _ => e) (fun b _ z => zz b z) (fun _ _ e => e) (fun _ _ _ e => e)
  refine ⟨by unfold lend; rw [List.length_map]; exact R.len, fun i s e => ?_, fun i j d d' a e _ _ _ => absurd e (lend_noOwn ρ i d), ?_, ⟨fun a o e _ _ => e, fun a m => .inl (mo.mp m), fun _ e => e, fun _ _ e => e, fun _ _ _ e => e⟩, fun a e => e, R.tabs, R.zall, fun a z => z⟩
  · unfold lend at e
    rw [List.getElem?_map] at e
    cases q0 : ρ[i]? with
    | none => rw [q0] at e; cases e
    | some s0 =>
      rw [q0] at e
      have so := R.slot i s0 q0
      cases s0 with
      | non => cases e; trivial
      | sh d =>
        cases e
        obtain ⟨v, e1, r⟩ := so
        exact ⟨v, e1, r.anti zz⟩
      | own d =>
        cases e
        obtain ⟨a, e1, r, _, _, nh⟩ := so
        exact ⟨a, e1, rt r, fun m => nh (mo.mp m), .inr (.inr ⟨i, d, q0, e1⟩)⟩
      | bor d =>
        cases e
        obtain ⟨a, e1, r, nm, az⟩ := so
        exact ⟨a, e1, rt r, fun m => nm (.inl (mo.mp m)), .inl (R.bz _ az)⟩
      | fn k => cases e; exact so
      | hnd => cases e; exact so
      | exc c => cases e; exact so
      | scr ds =>
        cases e
        obtain ⟨a, ys, e1, f, l, q3⟩ := so
        exact ⟨a, ys, e1, f, l, q3.anti zz⟩
  · exact HndOk.mv (fun a o e _ _ => e) (fun a o e _ _ => e) (fun a _ z => zz a z) (fun _ _ e => e) (fun _ _ _ e => e) R.hnd
end
section
variable {X : Cx} {S : Sx} {W : WX} {C : Cl} {b : Expr} {params : Arguments} {scope : Scope} {od : Option (Str × Int)} {x q : Str} {c P : Addr} {j k : Nat} {p lpos pos : Pos} {body : E}
theorem s_lamc (td : TdG S X.prog X.w X.K X.mg X.base j x (C.ft k)) (lp : LamP params od) (TB : TabB X.base X.mg c P) (hcode : X.env.code = .ref c) (hq : q = X.env.qual ++ "<lambda>") (hmT : (P, q) ∈ S.T) (hu : ∀ p ∈ S.T, p.1 = P → p.2 = q) (hr : Room (j + 2) X.A) (hgd : X.A.guards = some [])
    (L : LamG X.env.scope scope X.N od) (hg : Gl X x) (hdb : (x == ("__debug__" : Str)) = false)
    (hbody : ∀ (A : Around) (outer : List PySem.Env) (s : Shared) (H : Hp) (E : XK) (f c' : Addr), A.guards = some [] → Room j (A.deeper (lamEnv X scope s.heap.objs.size f c')) → PE (lamCx X A outer s H E scope f c') b (tE S (fun cls d _ H => E cls d H) (ev C body))) :
    PE X (.Call (.Name x p) [.Lambda params b scope lpos] [] pos) (tE S W (ev C (.lamc k body))) := by
  refine ⟨fun pins s σ H Q I h => ?_⟩
  obtain ⟨G, rfl, hd, ρ, h, R, oo⟩ := h
  unfold ev at oo
  obtain ⟨g, pg, bg, sg, dV, kV, doc, pm, cdv, ctt, oc, an, od2, osl, Ng, a, hm, hk, lk, hcg, hb, Sg, hNg, hva, hda, hca, gives⟩ := td
  refine wpAny_Call_Name_kw (ld_glob I hg hm ?_ hdb)
  refine PySem.W.callWith_K (h₀ := X.base) I.ok.mod.kin hk ?_ (by rfl) (by rfl)
  show wpAny _ _ (spliced ((false, eval (.Lambda params b scope lpos) X.env) :: backTo pos (starEach [] X.env))) _ _ s
  refine Calls.spliced_cons (lam_eval lp I TB hcode hq hmT hu R.tabs L fun f c' dV' pm' ctv H1 s' I1 la df => ?_)
  refine Calls.spliced_nil ⟨I1.kIn, ?_⟩
  -- the frame, the lambda made
  have st1 : Stp (fun a => hd = some a) H (fun a => hd = some a) H1 := ⟨fun a o e _ t => la.ext a o e t, fun a z => .inl z, la.there, fun a xs e => la.ext _ _ e (fun ps z => by cases z), fun a o u e => la.ext _ _ e (fun ps z => by cases z)⟩
  have hh1 : HndOk G.K H1 (G.Z ρ σ hd) hd h := R.hnd.mv (fun a o e _ t => la.ext a o e t) (fun a o e _ t => la.ext a o e t) (fun _ _ z => z) (fun a xs e => la.ext _ _ e (fun ps z => by cases z)) fun a o u e => la.ext _ _ e (fun ps z => by cases z)
  have R1 : Rel G hd ρ h σ H1 := R.move st1 hh1 la.tabs
  have rc : codeAny (model X.prog X.w) X.A (.call (.ref g) ⟨[.ref f], []⟩) (CR C8.CX0 X.stack X.prog X.w H1 s' Q C8.E0) s' := by
    refine run_ofS (k := j + 1) (N := Ng) (ps := [a]) (us := [.ref f]) (vs := [.ref f]) lk hcg Sg hr I1.env0 (hb s' [.ref f] I1.kIn rfl) (.cons rfl .nil) rfl fun hr' => ?_
    have o1 := call_out R1 (W := W) (Q := Q) (Out.from oo ⟨fun a o e _ t => la.ext a o e t, fun a z => .inl z, st1.there, st1.tups, st1.frzs⟩)
    have post : CrPost G.S (G.Z ρ σ hd) hd H1 Q (fun _ _ _ => False) (C.ft k (fun h' => crOf (ev C body (lend ρ) h')) h) := by
      cases e : C.ft k (fun h' => crOf (ev C body (lend ρ) h')) h with
      | ok fr d h2 => rw [e] at o1; exact o1
      | exc c2 h2 => rw [e] at o1; exact (show False from o1).elim
      | fail => rw [e] at o1; exact (show False from o1).elim
    have link : ∀ h' H' Q' E', After G.S (G.Z ρ σ hd) hd H1 H' h' → H' c' = some (CodeO c' q) → DefAt od dV' H' → CrPost G.S (G.Z ρ σ hd) hd H' Q' E' (crOf (ev C body (lend ρ) h')) → tE G.S (fun cls d _ H => E' cls d H) (ev C body) σ H' Q' := fun h' H' Q' E' af _ _ post => by
      have R' : Rel G hd ρ h' σ H' := R1.move af.st af.hh af.tb
      refine ⟨lamGh G ρ σ hd H', rfl, hd, lend ρ, h', lend_rel R', ?_⟩
      have after : ∀ {ρ2 : Env} {h2 : Hand} {H2 : Hp}, Rel (lamGh G ρ σ hd H') hd ρ2 h2 σ H2 → After G.S (G.Z ρ σ hd) hd H' H2 h2 := fun {ρ2 h2 H2} R2 =>
        ⟨R2.stp.moreM fun a e => .inl e, HndOk.mv (fun a o e _ _ => e) (fun a o e _ _ => e) (fun a _ z => .inl z) (fun _ _ e => e) (fun _ _ _ e => e) R2.hnd, R2.tabs⟩
      cases e : ev C body (lend ρ) h' with
      | ok p ρ2 h2 =>
        rw [e] at post
        exact fun H2 R2 _ v r => post v H2 (after R2) (r.1.anti fun a z => .inl z) fun z => by cases z
      | exc c2 ρ2 h2 =>
        rw [e] at post
        exact fun H2 R2 => post H2 (after R2)
      | fail => rw [e] at post; exact post
    have key := gives X.A X.stack f c' q od dV' s' H1 Q (fun E H' Q' => tE G.S (fun cls d _ H => E cls d H) (ev C body) σ H' Q') hgd (hr'.mono (Nat.le_succ j))
      (fun W pn xe p1 p2 tk => act_call (i := 0) (tb := fun E => tE G.S (fun cls d _ H => E cls d H) (ev C body)) lp hq I1 L la.obj la.free la.nofr tk hr' (fun E A outer s H hgA hr2 => hbody A outer s H E f c' (hgA.trans hgd) hr2) hNg hva hda hca) la.code df
      (G.Z ρ σ hd) hd h (fun h' => crOf (ev C body (lend ρ) h')) hh1 (fun a e => .inr (.inl e)) R1.zall la.tabs link post
    obtain ⟨t', ht', hq'⟩ := key
    exact ⟨t', ht'.nox, hq'⟩
  refine wpAny_call (codeAny_mono rc fun r s2 hq => ?_)
  cases r with
  | error e => exact (show False from hq).elim
  | ok fl =>
    cases fl with
    | ret u => exact I1.after hq
    | next => exact False.elim hq
    | brk => exact False.elim hq
    | cont => exact False.elim hq
end
end PyD

/-! PyQ3: index, count, list(range(..)), {}, isinstance of the caught error. -/
namespace PyD
open PySem L2 LamX

section
variable {X : Cx} {S : Sx} {W : WX} {C : Cl} {eo ea eb : E} {x y : Expr} {apos cpos p p2 pos : Pos}
def mtN : Mt → Str
  | .index => "index"
  | .count => "count"
theorem Bo.lst {K : PySem.W.Frag} {H : Hp} {Z : Addr → Prop} {v : V} {d : PyData} (b : Bo K H Z v d) (e : isLst d = some ()) : ∃ a xs, v = .ref a ∧ H a = some (.lst xs) := by
  cases d with
  | list ds => obtain ⟨a, xs, e1, e2, _⟩ := b.list; exact ⟨a, xs, e1, e2⟩
  | _ => cases e
def rCntD (K : PySem.W.Frag) : V → List V → Hp → VK → Prop := fun x xs H Q => ∃ (a : Addr) (y : V) (d : PyData) (ds : List PyData), x = .ref a ∧ xs = [y] ∧ Dp K H (.ref a) (.list ds) ∧ Dp K H y d ∧ SeqAt.shaped (.list ds) = true ∧ SeqAt.shaped d = true ∧ Q (.int ((ds.countP fun z => PyData.eqv z d : Nat) : Int)) H
theorem mt_cntD (hu : X.A.units + 70 < cLine) : MtR X "list.count" (rCntD X.K) := by
  intro pins s σ H x xs v us Q I rx rxs h
  obtain ⟨a, y, d, ds, rfl, rfl, hl, hy, sl, sd, q⟩ := h
  cases rx
  obtain ⟨u, rfl, ru⟩ := rxs.one
  obtain ⟨bs, r1⟩ := Dp.reads I d y u hy ru
  have hr := room_in (A := X.A) (ds := ds) sd (Nat.lt_of_le_of_lt (Nat.add_le_add_left (by decide) _) hu)
  cases hl with
  | lst hs ha =>
    obtain ⟨its, rv, p, hlen⟩ := I.list hs
    obtain ⟨as, h4⟩ := Dp.readsAll I ds _ its ha rv
    refine SeqAt.count_list_data (vs := its.toArray) p.isList h4 r1 (PyData.plainAll_of_canLay0 _ (lay_lst sl)) (PyData.plain_of_canLay0 _ (shaped_lay sd)) hr ?_
    exact ⟨.int _, H, I.tok _, ⟨_, rfl⟩, q⟩
theorem s_mth1 (m : Mt) (ho : PE X x (tP S W (preOf eo (ev C eo)))) (he : PE X y (tE S W (ev C ea))) (hs : notStar y = true) (hK : X.K = S.K) (hu : X.A.units + 70 < cLine) (hb : attributeBase x (mtN m) X.env (eval x X.env) = eval x X.env) (hl : (apos.endLine == cpos.line) = true) :
    PE X (.Call (.Attribute x (mtN m) apos) [y] [] cpos) (tE S W (ev C (.mth1 m eo ea))) := by
  have few : ((backTo cpos (starEach [y] X.env)).all (fun x => !x.1) && (backToKw cpos (keywordEach [] X.env)).all (fun x => x.1.isSome) && decide ([y].length + ([] : List Keyword).length + (if ([] : List Keyword).isEmpty then 0 else 1) < 30)) = true := by
    rw [star_cons hs]; rfl
  have hu2 : X.A.units + 65 < cLine := Nat.lt_of_le_of_lt (Nat.add_le_add_left (by decide) _) hu
  -- what is common to both
  have gen : ∀ {r : V → List V → Hp → VK → Prop}, (∀ (Z : Addr → Prop) (H : Hp) (v w : V) (d e z : PyData) (Q : VK), Bo X.K H Z v d → Rp X.K H Z w e → mop m d e = some z → (∀ u, Rp X.K H Z u z → Q u H) → r v [w] H Q) →
      ∀ σ H Q, tE S W (ev C (.mth1 m eo ea)) σ H Q → tBM X.K "list" r (tP S W (preOf eo (ev C eo))) (tCons (tE S W (ev C ea)) tNil) σ H Q := fun {r} hr σ H Q h => by
    obtain ⟨G, rfl, hd, ρ, h, R, oo⟩ := h
    unfold ev at oo
    refine seqP R oo fun p ρ1 h1 v1 H1 _ R1 s1 r1 o1 => ?_
    obtain ⟨u0, e0, o2⟩ := Out.ofO o1
    obtain ⟨x0, e1, e2⟩ := Option.bind_eq_some_iff.mp e0
    obtain ⟨a, xs, rfl, ha⟩ := (R1.bo r1 e1).lst e2
    refine ⟨.inl ⟨rfl, xs, .inl (.inl ha)⟩, seqE R1 o2 fun q ρ2 h2 v2 H2 _ R2 s2 r2 o3 => ?_⟩
    obtain ⟨d, e3, o4⟩ := Out.ofO o3
    obtain ⟨z, e4, o5⟩ := Out.ofO o4
    exact hr _ H2 _ _ d q.2 z Q (by rw [hK]; exact R2.bo (r1.stp s2) e3) (by rw [hK]; exact r2.1) e4 fun u ru => o5 H2 R2 (Stp.refl _ _) u (.plain (by rw [hK] at ru; exact ru))
  cases m with
  | index =>
    refine PE.imp (pe_bm PySem.F.plainAttrs_list PySem.F.slot_list_index PySem.F.type_list_index (mt_indexD hu2) ho (pa_cons he pa_nil (star_cons hs)) hb few hl (star_cons hs) rfl) (gen ?_)
    intro Z H v w d e z Q bv rw' hm q
    cases d with
    | list ds =>
      unfold mop at hm
      dsimp only at hm
      by_cases hc : (SeqAt.shaped (.list ds) && SeqAt.shaped e) = true
      · rw [if_pos hc] at hm
        rw [Bool.and_eq_true] at hc
        obtain ⟨j, hj, rfl⟩ := Option.map_eq_some_iff.mp hm
        obtain ⟨a, xs, rfl, _⟩ := bv.list
        obtain ⟨h1, h2, h3⟩ := List.findIdx?_eq_some_iff_getElem.mp hj
        refine ⟨a, w, e, ds, j, ds[j], rfl, rfl, bv.dp (shaped_lay hc.1), rw'.dp (shaped_lay hc.2), hc.1, hc.2, List.getElem?_eq_getElem h1, h2, fun m z' hm' hz' => ?_, q _ (.int _)⟩
        obtain ⟨hml, hz2⟩ := List.getElem?_eq_some_iff.mp hz'
        have h4 := h3 m hm'
        rw [← hz2]
        simpa using h4
      · rw [if_neg hc] at hm; cases hm
    | _ => cases hm
  | count =>
    refine PE.imp (pe_bm PySem.F.plainAttrs_list PySem.F.slot_list_count PySem.F.type_list_count (mt_cntD hu) ho (pa_cons he pa_nil (star_cons hs)) hb few hl (star_cons hs) rfl) (gen ?_)
    intro Z H v w d e z Q bv rw' hm q
    cases d with
    | list ds =>
      unfold mop at hm
      dsimp only at hm
      by_cases hc : (SeqAt.shaped (.list ds) && SeqAt.shaped e) = true
      · rw [if_pos hc] at hm
        rw [Bool.and_eq_true] at hc
        cases hm
        obtain ⟨a, xs, rfl, _⟩ := bv.list
        exact ⟨a, w, e, ds, rfl, rfl, bv.dp (shaped_lay hc.1), rw'.dp (shaped_lay hc.2), hc.1, hc.2, q _ (.int _)⟩
      · rw [if_neg hc] at hm; cases hm
    | _ => cases hm
theorem s_dic0 : PE X (.Dict [] [] pos) (tE S W (ev C .dic0)) := by
  refine PE.imp pe_dnewK fun σ H Q h => ?_
  obtain ⟨G, rfl, hd, ρ, h, R, oo⟩ := h
  unfold ev at oo
  exact fun p n => Out.fin R oo (same_upd n) _ (Res.ofNew R (same_upd n) (.inr ⟨rfl, p, rfl, n, .dic upd_same .nil⟩))
/-! list(range(..)) -/
theorem rng_vals {lo : Int} : ∀ {n : Nat} {its : List Value} {xs : List PyData} {k : Nat}, its.length = n → (∀ (j : Nat) (v : Value), its[j]? = some v → ∃ t, v = .int (lo + (k + j : Nat)) t) → xs = rangeD (lo + k) 1 n → ∃ vs : List V, Vals vs its ∧ ∀ (K : PySem.W.Frag) (H : Hp) (Z : Addr → Prop), RpA K H Z vs xs
  | 0, its, xs, k, hl, _, hx => by
    cases its with
    | nil => subst hx; exact ⟨[], .nil, fun _ _ _ => .nil⟩
    | cons _ _ => cases hl
  | n + 1, its, xs, k, hl, hv, hx => by
    cases its with
    | nil => cases hl
    | cons v r =>
      obtain ⟨t, e⟩ := hv 0 v rfl
      obtain ⟨vs, h1, h2⟩ := rng_vals (lo := lo) (n := n) (its := r) (xs := rangeD (lo + (k + 1 : Nat)) 1 n) (k := k + 1) (by simpa using hl) (fun j w hw => by
        obtain ⟨t, e⟩ := hv (j + 1) w (by simpa using hw)
        exact ⟨t, by rw [e]; congr 2; omega⟩) rfl
      refine ⟨.int (lo + k) :: vs, .cons ⟨t, by rw [e]; rfl⟩ h1, fun K H Z => ?_⟩
      subst hx
      have e2 : rangeD (lo + k) 1 (n + 1) = .int (lo + k) :: rangeD (lo + (k + 1 : Nat)) 1 n := by
        show PyData.int (lo + k) :: rangeD (lo + k + 1) 1 n = _
        congr 2
        omega
      rw [e2]
      exact .cons (.int _) (h2 K H Z)
theorem rng_list {pins : List (Addr × Obj)} {σ : L2.St} {H : Hp} {s : Shared} {lo hi : Int} {t u v : Tok} {tk : Nat} {Q : VK} (hc : X.calm = true) (I : L2.Inv X pins σ H s) (h1 : -(2 ^ 62) ≤ lo) (h2 : lo < 2 ^ 62) (h3 : -(2 ^ 62) ≤ hi) (h4 : hi < 2 ^ 62) (hl : (hi - lo).toNat ≤ 16777216)
    (q : ∀ p vs, H p = none → vs.length ≤ sizeLine → (∀ K H Z, RpA K H Z vs (rangeD lo 1 (hi - lo).toNat)) → Q (.ref p) (L2.upd H p (.lst vs))) :
    wpAny (model X.prog X.w) X.A (call (.type "list") [.ref s.heap.objs.size]) (EP X pins σ Q) X.xe { s with heap := s.heap.push { cls := .type "range", data := .fields #[.int lo t, .int hi u, .int 1 v] }, toks := tk } := by
  have I1 : L2.Inv X pins σ H { s with heap := s.heap.push { cls := .type "range", data := .fields #[.int lo t, .int hi u, .int 1 v] }, toks := tk } := I.kept fun b o e => Heap.get?_push_of_some _ e
  refine call_list_range (n := (hi - lo).toNat) (I.ok.hd hc) (IsRange.new ..) (small_one h1 h2 h3 h4) (by rw [rangeSize_one]; split <;> omega) hl fun h' tk2 acc c2 hk hS hacc => ?_
  obtain ⟨hn, hv⟩ := hacc
  obtain ⟨vs, r1, r2⟩ := rng_vals (lo := lo) (k := 0) (n := (hi - lo).toNat) (its := acc.toList) (xs := rangeD lo 1 (hi - lo).toNat) (by simpa using hn) (fun j w hw => by
    obtain ⟨t, e⟩ := hv j w (by simpa using hw)
    exact ⟨t, by rw [e]; congr 1 <;> omega⟩) (by simp)
  have hlen : vs.length ≤ sizeLine := by rw [r1.length, Array.length_toList, hn, ← sz]; exact hl
  have np := I1.hok.fresh (Nat.le_refl _)
  exact ⟨.ref _, _, I1.laid (o := .lst vs) (t' := tk2) hk (Nat.le_refl _) ⟨hlen, acc.toList, c2, r1, by simpa using hS⟩, rfl, q _ vs np hlen r2⟩
theorem s_lrg1 {p1 p3 : Pos} (ha : PE X x (tE S W (ev C ea))) (hg : Gl X "range") (hm : X.mg "range" = none) (hg2 : Gl X "list") (hm2 : X.mg "list" = none) (hs : notStar x = true) (hc : X.calm = true) :
    PE X (.Call (.Name "list" p1) [.Call (.Name "range" p) [x] [] p2] [] p3) (tE S W (ev C (.lrg (.rng1 ea)))) := by
  refine ⟨fun pins s σ H Q I h => ?_⟩
  obtain ⟨G, rfl, hd, ρ, h, R, oo⟩ := h
  unfold ev evSrc at oo
  rw [bind_bind] at oo
  refine PyProof.Rows.Call_ (ld_blt I hg2 hm2 PyProof.Rows.boot_list (PyProof.Rows.callWith_type1 ?_ rfl rfl))
  show wpAny _ _ (spliced ((false, eval (.Call (.Name "range" p) [x] [] p2) X.env) :: backTo p3 (starEach [] X.env))) _ _ s
  refine Calls.spliced_cons ?_
  have hx := (pa_cons ha pa_nil (star_cons hs)).run p2 pins s σ H (fun vs H1 => ∃ i : Int, vs = [.int i] ∧ (-(2 ^ 62) ≤ i ∧ i < 2 ^ 62 ∧ i ≤ 16777216) ∧ ∀ p vs, H1 p = none → vs.length ≤ sizeLine → (∀ K H Z, RpA K H Z vs (rangeD 0 1 (i - 0).toNat)) → Q (.ref p) (L2.upd H1 p (.lst vs))) I (by
    refine seqI R oo fun i ρ1 h1 H1 R1 s1 o1 => ?_
    by_cases e : (rngOk i && decide (i ≤ 16777216)) = true
    · rw [if_pos e] at o1
      rw [Bool.and_eq_true] at e
      obtain ⟨l, u⟩ := rng_ok e.1
      refine ⟨i, rfl, ⟨l, u, of_decide_eq_true e.2⟩, fun p vs n hl r => ?_⟩
      have e0 : (i - 0).toNat = i.toNat := by simp
      rw [e0] at r
      exact Out.fin R1 o1 (same_upd n) _ (Res.ofNew R1 (same_upd n) (NewR.lst n hl (r _ _ _)))
    · rw [if_neg e] at o1
      exact o1.elim)
  refine PyProof.Rows.Call_ (ld_blt I hg hm PyProof.Rows.boot_range (PyProof.Rows.callWith_type1 (thn hx fun us s1 ⟨vs, H1, I1, r1, q1⟩ => ?_) (star_cons hs) rfl))
  obtain ⟨i, e, ⟨b1, b2, b3⟩, q⟩ := q1
  subst e
  cases r1 with
  | cons r rr =>
    cases rr
    obtain ⟨t, rfl⟩ := r
    exact call_range_1 (Calls.spliced_nil (rng_list hc I1 (by omega) (by omega) b1 b2 (by omega) q))
theorem s_lrg2 {p1 p3 : Pos} (ha : PE X x (tE S W (ev C ea))) (hb : PE X y (tE S W (ev C eb))) (hg : Gl X "range") (hm : X.mg "range" = none) (hg2 : Gl X "list") (hm2 : X.mg "list" = none) (hs : notStar x = true) (hs2 : notStar y = true) (hc : X.calm = true) :
    PE X (.Call (.Name "list" p1) [.Call (.Name "range" p) [x, y] [] p2] [] p3) (tE S W (ev C (.lrg (.rng2 ea eb)))) := by
  refine ⟨fun pins s σ H Q I h => ?_⟩
  obtain ⟨G, rfl, hd, ρ, h, R, oo⟩ := h
  unfold ev evSrc at oo
  rw [bind_bind] at oo
  refine PyProof.Rows.Call_ (ld_blt I hg2 hm2 PyProof.Rows.boot_list (PyProof.Rows.callWith_type1 ?_ rfl rfl))
  show wpAny _ _ (spliced ((false, eval (.Call (.Name "range" p) [x, y] [] p2) X.env) :: backTo p3 (starEach [] X.env))) _ _ s
  refine Calls.spliced_cons ?_
  have hx := (pa_cons ha (pa_cons hb pa_nil (star_cons hs2)) (star_cons hs)).run p2 pins s σ H (fun vs H1 => ∃ i j : Int, vs = [.int i, .int j] ∧ (-(2 ^ 62) ≤ i ∧ i < 2 ^ 62 ∧ -(2 ^ 62) ≤ j ∧ j < 2 ^ 62 ∧ j - i ≤ 16777216) ∧ ∀ p vs, H1 p = none → vs.length ≤ sizeLine → (∀ K H Z, RpA K H Z vs (rangeD i 1 (j - i).toNat)) → Q (.ref p) (L2.upd H1 p (.lst vs))) I (by
    refine seqI R oo fun i ρ1 h1 H1 R1 s1 o1 => ?_
    rw [bind_bind] at o1
    refine seqI R1 o1 fun j ρ2 h2 H2 R2 s2 o2 => ?_
    by_cases e : (rngOk i && rngOk j && decide (j - i ≤ 16777216)) = true
    · rw [if_pos e] at o2
      rw [Bool.and_eq_true, Bool.and_eq_true] at e
      obtain ⟨l, u⟩ := rng_ok e.1.1
      obtain ⟨l', u'⟩ := rng_ok e.1.2
      exact ⟨i, j, rfl, ⟨l, u, l', u', of_decide_eq_true e.2⟩, fun p vs n hl r => Out.fin R2 o2 (same_upd n) _ (Res.ofNew R2 (same_upd n) (NewR.lst n hl (r _ _ _)))⟩
    · rw [if_neg e] at o2
      exact o2.elim)
  refine PyProof.Rows.Call_ (ld_blt I hg hm PyProof.Rows.boot_range (PyProof.Rows.callWith_type1 (thn hx fun us s1 ⟨vs, H1, I1, r1, q1⟩ => ?_) (star_cons hs) (by rw [star_cons hs2]; rfl)))
  obtain ⟨i, j, e, ⟨b1, b2, b3, b4, b5⟩, q⟩ := q1
  subst e
  cases r1 with
  | cons r rr =>
    cases rr with
    | cons r' rr =>
      cases rr
      obtain ⟨t, rfl⟩ := r
      obtain ⟨t', rfl⟩ := r'
      exact call_range_2 (Calls.spliced_nil (rng_list hc I1 b1 b2 b3 b4 (by omega) q))
/-! tuple(range(..)) -/
theorem rng_valsC {lo c : Int} : ∀ {n : Nat} {its : List Value} {xs : List PyData} {k : Nat}, its.length = n → (∀ (j : Nat) (v : Value), its[j]? = some v → ∃ t, v = .int (lo + ((k + j : Nat) : Int) * c) t) → xs = rangeD (lo + (k : Int) * c) c n → ∃ vs : List V, Vals vs its ∧ ∀ (K : PySem.W.Frag) (H : Hp) (Z : Addr → Prop), RpA K H Z vs xs
  | 0, its, xs, k, hl, _, hx => by
    cases its with
    | nil => subst hx; exact ⟨[], .nil, fun _ _ _ => .nil⟩
    | cons _ _ => cases hl
  | n + 1, its, xs, k, hl, hv, hx => by
    cases its with
    | nil => cases hl
    | cons v r =>
      obtain ⟨t, e⟩ := hv 0 v rfl
      obtain ⟨vs, h1, h2⟩ := rng_valsC (lo := lo) (c := c) (n := n) (its := r) (xs := rangeD (lo + ((k + 1 : Nat) : Int) * c) c n) (k := k + 1) (by simpa using hl) (fun j w hw => by
        obtain ⟨t, e⟩ := hv (j + 1) w (by simpa using hw)
        exact ⟨t, by rw [e, show k + (j + 1) = k + 1 + j by omega]⟩) rfl
      refine ⟨.int (lo + (k : Int) * c) :: vs, .cons ⟨t, by rw [e]; rfl⟩ h1, fun K H Z => ?_⟩
      subst hx
      have e2 : rangeD (lo + (k : Int) * c) c (n + 1) = .int (lo + (k : Int) * c) :: rangeD (lo + ((k + 1 : Nat) : Int) * c) c n := by
        show PyData.int (lo + (k : Int) * c) :: rangeD (lo + (k : Int) * c + c) c n = _
        have : lo + (k : Int) * c + c = lo + ((k + 1 : Nat) : Int) * c := by
          rw [Int.natCast_add, Int.add_mul]
          simp
          omega
        rw [this]
      rw [e2]
      exact .cons (.int _) (h2 K H Z)
theorem rng_tup {pins : List (Addr × Obj)} {σ : L2.St} {H : Hp} {s : Shared} {lo hi c : Int} {t u v : Tok} {tk n : Nat} {Q : VK} (hc : X.calm = true) (I : L2.Inv X pins σ H s) (hs : Builtin.Range.small lo hi c = true) (hn : Builtin.Range.rangeSize lo hi c = (n : Int)) (hl : n ≤ 16777216)
    (q : ∀ p vs, H p = none → vs.length ≤ sizeLine → (∀ K H Z, RpA K H Z vs (rangeD lo c n)) → Q (.ref p) (L2.upd H p (.tup vs))) :
    wpAny (model X.prog X.w) X.A (call (.type "tuple") [.ref s.heap.objs.size]) (EP X pins σ Q) X.xe { s with heap := s.heap.push { cls := .type "range", data := .fields #[.int lo t, .int hi u, .int c v] }, toks := tk } := by
  have I1 : L2.Inv X pins σ H { s with heap := s.heap.push { cls := .type "range", data := .fields #[.int lo t, .int hi u, .int c v] }, toks := tk } := I.kept fun b o e => Heap.get?_push_of_some _ e
  refine call_tuple_range (n := n) (I.ok.hd hc) (IsRange.new ..) hs hn hl fun h' tk2 acc hk hacc => ?_
  obtain ⟨hna, hv⟩ := hacc
  obtain ⟨vs, r1, r2⟩ := rng_valsC (lo := lo) (c := c) (k := 0) (n := n) (its := acc.toList) (xs := rangeD lo c n) (by simpa using hna) (fun j w hw => by
    obtain ⟨t, e⟩ := hv j w (by simpa using hw)
    exact ⟨t, by rw [e, Nat.zero_add]⟩) (by simp)
  have hlen : vs.length ≤ sizeLine := by rw [r1.length, Array.length_toList, hna, ← sz]; exact hl
  have I2 : L2.Inv X pins σ H { s with heap := h', toks := tk2 } := I1.kept (t' := tk2) hk
  have np := I2.hok.fresh (Nat.le_refl _)
  exact ⟨.ref _, _, I2.laid (t' := tk2) (fun c o e => Heap.get?_push_of_some _ e) (Nat.le_refl _) (show ObjOk X.prog X.w _ _ _ (.tup vs) from ⟨hlen, acc.toList, r1, by rw [Array.toArray_toList]; exact PyProof.Rows.IsTup.new _ _⟩), rfl, q _ vs np hlen r2⟩
theorem s_trg1 {p1 p3 : Pos} (ha : PE X x (tE S W (ev C ea))) (hg : Gl X "range") (hm : X.mg "range" = none) (hg2 : Gl X "tuple") (hm2 : X.mg "tuple" = none) (hs : notStar x = true) (hc : X.calm = true) :
    PE X (.Call (.Name "tuple" p1) [.Call (.Name "range" p) [x] [] p2] [] p3) (tE S W (ev C (.trg (.rng1 ea)))) := by
  refine ⟨fun pins s σ H Q I h => ?_⟩
  obtain ⟨G, rfl, hd, ρ, h, R, oo⟩ := h
  unfold ev evSrc at oo
  rw [bind_bind] at oo
  refine PyProof.Rows.Call_ (ld_blt I hg2 hm2 PyProof.Rows.boot_tuple (PyProof.Rows.callWith_type1 ?_ rfl rfl))
  show wpAny _ _ (spliced ((false, eval (.Call (.Name "range" p) [x] [] p2) X.env) :: backTo p3 (starEach [] X.env))) _ _ s
  refine Calls.spliced_cons ?_
  have hx := (pa_cons ha pa_nil (star_cons hs)).run p2 pins s σ H (fun vs H1 => ∃ i : Int, vs = [.int i] ∧ (-(2 ^ 62) ≤ i ∧ i < 2 ^ 62 ∧ i ≤ 16777216) ∧ ∀ p vs, H1 p = none → vs.length ≤ sizeLine → (∀ K H Z, RpA K H Z vs (rangeD 0 1 i.toNat)) → Q (.ref p) (L2.upd H1 p (.tup vs))) I (by
    refine seqI R oo fun i ρ1 h1 H1 R1 s1 o1 => ?_
    by_cases e : (rngOk i && decide (i ≤ 16777216)) = true
    · rw [if_pos e] at o1
      rw [Bool.and_eq_true] at e
      obtain ⟨l, u⟩ := rng_ok e.1
      exact ⟨i, rfl, ⟨l, u, of_decide_eq_true e.2⟩, fun p vs n hl r => Out.fin R1 o1 (same_upd n) _ (Res.ofNew R1 (same_upd n) (NewR.tup n hl (r _ _ _)))⟩
    · rw [if_neg e] at o1
      exact o1.elim)
  refine PyProof.Rows.Call_ (ld_blt I hg hm PyProof.Rows.boot_range (PyProof.Rows.callWith_type1 (thn hx fun us s1 ⟨vs, H1, I1, r1, q1⟩ => ?_) (star_cons hs) rfl))
  obtain ⟨i, e, ⟨b1, b2, b3⟩, q⟩ := q1
  subst e
  cases r1 with
  | cons r rr =>
    cases rr
    obtain ⟨t, rfl⟩ := r
    exact call_range_1 (Calls.spliced_nil (rng_tup hc I1 (small_one (by omega) (by omega) b1 b2) (by rw [rangeSize_one]; split <;> omega) (by omega) q))
theorem s_trg2 {p1 p3 : Pos} (ha : PE X x (tE S W (ev C ea))) (hb : PE X y (tE S W (ev C eb))) (hg : Gl X "range") (hm : X.mg "range" = none) (hg2 : Gl X "tuple") (hm2 : X.mg "tuple" = none) (hs : notStar x = true) (hs2 : notStar y = true) (hc : X.calm = true) :
    PE X (.Call (.Name "tuple" p1) [.Call (.Name "range" p) [x, y] [] p2] [] p3) (tE S W (ev C (.trg (.rng2 ea eb)))) := by
  refine ⟨fun pins s σ H Q I h => ?_⟩
  obtain ⟨G, rfl, hd, ρ, h, R, oo⟩ := h
  unfold ev evSrc at oo
  rw [bind_bind] at oo
  refine PyProof.Rows.Call_ (ld_blt I hg2 hm2 PyProof.Rows.boot_tuple (PyProof.Rows.callWith_type1 ?_ rfl rfl))
  show wpAny _ _ (spliced ((false, eval (.Call (.Name "range" p) [x, y] [] p2) X.env) :: backTo p3 (starEach [] X.env))) _ _ s
  refine Calls.spliced_cons ?_
  have hx := (pa_cons ha (pa_cons hb pa_nil (star_cons hs2)) (star_cons hs)).run p2 pins s σ H (fun vs H1 => ∃ i j : Int, vs = [.int i, .int j] ∧ (-(2 ^ 62) ≤ i ∧ i < 2 ^ 62 ∧ -(2 ^ 62) ≤ j ∧ j < 2 ^ 62 ∧ j - i ≤ 16777216) ∧ ∀ p vs, H1 p = none → vs.length ≤ sizeLine → (∀ K H Z, RpA K H Z vs (rangeD i 1 (j - i).toNat)) → Q (.ref p) (L2.upd H1 p (.tup vs))) I (by
    refine seqI R oo fun i ρ1 h1 H1 R1 s1 o1 => ?_
    rw [bind_bind] at o1
    refine seqI R1 o1 fun j ρ2 h2 H2 R2 s2 o2 => ?_
    by_cases e : (rngOk i && rngOk j && decide (j - i ≤ 16777216)) = true
    · rw [if_pos e] at o2
      rw [Bool.and_eq_true, Bool.and_eq_true] at e
      obtain ⟨l, u⟩ := rng_ok e.1.1
      obtain ⟨l', u'⟩ := rng_ok e.1.2
      exact ⟨i, j, rfl, ⟨l, u, l', u', of_decide_eq_true e.2⟩, fun p vs n hl r => Out.fin R2 o2 (same_upd n) _ (Res.ofNew R2 (same_upd n) (NewR.tup n hl (r _ _ _)))⟩
    · rw [if_neg e] at o2
      exact o2.elim)
  refine PyProof.Rows.Call_ (ld_blt I hg hm PyProof.Rows.boot_range (PyProof.Rows.callWith_type1 (thn hx fun us s1 ⟨vs, H1, I1, r1, q1⟩ => ?_) (star_cons hs) (by rw [star_cons hs2]; rfl)))
  obtain ⟨i, j, e, ⟨b1, b2, b3, b4, b5⟩, q⟩ := q1
  subst e
  cases r1 with
  | cons r rr =>
    cases rr with
    | cons r' rr =>
      cases rr
      obtain ⟨t, rfl⟩ := r
      obtain ⟨t', rfl⟩ := r'
      exact call_range_2 (Calls.spliced_nil (rng_tup hc I1 (small_one b1 b2 b3 b4) (by rw [rangeSize_one]; split <;> omega) (by omega) q))
theorem s_trg3 {ec : E} {z : Expr} {p1 p3 : Pos} (ha : PE X x (tE S W (ev C ea))) (hb : PE X y (tE S W (ev C eb))) (hcc : PE X z (tE S W (ev C ec))) (hg : Gl X "range") (hm : X.mg "range" = none) (hg2 : Gl X "tuple") (hm2 : X.mg "tuple" = none) (hs : notStar x = true) (hs2 : notStar y = true) (hs3 : notStar z = true) (hc : X.calm = true) :
    PE X (.Call (.Name "tuple" p1) [.Call (.Name "range" p) [x, y, z] [] p2] [] p3) (tE S W (ev C (.trg (.rng3 ea eb ec)))) := by
  refine ⟨fun pins s σ H Q I h => ?_⟩
  obtain ⟨G, rfl, hd, ρ, h, R, oo⟩ := h
  unfold ev evSrc at oo
  rw [bind_bind] at oo
  refine PyProof.Rows.Call_ (ld_blt I hg2 hm2 PyProof.Rows.boot_tuple (PyProof.Rows.callWith_type1 ?_ rfl rfl))
  show wpAny _ _ (spliced ((false, eval (.Call (.Name "range" p) [x, y, z] [] p2) X.env) :: backTo p3 (starEach [] X.env))) _ _ s
  refine Calls.spliced_cons ?_
  have hx := (pa_cons ha (pa_cons hb (pa_cons hcc pa_nil (star_cons hs3)) (star_cons hs2)) (star_cons hs)).run p2 pins s σ H (fun vs H1 => ∃ (i j k : Int) (n : Nat), vs = [.int i, .int j, .int k] ∧ (k ≠ 0 ∧ k.natAbs < 1073741824 ∧ Builtin.Range.small i j k = true ∧ Builtin.Range.rangeSize i j k = (n : Int) ∧ n ≤ 16777216) ∧ ∀ p vs, H1 p = none → vs.length ≤ sizeLine → (∀ K H Z, RpA K H Z vs (rangeD i k n)) → Q (.ref p) (L2.upd H1 p (.tup vs))) I (by
    refine seqI R oo fun i ρ1 h1 H1 R1 s1 o1 => ?_
    rw [bind_bind] at o1
    refine seqI R1 o1 fun j ρ2 h2 H2 R2 s2 o2 => ?_
    rw [bind_bind] at o2
    refine seqI R2 o2 fun k ρ3 h3 H3 R3 s3 o3 => ?_
    rw [bind_bind] at o3
    obtain ⟨n, e, o4⟩ := Out.ofO o3
    have hsz : Builtin.Range.rangeSize i j k = ((Builtin.Range.rangeSize i j k).toNat : Int) := by
      have hpos : 0 ≤ Builtin.Range.rangeSize i j k := by
        unfold Builtin.Range.rangeSize
        split <;> split <;> first | omega | (have := Int.ediv_nonneg (a := j - i - 1) (b := k) (by omega) (by omega); omega) | (have := Int.ediv_nonneg (a := i - j - 1) (b := -k) (by omega) (by omega); omega)
      omega
    unfold rng3N at e
    split at e
    · rename_i hh
      obtain ⟨g1, g2, g3, g4⟩ := hh
      cases e
      exact ⟨i, j, k, _, rfl, ⟨g1, g2, g3, hsz, g4⟩, fun p vs n hl r => Out.fin R3 o4 (same_upd n) _ (Res.ofNew R3 (same_upd n) (NewR.tup n hl (r _ _ _)))⟩
    · cases e)
  refine PyProof.Rows.Call_ (ld_blt I hg hm PyProof.Rows.boot_range (PyProof.Rows.callWith_type1 (thn hx fun us s1 ⟨vs, H1, I1, r1, q1⟩ => ?_) (star_cons hs) (by rw [star_cons hs2, star_cons hs3]; rfl)))
  obtain ⟨i, j, k, n, e, ⟨c0, c1, c2, c3, c4⟩, q⟩ := q1
  subst e
  cases r1 with
  | cons r rr =>
    cases rr with
    | cons r' rr =>
      cases rr with
      | cons r'' rr =>
        cases rr
        obtain ⟨t, rfl⟩ := r
        obtain ⟨t', rfl⟩ := r'
        obtain ⟨t'', rfl⟩ := r''
        exact call_range_3 c0 (Calls.spliced_nil (rng_tup hc I1 c2 c3 c4 q)) (.inl (PyProof.noPylong_small c1))
/-! isinstance(e, ..) of the caught error -/
theorem s_isx {i k : Nat} {X0 : Cx} {a : Addr} {oe : Obj} {pn : List (Addr × Obj)} {c0 : Nat} {cv : V} {u : Value} {n : Str} (hX : X = X0.suite a ((a, oe) :: pn)) (hea : S.ea = some (a, c0)) (hz : Zc (.ref (S.ca c0)) none oe) (hf : ∃ vs, oe.data = .fields vs) (hE : (∃ b, C.sub c0 k = some b) → ExcC X.K (S.ca c0))
    (hv : PE X x (tVar i)) (hcl : PE X (.Name n p2) (tC cv)) (hcv : ∀ w, RelV cv w → w = u) (hk : ∀ b, C.sub c0 k = some b → PySem.W.kitOne X.K (.ref (S.ca c0)) u = some b) (hg : Gl X "isinstance") (hm : X.mg "isinstance" = none) (hs : notStar x = true) :
    PE X (.Call (.Name "isinstance" p) [x, .Name n p2] [] pos) (tE S W (ev C (.isx i k))) := by
  by_cases hb : ∃ b, C.sub c0 k = some b
  · have cr : CallR X (.builtin "isinstance") (rIsE X.K (S.ca c0) a) := by
      have := hE hb
      subst hX
      exact call_isE this hz hf
    refine PE.imp (pe_callB cr hg hm (by rfl) (pa_cons hv (pa_cons hcl pa_nil) (star_cons hs)) (he := star_cons hs)) fun σ H Q h => ?_
    obtain ⟨G, rfl, hd, ρ, h, R, oo⟩ := h
    unfold ev at oo
    cases q : ρ[i]? with
    | none => rw [q] at oo; exact oo.elim
    | some s =>
      rw [q] at oo
      cases s with
      | exc c' =>
        obtain ⟨e1, e2⟩ := R.slot i _ q a c0 hea
        subst e2
        obtain ⟨b, eb⟩ := hb
        dsimp only at oo
        rw [eb] at oo
        exact ⟨_, e1, cv, u, b, rfl, hcv, hk b eb, oo H R (Stp.refl _ _) _ (.plain (.bl _))⟩
      | _ => exact oo.elim
  · refine ⟨fun pins s σ H Q I h => ?_⟩
    obtain ⟨G, rfl, hd, ρ, h, R, oo⟩ := h
    unfold ev at oo
    cases q : ρ[i]? with
    | none => rw [q] at oo; exact oo.elim
    | some s =>
      rw [q] at oo
      cases s with
      | exc c' =>
        obtain ⟨e1, e2⟩ := R.slot i _ q a c0 hea
        subst e2
        dsimp only at oo
        cases eb : C.sub c' k with
        | none => rw [eb] at oo; exact oo.elim
        | some b => exact absurd ⟨b, eb⟩ hb
      | _ => exact oo.elim
end
end PyD

/-! PyR: what an expression of the text must look like to be that of the evaluator. -/
namespace PyD
open PySem L2 LamX

/-- the names of the program -/
structure Tb where
  fnN : List Str
  gN : List Str
  xN : List Str
  noG : List Str
  tN : List Str := []
  bN : List Str := []
/-- what is known of a place in the text -/
structure Cs where
  sc : Scope
  ost : List (Str × NameKind)
  N : List Str
  calm : Bool
  exc : Bool := false
  lam : Option Str := none
/-! the tellers' errors are no matter to a call -/
section
variable {S S' : Sx} {Z : Addr → Prop} {hd : Option Addr} {H H' : Hp} {h' : Hand}
theorem After.cv (eK : S'.K = S.K) (eT : S'.T = S.T) (a : After S Z hd H H' h') : After S' Z hd H H' h' := ⟨a.st, by rw [eK]; exact a.hh, by rw [eT]; exact a.tb⟩
theorem CrPost.cv (eK : S'.K = S.K) (eT : S'.T = S.T) (eC : S'.ca = S.ca) {Q : VK} {E : XK} {c : Cr} (p : CrPost S Z hd H Q E c) : CrPost S' Z hd H Q E c := by
  cases c with
  | ok fr d h2 =>
    refine fun v H2 af r fr' => p v H2 (af.cv eK.symm eT.symm) (by rw [← eK]; exact r) fun z => ?_
    obtain ⟨a, e1, e2, r1, r2⟩ := fr' z
    exact ⟨a, e1, e2, by rw [← eK]; exact r1, by rw [← eK]; exact r2⟩
  | exc c h2 => exact fun H2 af => by rw [eC]; exact p H2 (af.cv eK.symm eT.symm)
  | fail => exact p
theorem ArgsOk.cv (eK : S'.K = S.K) (ef : S'.fa = S.fa) (en : S'.nf = S.nf) {vs : List V} {as : List Arg} (a : ArgsOk S H Z hd vs as) : ArgsOk S' H Z hd vs as := by
  induction a with
  | nil => exact .nil
  | @cons v vs a0 as0 r _ ih =>
    refine .cons ?_ ih
    cases a0 with
    | sh d => exact (by rw [eK]; exact r : Rp S'.K H Z v d)
    | bor d => obtain ⟨b, e1, r1, r2⟩ := r; exact ⟨b, e1, by rw [eK]; exact r1, r2⟩
    | fn k => exact (by rw [ef, en]; exact r : v = .ref (S'.fa k) ∧ k < S'.nf)
    | hnd => exact r
    | scr ds => obtain ⟨b, xs, e1, r1, r2, r3⟩ := r; exact ⟨b, xs, e1, by rw [eK]; exact r1, r2, by rw [eK]; exact r3⟩
theorem spF.cv (eK : S'.K = S.K) (eT : S'.T = S.T) (eC : S'.ca = S.ca) (ef : S'.fa = S.fa) (en : S'.nf = S.nf) {c : List Arg → Hand → Cr} {vs : List V} {Q : VK} {E : XK} (p : spF S c vs H Q E) : spF S' c vs H Q E := by
  obtain ⟨Z, hd, as, h, ha, hh, hz, zd, tb, post⟩ := p
  exact ⟨Z, hd, as, h, ha.cv eK ef en, by rw [eK]; exact hh, hz, zd, by rw [eT]; exact tb, post.cv eK eT eC⟩
end
theorem FnG.imp {P : Program} {w : World} {K : PySem.W.Frag} {mg : Str → Option Value} {base : Heap} {k : Nat} {f : Addr} {fd : FuncData} {ps : List Str} {sp sp' : Sp} (F : FnG P w K mg base k f fd ps sp) (h : ∀ vs H Q E, sp' vs H Q E → sp vs H Q E) : FnG P w K mg base k f fd ps sp' :=
  ⟨fun vs H Q E z => F.len vs H Q E (h _ _ _ _ z), fun A outer s H args us vs Q E hg hr e0 hb r z => F.run A outer s H args us vs Q E hg hr e0 hb r (h _ _ _ _ z)⟩
theorem TdG.cv {S S' : Sx} (eK : S'.K = S.K) (eT : S'.T = S.T) (eC : S'.ca = S.ca) {P : Program} {w : World} {K : PySem.W.Frag} {mg : Str → Option Value} {base : Heap} {j : Nat} {x : Str} {ct : (Hand → Cr) → Hand → Cr} (t : TdG S P w K mg base j x ct) : TdG S' P w K mg base j x ct := by
  obtain ⟨g, pg, bg, sg, dV, kV, doc, pm, cdv, ctt, oc, an, od, osl, Ng, a, h1, h2, h3, h4, h5, h6, h7, h8, h9, h10, gives⟩ := t
  refine ⟨g, pg, bg, sg, dV, kV, doc, pm, cdv, ctt, oc, an, od, osl, Ng, a, h1, h2, h3, h4, h5, h6, h7, h8, h9, h10, fun A st f c' q od' dV' s H Q tl hg hr act hc hd' Z hd h t hh hz zd tb link post => ?_⟩
  exact gives A st f c' q od' dV' s H Q tl hg hr act hc hd' Z hd h t (by rw [← eK]; exact hh) hz zd (by rw [← eT]; exact tb) (fun h' H' Q' E' af e1 e2 p => link h' H' Q' E' (af.cv eK eT) e1 e2 (p.cv eK eT eC)) (post.cv eK.symm eT.symm eC.symm)
structure Pf (tb : Tb) (S : Sx) (C : Cl) (P : Program) (w : World) (K : PySem.W.Frag) (mg : Str → Option Value) (base : Heap) (j : Nat) : Prop where
  eK : K = S.K
  fn : ∀ (k : Nat) (n : Str), tb.fnN[k]? = some n → mg n = some (.ref (S.fa k)) ∧ k < S.nf
  fv : ∀ k, k < S.nf → PySem.W.keepIn K (.ref (S.fa k)) = true ∧ FnU P w K mg base j (S.fa k) (spF S (C.fn k))
  gl : ∀ (k : Nat) (n : Str), tb.gN[k]? = some n → ∃ v d u, mg n = some u ∧ RelV v u ∧ C.gl k = some d ∧ ∀ H Z, Rp S.K H Z v d
  ex : ∀ (k : Nat) (n : Str), tb.xN[k]? = some n → mg n = some (.ref (S.ca k)) ∧ PySem.W.keepIn K (.ref (S.ca k)) = true ∧ PySem.W.subIn K (.ref (S.ca k)) (.type "BaseException") = some true ∧ PySem.W.typeIn K (.ref (S.ca k)) = some (.type "type") ∧
    ∃ (bmB : List Value) (B newId initId : String), ExcBaseFacts B newId initId bmB ∧ PySem.W.excIn K (S.ca k) bmB newId = true
  no : ∀ n, n ∈ tb.noG → mg n = none
  sub : ∀ (c' c : Nat) (b : Bool), C.sub c' c = some b → ExcC K (S.ca c') ∧ (∀ n, tb.xN[c]? = some n → PySem.W.kitOne K (.ref (S.ca c')) (.ref (S.ca c)) = some b ∧ PySem.W.exmOne K (.ref (S.ca c')) (.ref (S.ca c)) = some b) ∧
    ∀ (i : Nat) (n : Str), c = 1000 + i → tb.bN[i]? = some n → ∃ T, mg n = none ∧ bootBuiltins n = some (.type T) ∧ PySem.W.kitOne K (.ref (S.ca c')) (.type T) = some b
  td : ∀ (i : Nat) (x : Str), tb.tN[i]? = some x → TdG S P w K mg base j x (C.ft (1000 + i))
theorem Pf.ea {tb : Tb} {S : Sx} {C : Cl} {P : Program} {w : World} {K : PySem.W.Frag} {mg : Str → Option Value} {base : Heap} {j : Nat} (pf : Pf tb S C P w K mg base j) (e : Option (Addr × Nat)) : Pf tb { S with ea := e } C P w K mg base j :=
  ⟨pf.eK, pf.fn, fun k hk => by
    obtain ⟨h1, F⟩ := pf.fv k hk
    exact ⟨h1, F.imp fun vs H Q E z => spF.cv (S := { S with ea := e }) (S' := S) rfl rfl rfl rfl rfl z⟩, pf.gl, pf.ex, pf.no, pf.sub, fun i x h => TdG.cv (S := S) (S' := { S with ea := e }) rfl rfl rfl (pf.td i x h)⟩
structure Ctx (tb : Tb) (S : Sx) (C : Cl) (j : Nat) (cs : Cs) (X : Cx) (W : WX) : Prop where
  pf : Pf tb S C X.prog X.w X.K X.mg X.base j
  N : X.N = cs.N
  nd : cs.N.Nodup
  sc : X.env.scope = cs.sc
  ost : ∀ n, cs.ost.lookup n = some .cell → X.fn n = true ∧ cs.sc.names.lookup n = some .cell
  calm : cs.calm = true → X.calm = true
  hu : X.A.units + 70 < cLine
  gd : X.A.guards = some []
  rm : cs.calm = true → Room j X.A
  pass : ∀ σ, PassesAt (L2.CX X.prog X.w) X σ (fun c d H' => W c d σ H')
  tk : Takes X W
  po : PassesOwn (model X.prog X.w) X.A X.env X.xe
  sx : cs.exc = true → ∃ (X0 : Cx) (a : Addr) (oe : Obj) (pn : List (Addr × Obj)) (c0 : Nat), X = X0.suite a ((a, oe) :: pn) ∧ S.ea = some (a, c0) ∧ Zc (.ref (S.ca c0)) none oe ∧ ∃ vs, oe.data = .fields vs
  lam : ∀ q, cs.lam = some q → ∃ c P, TabB X.base X.mg c P ∧ X.env.code = .ref c ∧ q = X.env.qual ++ "<lambda>" ∧ (P, q) ∈ S.T ∧ (∀ p ∈ S.T, p.1 = P → p.2 = q) ∧ Room (j + 2) X.A
/-! the place within a comprehension -/
def relabelS (scope sc : Scope) : Scope :=
  { scope with names := scope.names.map fun (n, k) => if (k == .free && sc.kind == .function && sc.names.lookup n == some .cell) then (n, .cell) else (n, k) }
def Cs.blk (cs : Cs) (scope : Scope) : Cs := { sc := relabelS scope cs.sc, ost := scope.names, N := cs.N, calm := cs.calm, exc := false, lam := cs.lam }
/-- the place within a lambda -/
def Cs.lamb (cs : Cs) (scope : Scope) : Cs := { sc := scope, ost := [], N := cs.N, calm := true, exc := false, lam := none }
theorem lookup_relabel_cell {sc : Scope} : ∀ {names : List (Str × NameKind)} {x : Str}, names.lookup x = some .cell →
    (names.map fun (n, k) => if (k == NameKind.free && sc.kind == .function && sc.names.lookup n == some .cell) then (n, NameKind.cell) else (n, k)).lookup x = some .cell
  | [], _, h => by simp at h
  | (n, k) :: r, x, h => by
    have ih := @lookup_relabel_cell sc r x
    show List.lookup x ((if (k == NameKind.free && sc.kind == .function && sc.names.lookup n == some .cell) = true then (n, NameKind.cell) else (n, k)) :: _) = _
    cases hx : x == n with
    | true =>
      simp only [List.lookup_cons, hx] at h
      cases h
      simp [List.lookup_cons, hx]
    | false =>
      simp only [List.lookup_cons, hx] at h
      by_cases hc : (k == NameKind.free && sc.kind == .function && sc.names.lookup n == some .cell) = true
      · rw [if_pos hc]; simp only [List.lookup_cons, hx]; exact ih h
      · rw [if_neg hc]; simp only [List.lookup_cons, hx]; exact ih h
section
variable {tb : Tb} {S : Sx} {C : Cl} {j : Nat} {cs : Cs} {X : Cx} {W : WX}
theorem Ctx.blk (c : Ctx tb S C j cs X W) (s : Shared) (H : Hp) (scope : Scope) (Ca : Addr) (cl : List (Str × Addr)) (fp : List Addr) : Ctx tb S C j (cs.blk scope) (X.blk s H scope (compEnvC scope cl Ca X.env) fp) noW where
  pf := c.pf
  N := c.N
  nd := c.nd
  sc := by
    show relabel scope X.env = relabelS scope cs.sc
    unfold relabel relabelS Env.kindOf
    rw [c.sc]
  ost := fun n h => by
    have h : scope.names.lookup n = some .cell := h
    exact ⟨by show (scope.names.lookup n == some .cell) = true; rw [h]; rfl, lookup_relabel_cell h⟩
  calm := c.calm
  hu := c.hu
  gd := c.gd
  rm := c.rm
  pass := fun σ pins H s' e s'' I h => by
    obtain ⟨a, B, H', cls, d, _, _, _, _, _, _, _, hE⟩ := h
    exact hE
  tk := fun u s' h => by
    obtain ⟨a, B, sI, pins, σ, H, cls, d, e, I, nb, up, sky, na, os, ag, w⟩ := h
    exact w
  po := PassesOwn.never
  sx := fun z => by cases z
  lam := c.lam
/-! names -/
def eqS (a b : Str) : Bool := decide (a = b)
def nmV (cs : Cs) (i : Nat) (n : Str) : Bool := decide (cs.N[i]? = some n) && (match cs.sc.names.lookup n with
  | some .local => true
  | some .cell => true
  | some .free => true
  | _ => false) && !(n == ("__debug__" : Str)) && !(n == ("__classdict__" : Str))
def nmS (cs : Cs) (i : Nat) (n : Str) : Bool := decide (cs.N[i]? = some n) && (decide (cs.sc.names.lookup n = some .local) || decide (cs.ost.lookup n = some .cell))
def nmG (cs : Cs) (n : Str) : Bool := decide (cs.sc.names.lookup n = some .globalImplicit) && !(n == ("__debug__" : Str)) && decide (n ≠ ("__name__" : Str))
theorem not_true {b : Bool} (h : (!b) = true) : b = false := by cases b <;> first | rfl | cases h
theorem Ctx.var (c : Ctx tb S C j cs X W) {i : Nat} {n : Str} {pos : Pos} (h : nmV cs i n = true) : PE X (.Name n pos) (tVar i) ∧ X.N[i]? = some n ∧ Vis X.env.scope n ∧ (n == ("__debug__" : Str)) = false ∧ (n == ("__classdict__" : Str)) = false := by
  unfold nmV at h
  simp only [Bool.and_eq_true] at h
  obtain ⟨⟨⟨h1, h2⟩, h3⟩, h4⟩ := h
  have hN : X.N[i]? = some n := by rw [c.N]; exact of_decide_eq_true h1
  have hv : Vis X.env.scope n := by
    unfold Vis
    rw [c.sc]
    split at h2 <;> first | (rename_i e; simp [e]) | cases h2
  exact ⟨pe_var hN hv (not_true h3) (not_true h4), hN, hv, not_true h3, not_true h4⟩
theorem Ctx.st (c : Ctx tb S C j cs X W) {i : Nat} {n : Str} (h : nmS cs i n = true) : X.N[i]? = some n ∧ L2.Loc X.env.scope n ∧ (X.fn n = true ∨ X.env.scope.names.lookup n = some .local) := by
  unfold nmS at h
  simp only [Bool.and_eq_true, Bool.or_eq_true] at h
  obtain ⟨h1, h2⟩ := h
  refine ⟨by rw [c.N]; exact of_decide_eq_true h1, ?_⟩
  unfold L2.Loc
  rw [c.sc]
  rcases h2 with h2 | h2
  · have := of_decide_eq_true h2
    exact ⟨.inl this, .inr this⟩
  · obtain ⟨h3, h4⟩ := c.ost n (of_decide_eq_true h2)
    exact ⟨.inr h4, .inl h3⟩
theorem Ctx.gname (c : Ctx tb S C j cs X W) {n : Str} (h : nmG cs n = true) : Gl X n ∧ (n == ("__debug__" : Str)) = false ∧ n ≠ "__name__" := by
  unfold nmG at h
  simp only [Bool.and_eq_true] at h
  obtain ⟨⟨h1, h2⟩, h3⟩ := h
  refine ⟨?_, not_true h2, of_decide_eq_true h3⟩
  unfold Gl Env.kindOf
  rw [c.sc]
  exact of_decide_eq_true h1
/-! built-in names -/
def bifN : Bif → Str
  | .len => "len"
  | .abs => "abs"
  | .int => "int"
  | .tuple => "tuple"
  | .list => "list"
  | .all => "all"
  | .any => "any"
  | .sum => "sum"
  | .min => "min"
  | .max => "max"
  | .sorted => "sorted"
  | .repr => "repr"
  | .str => "str"
theorem bif_boot (b : Bif) : bootBuiltins (bifN b) = some (opF b) := by cases b <;> decide +kernel
theorem ty_boot (t : Ty) : bootBuiltins (Str.ofString (tyN t)) = some (.type (tyN t)) := by cases t <;> decide +kernel
theorem call_bif {x : Expr} {xs : List Expr} {p pos : Pos} (b : Bif) (hg : Gl X (bifN b)) (hm : X.mg (bifN b) = none) (hs : (x :: xs).all notStar = true) {r : List V → Hp → VK → Prop} {t : TA} (h : CallR X (opF b) r) (ha : PA X (x :: xs) t) : PE X (.Call (.Name (bifN b) p) (x :: xs) [] pos) (tCB r t) := by
  rw [List.all_cons, Bool.and_eq_true] at hs
  have hb := bif_boot b
  cases b <;> first
    | exact pe_callB h hg hm hb ha (by decide) (by decide) (star_cons hs.1) (star_any hs.2)
    | exact pe_callTy h hg hm hb ha (by decide) (by decide) (star_cons hs.1) (star_any hs.2)
end
/-! ### the checks -/
def plainX : Expr → Bool
  | .Slice _ _ _ _ => false
  | _ => true
def noSet : Expr → Bool
  | .Set _ _ _ => false
  | _ => true
/-- an expression whose test is told by its value -/
def valT : Expr → Bool
  | .UnaryOp .Not _ _ => false
  | .BoolOp _ _ _ => false
  | .IfExp _ _ _ _ => false
  | .Compare _ _ _ _ => false
  | _ => true
def notIf : Expr → Bool
  | .IfExp _ _ _ _ => false
  | _ => true
mutual
def ckT (cs : Cs) : Tg → Expr → Bool
  | .nm i, x => match x with
    | .Name n _ => nmS cs i n
    | _ => false
  | .tp ts, x => match x with
    | .Tuple es _ _ => cs.calm && ckTs cs ts es
    | _ => false
def ckTs (cs : Cs) : Tgs → List Expr → Bool
  | .nil, xs => match xs with
    | [] => true
    | _ => false
  | .cons t r, xs => match xs with
    | x :: xs => notStar x && ckT cs t x && ckTs cs r xs
    | _ => false
end
/-- a lambda's parameters -/
def parO : Arguments → Option (Option (Str × Int))
  | ⟨[], [], none, [], [], none, []⟩ => some none
  | ⟨[], [a], none, [], [], none, [.Constant (.int n) _ _]⟩ => some (some (a.arg, n))
  | _ => none
def ckLam (cs : Cs) (scope : Scope) (params : Arguments) : Bool :=
  decide (scope.kind = .function) && !scope.isCoroutine && !scope.isGenerator && (scope.names.all fun y => !decide (y.2 = .cell)) && (scope.names.all fun y => !decide (y.2 = .local) || !(cs.N.any fun n => decide (n = y.1))) &&
  (scope.names.all fun y => !decide (y.2 = .free) || decide (cs.sc.names.lookup y.1 = some .cell) || decide (cs.sc.names.lookup y.1 = some .free)) &&
  (match parO params with
    | some none => true
    | some (some (a, _)) => decide (scope.names.lookup a = some .local)
    | none => false)
def noCallX : Expr → Bool
  | .Call _ _ _ _ => false
  | _ => true
/-- a comprehension's block -/
def ckBlk (cs : Cs) (scope : Scope) (vs : List Nat) : Bool :=
  decide (scope.kind = .function) && (scope.names.all fun y => decide (scope.names.lookup y.1 = some y.2)) && (vs.all fun v => decide (v < cs.N.length)) &&
  (scope.names.all fun y => !decide (y.2 = .free) || decide (cs.sc.names.lookup y.1 = some .cell) || decide (cs.sc.names.lookup y.1 = some .free)) &&
  (scope.names.all fun y => !(decide (y.2 = .local) || decide (y.2 = .cell)) || (vs.any fun v => decide (cs.N[v]? = some y.1)) || !(cs.N.any fun n => decide (n = y.1)))
def isRng2 : Src → Bool
  | .rng1 _ => true
  | .rng2 _ _ => true
  | _ => false
def isRng : Src → Bool
  | .rng1 _ => true
  | .rng2 _ _ => true
  | .rng3 _ _ _ => true
  | _ => false
mutual
def ckE (tb : Tb) : Cs → E → Expr → Bool
  | cs, .var i, x => match x with
    | .Name n _ => nmV cs i n
    | _ => false
  | cs, .int k, x => match x with
    | .Constant (.int m) _ _ => decide (k = m)
    | _ => false
  | cs, .str k, x => match x with
    | .Constant (.str m) _ _ => decide (k = m)
    | _ => false
  | cs, .bl k, x => match x with
    | .Constant (.bool m) _ _ => decide (k = m)
    | _ => false
  | cs, .non, x => match x with
    | .Constant .none _ _ => true
    | _ => false
  | cs, .glb k, x => match x with
    | .Name n _ => decide (tb.gN[k]? = some n) && nmG cs n
    | _ => false
  | cs, .bin o a b, x => match x with
    | .BinOp l op r _ => decide (op = opB o) && ckE tb cs a l && ckE tb cs b r
    | _ => false
  | cs, .neg a, x => match x with
    | .UnaryOp .USub l _ => ckE tb cs a l
    | _ => false
  | cs, .nt a, x => match x with
    | .UnaryOp .Not l _ => notIf l && ckE tb cs a l
    | _ => false
  | cs, .and es, x => match x with
    | .BoolOp .And xs _ => ckEs tb cs es xs && decide (0 < xs.length) && xs.all notIf
    | _ => false
  | cs, .or es, x => match x with
    | .BoolOp .Or xs _ => ckEs tb cs es xs && decide (0 < xs.length) && xs.all notIf
    | _ => false
  | cs, .cmp o a b, x => match x with
    | .Compare l [op] [r] _ => decide (op = opC o) && noSet r && ckE tb cs a l && ckE tb cs b r
    | _ => false
  | cs, .chn o1 o2 a b c, x => match x with
    | .Compare l [op1, op2] [r, t] _ => decide (op1 = opC o1) && decide (op2 = opC o2) && noSet t && ckE tb cs a l && ckE tb cs b r && ckE tb cs c t
    | _ => false
  | cs, .isn a, x => match x with
    | .Compare l [.Is] [.Constant .none _ _] _ => ckE tb cs a l
    | _ => false
  | cs, .isnn a, x => match x with
    | .Compare l [.IsNot] [.Constant .none _ _] _ => ckE tb cs a l
    | _ => false
  | cs, .isb a b, x => match x with
    | .Compare l [.Is] [.Constant (.bool m) _ _] _ => decide (b = m) && ckE tb cs a l
    | _ => false
  | cs, .isnb a b, x => match x with
    | .Compare l [.IsNot] [.Constant (.bool m) _ _] _ => decide (b = m) && ckE tb cs a l
    | _ => false
  | cs, .ife c a b, x => match x with
    | .IfExp t l r _ => ckE tb cs c t && ckE tb cs a l && ckE tb cs b r && notIf t
    | _ => false
  | cs, .tup es, x => match x with
    | .Tuple xs _ _ => ckEs tb cs es xs && decide (xs.length ≤ 1000)
    | _ => false
  | cs, .lst es, x => match x with
    | .List xs _ => ckEs tb cs es xs && decide (xs.length ≤ 1000)
    | _ => false
  | cs, .idx a i, x => match x with
    | .Subscript l r _ => plainX r && ckE tb cs a l && ckE tb cs i r
    | _ => false
  | cs, .slc a lo hi, x => match x with
    | .Subscript l (.Slice p q none _) _ => ckE tb cs a l && ckO tb cs lo p && ckO tb cs hi q
    | _ => false
  | cs, .call k es, x => match x with
    | .Call (.Name n _) xs [] _ => decide (tb.fnN[k]? = some n) && nmG cs n && ckA tb cs es xs && xs.all notStar && cs.calm
    | _ => false
  | cs, .callv i es, x => match x with
    | .Call (.Name n _) xs [] _ => nmV cs i n && ckA tb cs es xs && xs.all notStar && decide (0 < xs.length) && cs.calm
    | _ => false
  | cs, .bfn b es, x => match x with
    | .Call (.Name n _) xs [] _ => decide (n = bifN b) && nmG cs n && (tb.noG.any fun m => decide (m = n)) && (!calmB b || cs.calm) && ckEs tb cs es xs && xs.all notStar && decide (0 < xs.length)
    | _ => false
  | cs, .isi a t, x => match x with
    | .Call (.Name n _) [l, .Name m _] [] _ => decide (n = ("isinstance" : Str)) && nmG cs n && (tb.noG.any fun m => decide (m = n)) && decide (m = Str.ofString (tyN t)) && nmG cs m && (tb.noG.any fun n => decide (n = m)) && notStar l && ckE tb cs a l
    | _ => false
  | cs, .pop0 i, x => match x with
    | .Call (.Attribute (.Name n _) m ap) [] [] cp => decide (m = ("pop" : Str)) && nmV cs i n && (ap.endLine == cp.line)
    | _ => false
  | cs, .pop1 i e, x => match x with
    | .Call (.Attribute (.Name n _) m ap) [y] [] cp => decide (m = ("pop" : Str)) && nmV cs i n && (ap.endLine == cp.line) && notStar y && ckE tb cs e y
    | _ => false
  | cs, .comp vs t src cond elt, x => match x with
    | .ListComp y [⟨tg, it, ifs, 0⟩] scope _ => cs.calm && ckBlk cs scope vs && (tgN t).all (fun i => vs.any fun v => decide (i = v)) && noSet it && ckSrc tb cs src tg it && ckT (cs.blk scope) t tg && ckC tb (cs.blk scope) cond ifs && ckE tb (cs.blk scope) elt y
    | _ => false
  | cs, .mth1 m o e, x => match x with
    | .Call (.Attribute l a ap) [y] [] cp => decide (a = mtN m) && noCallX l && (ap.endLine == cp.line) && notStar y && ckE tb cs o l && ckE tb cs e y
    | _ => false
  | _, .dic0, x => match x with
    | .Dict [] [] _ => true
    | _ => false
  | cs, .lrg src, x => match x with
    | .Call (.Name n _) [it] [] _ => cs.calm && decide (n = ("list" : Str)) && nmG cs n && (tb.noG.any fun m => decide (m = n)) && isRng2 src && ckSrc tb cs src it it
    | _ => false
  | cs, .trg src, x => match x with
    | .Call (.Name n _) [it] [] _ => cs.calm && decide (n = ("tuple" : Str)) && nmG cs n && (tb.noG.any fun m => decide (m = n)) && isRng src && ckSrc tb cs src it it
    | _ => false
  | cs, .isx i k, x => match x with
    | .Call (.Name n _) [.Name e _, .Name m _] [] _ => cs.exc && decide (n = ("isinstance" : Str)) && nmG cs n && (tb.noG.any fun z => decide (z = n)) && nmV cs i e && nmG cs m && (decide (tb.xN[k]? = some m) || (decide (1000 ≤ k) && decide (tb.bN[k - 1000]? = some m)))
    | _ => false
  | cs, .lamc k b, x => match x with
    | .Call (.Name n _) [.Lambda params body scope _] [] _ => decide (1000 ≤ k) && decide (tb.tN[k - 1000]? = some n) && nmG cs n && cs.lam.isSome && ckLam cs scope params && ckE tb (cs.lamb scope) b body
    | _ => false
  | cs, .rev a, x => match x with
    | .Subscript l (.Slice none none (some (.UnaryOp .USub (.Constant (.int m) _ _) _)) _) _ => decide (m = 1) && ckE tb cs a l
    | _ => false
  | cs, .revt a, x => match x with
    | .Subscript l (.Slice none (some (.Constant (.int z) _ _)) (some (.UnaryOp .USub (.Constant (.int m) _ _) _)) _) _ => decide (z = 0) && decide (m = 1) && ckE tb cs a l
    | _ => false
  | _, .skip, _ => true
  | cs, .dgt o k, x => match x with
    | .Subscript l r _ => plainX r && ckE tb cs o l && ckE tb cs k r
    | _ => false
  | cs, .dcomp vs t src cond key val, x => match x with
    | .DictComp y z [⟨tg, it, ifs, 0⟩] scope _ => cs.calm && ckBlk cs scope vs && (tgN t).all (fun i => vs.any fun v => decide (i = v)) && noSet it && ckSrc tb cs src tg it && ckT (cs.blk scope) t tg && ckC tb (cs.blk scope) cond ifs && ckE tb (cs.blk scope) key y && ckE tb (cs.blk scope) val z
    | _ => false
  | cs, .dic1 k v, x => match x with
    | .Dict [some y] [z] _ => ckE tb cs k y && ckE tb cs v z
    | _ => false
  | _, _, _ => false
def ckEs (tb : Tb) : Cs → Es → List Expr → Bool
  | cs, .nil, xs => match xs with
    | [] => true
    | _ => false
  | cs, .cons e r, xs => match xs with
    | x :: xs => notStar x && ckE tb cs e x && ckEs tb cs r xs
    | _ => false
def ckA (tb : Tb) : Cs → Es → List Expr → Bool
  | cs, .nil, xs => match xs with
    | [] => true
    | _ => false
  | cs, .cons e r, xs => match xs with
    | x :: xs => notStar x && (match e with
      | .fnv k => (match x with
        | .Name n _ => decide (tb.fnN[k]? = some n) && nmG cs n
        | _ => false)
      | _ => ckE tb cs e x) && ckA tb cs r xs
    | _ => false
def ckO (tb : Tb) : Cs → Eo → Option Expr → Bool
  | cs, .no, x => match x with
    | none => true
    | _ => false
  | cs, .so e, x => match x with
    | some y => ckE tb cs e y
    | _ => false
/-- a clause's tests -/
def ckC (tb : Tb) : Cs → Eo → List Expr → Bool
  | cs, .no, x => match x with
    | [] => true
    | _ => false
  | cs, .so e, x => match x with
    | [y] => ckE tb cs e y && notIf y
    | _ => false
def ckSrc (tb : Tb) : Cs → Src → Expr → Expr → Bool
  | cs, .val e, _, it => ckE tb cs e it
  | cs, .rng1 a, _, it => match it with
    | .Call (.Name n _) [x] [] _ => decide (n = ("range" : Str)) && nmG cs n && (tb.noG.any fun m => decide (m = n)) && notStar x && ckE tb cs a x
    | _ => false
  | cs, .rng2 a b, _, it => match it with
    | .Call (.Name n _) [x, y] [] _ => decide (n = ("range" : Str)) && nmG cs n && (tb.noG.any fun m => decide (m = n)) && notStar x && notStar y && ckE tb cs a x && ckE tb cs b y
    | _ => false
  | cs, .rng3 a b d, _, it => match it with
    | .Call (.Name n _) [x, y, z] [] _ => decide (n = ("range" : Str)) && nmG cs n && (tb.noG.any fun m => decide (m = n)) && notStar x && notStar y && notStar z && ckE tb cs a x && ckE tb cs b y && ckE tb cs d z
    | _ => false
  | cs, .zip a b, tg, it => match tg, it with
    | .Tuple _ _ _, .Call (.Name n _) [x, y] [] _ => decide (n = ("zip" : Str)) && nmG cs n && (tb.noG.any fun m => decide (m = n)) && notStar x && notStar y && ckE tb cs a x && ckE tb cs b y
    | _, _ => false
  | cs, .enm a, tg, it => match tg, it with
    | .Tuple _ _ _, .Call (.Name n _) [x] [] _ => decide (n = ("enumerate" : Str)) && nmG cs n && (tb.noG.any fun m => decide (m = n)) && notStar x && ckE tb cs a x
    | _, _ => false
  | cs, .enz a b, tg, it => match tg, it with
    | .Tuple _ _ _, .Call (.Name n _) [.Call (.Name n2 _) [x, y] [] _] [] _ => decide (n = ("enumerate" : Str)) && nmG cs n && (tb.noG.any fun m => decide (m = n)) && decide (n2 = ("zip" : Str)) && nmG cs n2 && (tb.noG.any fun m => decide (m = n2)) && notStar x && notStar y && ckE tb cs a x && ckE tb cs b y
    | _, _ => false
end
end PyD

/-! PyS: the checks suffice for expressions. -/
namespace PyD
open PySem L2 LamX

def OkE (tb : Tb) (S : Sx) (C : Cl) (j : Nat) (e : E) : Prop := ∀ cs X W, Ctx tb S C j cs X W → ∀ x, ckE tb cs e x = true → PE X x (tE S W (ev C e)) ∧ (notIf x = true → PT X x (tT S W (fun ρ h => asBool (ev C e ρ h))))
def OkEs (tb : Tb) (S : Sx) (C : Cl) (j : Nat) (es : Es) : Prop := ∀ cs X W, Ctx tb S C j cs X W → ∀ xs, ckEs tb cs es xs = true →
  PA X xs (tAs S W (evs C es)) ∧ PA X xs (tAp S W (evP C es)) ∧ PA X xs (tL S W (evl C es)) ∧ xs.all notStar = true ∧ es.len = xs.length ∧
  (0 < xs.length → ∀ pos, PE X (.BoolOp .And xs pos) (tE S W (evAnd C es)) ∧ PE X (.BoolOp .Or xs pos) (tE S W (evOr C es)) ∧
    (xs.all notIf = true → PW X (.BoolOp .And xs pos) (tT S W (fun ρ h => asBool (evAnd C es ρ h))) ∧ PW X (.BoolOp .Or xs pos) (tT S W (fun ρ h => asBool (evOr C es ρ h)))))
def OkA (tb : Tb) (S : Sx) (C : Cl) (j : Nat) (es : Es) : Prop := ∀ cs X W, Ctx tb S C j cs X W → ∀ xs, ckA tb cs es xs = true → PA X xs (tAa S W (evA C es))
def OkO (tb : Tb) (S : Sx) (C : Cl) (j : Nat) (eo : Eo) : Prop := ∀ cs X W, Ctx tb S C j cs X W → (∀ o, ckO tb cs eo o = true → PO X o (tO S W (evo C eo))) ∧ ∀ ifs, ckC tb cs eo ifs = true → PTs X ifs (tT S W (evc C eo))
def OkSrc (tb : Tb) (S : Sx) (C : Cl) (j : Nat) (src : Src) : Prop := ∀ cs X W, Ctx tb S C j cs X W → ∀ own tg it, ckSrc tb cs src tg it = true → PI X tg it (tI S W own (evSrc C own src))
theorem PTs.imp {X : Cx} {ifs : List Expr} {t t' : TT} (p : PTs X ifs t) (h : ∀ σ H Q, t' σ H Q → t σ H Q) : PTs X ifs t' := ⟨fun pins s σ H Q I q => p.run pins s σ H Q I (h σ H Q q)⟩
section
variable {tb : Tb} {S : Sx} {C : Cl} {j : Nat} {cs : Cs} {X : Cx} {W : WX}
theorem ck_hv (c : Ctx tb S C j cs X W) {e : E} {x : Expr} (h : ckE tb cs e x = true) : ∀ i, e = .var i → PE X x (tVar i) := fun i ei => by
  subst ei
  unfold ckE at h
  split at h
  · exact (c.var h).1
  · cases h
theorem any_mem {xs : List Str} {n : Str} (h : (xs.any fun m => decide (m = n)) = true) : n ∈ xs := by
  obtain ⟨m, h1, h2⟩ := List.any_eq_true.mp h
  rw [← of_decide_eq_true h2]; exact h1
theorem folded_no {it : Expr} {env : PySem.Env} (h : noSet it = true) (x : Value) : foldedSetIterable it env x = pure x := by
  cases it <;> first | rfl | cases h
theorem each_plain {env : PySem.Env} : ∀ {es : List Expr}, es.all notStar = true → assignEach es env = es.map fun t => (false, assign t env)
  | [], _ => rfl
  | t :: r, h => by
    rw [List.all_cons, Bool.and_eq_true] at h
    have ih := each_plain (env := env) h.2
    rw [List.map_cons, ← ih]
    cases t <;> first | rfl | cases h.1
theorem valT_true {x : Expr} {env : PySem.Env} (h : valT x = true) (whole : Sem Value) : PySem.isTrue x env whole = (do let v ← whole; standAt x.pos; holding [v] (truthy v)) := by
  cases x <;> first
    | rfl
    | cases h
    | (rename_i op _ _; cases op <;> first | rfl | cases h)
/-- targets -/
theorem ts_star : ∀ {ts : Tgs} {xs : List Expr}, ckTs cs ts xs = true → xs.all notStar = true ∧ ts.len = xs.length
  | .nil, xs, h => by
    unfold ckTs at h
    split at h
    · exact ⟨rfl, rfl⟩
    · cases h
  | .cons t r, xs, h => by
    unfold ckTs at h
    split at h
    · simp only [Bool.and_eq_true] at h
      obtain ⟨h1, h2⟩ := ts_star h.2
      exact ⟨by rw [List.all_cons, h.1.1, h1]; rfl, by show r.len + 1 = _; rw [h2]; rfl⟩
    · cases h
mutual
theorem ck_t (c : Ctx tb S C j cs X W) : ∀ (t : Tg) (x : Expr), ckT cs t x = true → PG X x (tG S (tgN t) (bindT t))
  | .nm i, x, h => by
    unfold ckT at h
    split at h
    · obtain ⟨h1, h2, h3⟩ := c.st h
      exact g_nm (by rw [c.N]; exact c.nd) h1 h2 h3
    · cases h
  | .tp ts, x, h => by
    unfold ckT at h
    split at h
    · rename_i es k pos
      rw [Bool.and_eq_true] at h
      obtain ⟨h1, h2⟩ := ts_star h.2
      have ep := each_plain (env := X.env) h1
      refine g_tp (c.calm h.1) c.pf.eK (ck_ts c ts es h.2) (n := ts.len) (fun ds ρ ρ' e => bindTs_len e) ?_ ?_
      · rw [ep, List.length_map, h2]
      · rw [ep]
        clear ep h2
        induction es with
        | nil => rfl
        | cons e r ih =>
          rw [List.map_cons, List.findIdx?_cons]
          simp
    · cases h
theorem ck_ts (c : Ctx tb S C j cs X W) : ∀ (ts : Tgs) (xs : List Expr), ckTs cs ts xs = true → PGs X xs (tGs S (tgNs ts) (bindTs ts))
  | .nil, xs, h => by
    unfold ckTs at h
    split at h
    · exact g_nil
    · cases h
  | .cons t r, xs, h => by
    unfold ckTs at h
    split at h
    · simp only [Bool.and_eq_true] at h
      refine g_cons (ck_t c t _ h.1.2) (ck_ts c r _ h.2) ?_
      rename_i x xs
      have h1 := h.1.1
      cases x <;> first | rfl | cases h1
    · cases h
end
theorem blk_ok {scope : Scope} {vs : List Nat} (c : Ctx tb S C j cs X W) (h : ckBlk cs scope vs = true) : BlkOk X.N X.env.scope scope (vs.map fun v => (cs.N.getD v "", v)) := by
  unfold ckBlk at h
  simp only [Bool.and_eq_true] at h
  obtain ⟨⟨⟨⟨h1, h2⟩, h3⟩, h4⟩, h5⟩ := h
  have ix : ∀ v ∈ vs, cs.N[v]? = some (cs.N.getD v "") := fun v hv => by
    have := of_decide_eq_true (List.all_eq_true.mp h3 v hv)
    rw [List.getD_eq_getElem?_getD, List.getElem?_eq_getElem this]
    rfl
  refine ⟨of_decide_eq_true h1, fun y hy => of_decide_eq_true (List.all_eq_true.mp h2 y hy), fun p hp => ?_, fun y hy e => ?_, fun y hy e => ?_⟩
  · obtain ⟨v, hv, rfl⟩ := List.mem_map.mp hp
    rw [c.N]; exact ix v hv
  · have := List.all_eq_true.mp h4 y hy
    simp only [Bool.or_eq_true] at this
    rw [c.sc]
    rcases this with (z | z) | z
    · rw [e] at z; cases z
    · exact .inl (of_decide_eq_true z)
    · exact .inr (of_decide_eq_true z)
  · have := List.all_eq_true.mp h5 y hy
    simp only [Bool.or_eq_true] at this
    rcases this with (z | z) | z
    · have : (decide (y.2 = NameKind.local) || decide (y.2 = NameKind.cell)) = true := by
        rcases e with e | e <;> rw [e] <;> rfl
      rw [this] at z; cases z
    · obtain ⟨v, hv, z⟩ := List.any_eq_true.mp z
      refine .inl (List.mem_map.mpr ⟨_, List.mem_map.mpr ⟨v, hv, rfl⟩, ?_⟩)
      have e1 := of_decide_eq_true z
      rw [ix v hv] at e1
      exact Option.some.inj e1
    · refine .inr fun hm => ?_
      rw [c.N] at hm
      have : (cs.N.any fun n => decide (n = y.1)) = true := List.any_eq_true.mpr ⟨_, hm, decide_eq_true rfl⟩
      rw [this] at z; cases z
theorem own_snd (vs : List Nat) (f : Nat → Str) : (vs.map fun v => (f v, v)).map (·.2) = vs := by
  rw [List.map_map]
  exact (List.map_congr_left fun _ _ => rfl).trans (List.map_id vs)
end
end PyD

/-! PyT: an expression that passes the checks does as the evaluator tells. -/
namespace PyD
open PySem L2 LamX
section
variable {tb : Tb} {S : Sx} {C : Cl} {j : Nat}
/-- told by its value -/
theorem both {cs : Cs} {X : Cx} {W : WX} {e : E} {x : Expr} (h : PE X x (tE S W (ev C e))) (hv : valT x = true) : PE X x (tE S W (ev C e)) ∧ (notIf x = true → PT X x (tT S W (fun ρ h => asBool (ev C e ρ h)))) :=
  ⟨h, fun _ => t_val h fun whole => valT_true hv whole⟩
theorem pass_c {cs : Cs} {X : Cx} {W : WX} (c : Ctx tb S C j cs X W) : ∀ σ, PassesAt (L2.CX X.prog X.w) X σ (fun c d H' => W c d σ H') := c.pass
theorem plainX_ix {r : Expr} (h : plainX r = true) : PlainIx r := by
  intro o i
  cases r <;> first | rfl | cases h
theorem noset_behind {op : CmpOp} {r : Expr} (h : noSet r = true) : behindInMarks op r = false := by
  cases r <;> first | rfl | cases h
theorem noset_last {op op' : CmpOp} {r t : Expr} (h : noSet t = true) : lastMarks [op, op'] [r, t] = false := noset_behind h
theorem attr_base {l : Expr} {n : Str} {env : PySem.Env} (h : noCallX l = true) : attributeBase l n env (eval l env) = eval l env := by
  cases l <;> first | rfl | cases h
theorem lam_ok {cs : Cs} {X : Cx} {W : WX} {scope : Scope} {params : Arguments} (c : Ctx tb S C j cs X W) (h : ckLam cs scope params = true) : ∃ od, LamP params od ∧ LamG X.env.scope scope X.N od := by
  unfold ckLam at h
  simp only [Bool.and_eq_true] at h
  obtain ⟨⟨⟨⟨⟨⟨h1, h2⟩, h3⟩, h4⟩, h5⟩, h6⟩, h7⟩ := h
  have own : ∀ y ∈ scope.names, y.2 = .local → y.1 ∉ X.N := fun y hy e hm => by
    have := List.all_eq_true.mp h5 y hy
    rw [e] at this
    rw [c.N] at hm
    have h8 : (cs.N.any fun n => decide (n = y.1)) = true := List.any_eq_true.mpr ⟨_, hm, decide_eq_true rfl⟩
    rw [h8] at this
    cases this
  have cell : ∀ y ∈ scope.names, y.2 ≠ .cell := fun y hy e => by
    have := List.all_eq_true.mp h4 y hy
    rw [e] at this
    cases this
  have free : ∀ y ∈ scope.names, y.2 = .free → X.env.scope.names.lookup y.1 = some .cell ∨ X.env.scope.names.lookup y.1 = some .free := fun y hy e => by
    have := List.all_eq_true.mp h6 y hy
    simp only [Bool.or_eq_true] at this
    rw [c.sc]
    rcases this with (z | z) | z
    · rw [e] at z; cases z
    · exact .inl (of_decide_eq_true z)
    · exact .inr (of_decide_eq_true z)
  unfold parO at h7
  split at h7
  · rename_i e
    split at e
    · exact ⟨none, .no, of_decide_eq_true h1, not_true h2, not_true h3, cell, own, free, fun a n z => by cases z⟩
    · cases e
    · cases e
  · rename_i a n e
    split at e
    · cases e
    · cases e
      exact ⟨some _, .one, of_decide_eq_true h1, not_true h2, not_true h3, cell, own, free, fun a n z => by cases z; exact of_decide_eq_true h7⟩
    · cases e
  · cases h7
theorem Ctx.lamb {cs : Cs} {X : Cx} {W : WX} (c : Ctx tb S C j cs X W) {A : Around} {outer : List PySem.Env} {s : Shared} {H : Hp} {E : XK} {scope : Scope} {f c' : Addr} (hg : A.guards = some []) (hr : Room j (A.deeper (lamEnv X scope s.heap.objs.size f c'))) :
    Ctx tb S C j (cs.lamb scope) (lamCx X A outer s H E scope f c') (fun cls d _ H => E cls d H) := by
  have tk : Takes (lamCx X A outer s H E scope f c') (fun cls d _ H => E cls d H) := takes_of rfl rfl rfl rfl
  exact {
    pf := c.pf
    N := c.N
    nd := c.nd
    sc := rfl
    ost := fun n h => by cases h
    calm := fun _ => rfl
    hu := by have := hr.un; show (A.deeper _).units + 70 < _; omega
    gd := hg
    rm := fun _ => hr
    pass := fun σ => passAt tk σ
    tk := tk
    po := passes_of rfl
    sx := fun z => by cases z
    lam := fun q z => by cases z }
mutual
theorem ck_e : ∀ (e : E), OkE tb S C j e
  | .var i => fun cs X W c x h => by
    unfold ckE at h
    split at h
    · exact both (cs := cs) (s_var (c.var h).1) rfl
    · cases h
  | .fz i => fun cs X W c x h => by unfold ckE at h; cases h
  | .int k => fun cs X W c x h => by
    unfold ckE at h
    split at h
    · rw [← of_decide_eq_true h]
      exact both (cs := cs) (s_const (pe_int) (fun ρ h => by unfold ev; rfl) fun _ _ _ => .int _) rfl
    · cases h
  | .str k => fun cs X W c x h => by
    unfold ckE at h
    split at h
    · rw [← of_decide_eq_true h]
      exact both (cs := cs) (s_const (pe_str) (fun ρ h => by unfold ev; rfl) fun _ _ _ => .str _) rfl
    · cases h
  | .bl k => fun cs X W c x h => by
    unfold ckE at h
    split at h
    · rw [← of_decide_eq_true h]
      exact both (cs := cs) (s_const (L2.pe_bl) (fun ρ h => by unfold ev; rfl) fun _ _ _ => .bl _) rfl
    · cases h
  | .non => fun cs X W c x h => by
    unfold ckE at h
    split at h
    · exact both (cs := cs) (s_const (pe_non) (fun ρ h => by unfold ev; rfl) fun _ _ _ => .non) rfl
    · cases h
  | .glb k => fun cs X W c x h => by
    unfold ckE at h
    split at h
    · rw [Bool.and_eq_true] at h
      obtain ⟨v, d, u, h1, h2, h3, h4⟩ := c.pf.gl k _ (of_decide_eq_true h.1)
      obtain ⟨g1, g2, g3⟩ := c.gname h.2
      exact both (cs := cs) (s_glb (pe_glob g1 h1 h2 g2) h3 h4) rfl
    · cases h
  | .fnv k => fun cs X W c x h => by unfold ckE at h; cases h
  | .bin o a b => fun cs X W c x h => by
    unfold ckE at h
    split at h
    · simp only [Bool.and_eq_true] at h
      rw [of_decide_eq_true h.1.1]
      exact both (cs := cs) (s_bin (pre_of (ck_e a cs X W c _ h.1.2).1 (ck_hv c h.1.2)) (pre_of (ck_e b cs X W c _ h.2).1 (ck_hv c h.2)) c.pf.eK) rfl
    · cases h
  | .neg a => fun cs X W c x h => by
    unfold ckE at h
    split at h
    · exact both (cs := cs) (s_neg (ck_e a cs X W c _ h).1) rfl
    · cases h
  | .nt a => fun cs X W c x h => by
    unfold ckE at h
    split at h
    · rename_i l _
      rw [Bool.and_eq_true] at h
      have ih := ck_e a cs X W c _ h.2
      exact ⟨s_nt ih.1, fun _ => s_ntT (ih.2 h.1)⟩
    · cases h
  | .and es => fun cs X W c x h => by
    unfold ckE at h
    split at h
    · simp only [Bool.and_eq_true] at h
      obtain ⟨_, _, _, _, _, q⟩ := ck_es es cs X W c _ h.1.1
      obtain ⟨q1, _, q3⟩ := q (of_decide_eq_true h.1.2) _
      exact ⟨by unfold ev; exact q1, fun _ => by unfold ev; exact (q3 h.2).1.pt⟩
    · cases h
  | .or es => fun cs X W c x h => by
    unfold ckE at h
    split at h
    · simp only [Bool.and_eq_true] at h
      obtain ⟨_, _, _, _, _, q⟩ := ck_es es cs X W c _ h.1.1
      obtain ⟨_, q2, q3⟩ := q (of_decide_eq_true h.1.2) _
      exact ⟨by unfold ev; exact q2, fun _ => by unfold ev; exact (q3 h.2).2.pt⟩
    · cases h
  | .cmp o a b => fun cs X W c x h => by
    unfold ckE at h
    split at h
    · simp only [Bool.and_eq_true] at h
      rw [of_decide_eq_true h.1.1.1]
      have ha := pre_of (ck_e a cs X W c _ h.1.2).1 (ck_hv c h.1.2)
      have hb := pre_of (ck_e b cs X W c _ h.2).1 (ck_hv c h.2)
      have hu : X.A.units + 65 < cLine := Nat.lt_of_le_of_lt (Nat.add_le_add_left (by decide) _) c.hu
      exact ⟨s_cmp ha hb c.pf.eK hu (noset_behind h.1.1.2), fun _ => s_cmpT ha hb c.pf.eK hu (noset_behind h.1.1.2)⟩
    · cases h
  | .chn o1 o2 a b d => fun cs X W c x h => by
    unfold ckE at h
    split at h
    · simp only [Bool.and_eq_true] at h
      rw [of_decide_eq_true h.1.1.1.1.1, of_decide_eq_true h.1.1.1.1.2]
      have ha := (ck_e a cs X W c _ h.1.1.2).1
      have hb := (ck_e b cs X W c _ h.1.2).1
      have hd := (ck_e d cs X W c _ h.2).1
      have hu : X.A.units + 65 < cLine := Nat.lt_of_le_of_lt (Nat.add_le_add_left (by decide) _) c.hu
      exact ⟨s_chn ha hb hd hu (noset_last h.1.1.1.2), fun _ => t_chn ha hb hd hu (noset_last h.1.1.1.2)⟩
    · cases h
  | .isn a => fun cs X W c x h => by
    unfold ckE at h
    split at h
    · have ha := pre_of (ck_e a cs X W c _ h).1 (ck_hv c h)
      exact ⟨s_isn ha c.pf.eK, fun _ => t_isn ha c.pf.eK⟩
    · cases h
  | .isnn a => fun cs X W c x h => by
    unfold ckE at h
    split at h
    · have ha := pre_of (ck_e a cs X W c _ h).1 (ck_hv c h)
      exact ⟨s_isnn ha c.pf.eK, fun _ => t_isnn ha c.pf.eK⟩
    · cases h
  | .isb a b => fun cs X W c x h => by
    unfold ckE at h
    split at h
    · simp only [Bool.and_eq_true] at h
      rw [← of_decide_eq_true h.1]
      have ha := (ck_e a cs X W c _ h.2).1
      exact ⟨s_isb ha, fun _ => t_isb ha⟩
    · cases h
  | .isnb a b => fun cs X W c x h => by
    unfold ckE at h
    split at h
    · simp only [Bool.and_eq_true] at h
      rw [← of_decide_eq_true h.1]
      have ha := (ck_e a cs X W c _ h.2).1
      exact ⟨s_isnb ha, fun _ => t_isnb ha⟩
    · cases h
  | .ife d a b => fun cs X W c x h => by
    unfold ckE at h
    split at h
    · simp only [Bool.and_eq_true] at h
      refine ⟨s_ife ((ck_e d cs X W c _ h.1.1.1).2 h.2) (ck_e a cs X W c _ h.1.1.2).1 (ck_e b cs X W c _ h.1.2).1, fun z => by cases z⟩
    · cases h
  | .tup es => fun cs X W c x h => by
    unfold ckE at h
    split at h
    · rw [Bool.and_eq_true] at h
      obtain ⟨q1, _, _, _, q5, _⟩ := ck_es es cs X W c _ h.1
      exact both (cs := cs) (s_tup q1 (of_decide_eq_true h.2) q5) rfl
    · cases h
  | .lst es => fun cs X W c x h => by
    unfold ckE at h
    split at h
    · rw [Bool.and_eq_true] at h
      obtain ⟨q1, _, _, _, q5, _⟩ := ck_es es cs X W c _ h.1
      exact both (cs := cs) (s_lst q1 (of_decide_eq_true h.2) q5) rfl
    · cases h
  | .idx a i => fun cs X W c x h => by
    unfold ckE at h
    split at h
    · simp only [Bool.and_eq_true] at h
      have hp := plainX_ix h.1.1
      exact both (cs := cs) (s_idx (pre_of (ck_e a cs X W c _ h.1.2).1 (ck_hv c h.1.2)) (ck_e i cs X W c _ h.2).1 c.pf.eK hp) rfl
    · cases h
  | .slc a lo hi => fun cs X W c x h => by
    unfold ckE at h
    split at h
    · simp only [Bool.and_eq_true] at h
      exact both (cs := cs) (s_slc (pre_of (ck_e a cs X W c _ h.1.1).1 (ck_hv c h.1.1)) ((ck_o lo cs X W c).1 _ h.1.2) ((ck_o hi cs X W c).1 _ h.2) c.pf.eK) rfl
    · cases h
  | .call k es => fun cs X W c x h => by
    unfold ckE at h
    split at h
    · rename_i n p xs pos
      simp only [Bool.and_eq_true] at h
      have hcm := c.rm h.2
      replace h := h.1
      obtain ⟨m, hk⟩ := c.pf.fn k _ (of_decide_eq_true h.1.1.1)
      obtain ⟨kp, F⟩ := c.pf.fv k hk
      obtain ⟨g1, g2, g3⟩ := c.gname h.1.1.2
      have ha := ck_a es cs X W c _ h.1.2
      cases xs with
      | nil =>
        cases es with
        | nil => exact both (cs := cs) (s_call0 F c.gd hcm g1 m kp c.pass g2) rfl
        | cons e r =>
          have h3 := h.1.2
          unfold ckA at h3
          cases h3
      | cons y ys => exact both (cs := cs) (s_call F c.gd hcm g1 m kp c.pass ha g2 h.2) rfl
    · cases h
  | .callv i es => fun cs X W c x h => by
    unfold ckE at h
    split at h
    · rename_i n p xs pos
      simp only [Bool.and_eq_true] at h
      have hcm := c.rm h.2
      replace h := h.1
      obtain ⟨_, v2, v3, v4, v5⟩ := c.var (pos := p) h.1.1.1
      have ha := ck_a es cs X W c _ h.1.1.2
      cases xs with
      | nil => exact absurd (of_decide_eq_true h.2) (by simp)
      | cons y ys => exact both (cs := cs) (s_callv c.pf.fv c.gd hcm v2 v3 c.pass ha v4 v5 h.1.2) rfl
    · cases h
  | .bfn b es => fun cs X W c x h => by
    unfold ckE at h
    split at h
    · rename_i n p xs pos
      simp only [Bool.and_eq_true] at h
      obtain ⟨⟨⟨⟨⟨⟨h1, h2⟩, h3⟩, h4⟩, h5⟩, h6⟩, h7⟩ := h
      have en := of_decide_eq_true h1
      subst en
      obtain ⟨g1, g2, g3⟩ := c.gname h2
      have hm := c.pf.no _ (any_mem h3)
      obtain ⟨_, q2, _, _, _, _⟩ := ck_es es cs X W c _ h5
      have hc : calmB b = true → X.calm = true := fun z => c.calm (by rw [z] at h4; exact h4)
      cases xs with
      | nil => exact absurd (of_decide_eq_true h7) (by simp)
      | cons y ys => exact both (cs := cs) (s_bfn rfl (fun hcr hpa => call_bif b g1 hm h6 hcr hpa) hc c.hu c.gd q2 c.pf.eK) rfl
    · cases h
  | .isi a t => fun cs X W c x h => by
    unfold ckE at h
    split at h
    · rename_i n p l m p2 pos
      simp only [Bool.and_eq_true] at h
      obtain ⟨⟨⟨⟨⟨⟨⟨h1, h2⟩, h3⟩, h4⟩, h5⟩, h6⟩, h7⟩, h8⟩ := h
      have en := of_decide_eq_true h1
      have em := of_decide_eq_true h4
      subst en em
      obtain ⟨g1, g2, g3⟩ := c.gname h2
      obtain ⟨k1, k2, k3⟩ := c.gname h5
      exact both (cs := cs) (s_isi (p1 := pos) (pre_of (ck_e a cs X W c _ h8).1 (ck_hv c h8)) c.pf.eK g1 (c.pf.no _ (any_mem h3)) (pe_bltn k1 (c.pf.no _ (any_mem h6)) (ty_boot t) rfl k3 k2) h7) rfl
    · cases h
  | .isx i k => fun cs X W c x h => by
    unfold ckE at h
    split at h
    · rename_i n p e p1 m p2 pos
      simp only [Bool.and_eq_true] at h
      obtain ⟨⟨⟨⟨⟨⟨h1, h2⟩, h3⟩, h4⟩, h5⟩, h6⟩, h7⟩ := h
      have en := of_decide_eq_true h2
      subst en
      obtain ⟨g1, g2, g3⟩ := c.gname h3
      obtain ⟨k1, k2, k3⟩ := c.gname h6
      obtain ⟨X0, a, oe, pn, c0, hX, hea, hz, hf⟩ := c.sx h1
      have hm := c.pf.no _ (any_mem h4)
      have hE : (∃ b, C.sub c0 k = some b) → ExcC X.K (S.ca c0) := fun ⟨b, hb⟩ => (c.pf.sub c0 k b hb).1
      rw [Bool.or_eq_true] at h7
      rcases h7 with h7 | h7
      · have hx := of_decide_eq_true h7
        exact both (cs := cs) (s_isx hX hea hz hf hE (c.var h5).1 (pe_glob k1 (c.pf.ex k _ hx).1 (v := .ref (S.ca k)) rfl k2) (u := .ref (S.ca k)) (fun w e => e) (fun b hb => ((c.pf.sub c0 k b hb).2.1 _ hx).1) g1 hm rfl) rfl
      · rw [Bool.and_eq_true] at h7
        have hk := of_decide_eq_true h7.1
        have hx := of_decide_eq_true h7.2
        by_cases hb : ∃ b, C.sub c0 k = some b
        · obtain ⟨b, hb⟩ := hb
          obtain ⟨T, t1, t2, t3⟩ := (c.pf.sub c0 k b hb).2.2 (k - 1000) m (by omega) hx
          exact both (cs := cs) (s_isx hX hea hz hf hE (c.var h5).1 (pe_bltn k1 t1 t2 (v := .ty T) rfl k3 k2) (u := .type T) (fun w e => e) (fun b' hb' => by rw [hb] at hb'; cases hb'; exact t3) g1 hm rfl) rfl
        · have never : PE X (.Call (.Name "isinstance" p) [.Name e p1, .Name m p2] [] pos) (tE S W (ev C (.isx i k))) := by
            refine ⟨fun pins s σ H Q I h => ?_⟩
            obtain ⟨G, rfl, hd, ρ, h, R, oo⟩ := h
            unfold ev at oo
            cases q : ρ[i]? with
            | none => rw [q] at oo; exact oo.elim
            | some s =>
              rw [q] at oo
              cases s with
              | exc c' =>
                obtain ⟨e1, e2⟩ := R.slot i _ q a c0 hea
                subst e2
                dsimp only at oo
                cases eb : C.sub c' k with
                | none => rw [eb] at oo; exact oo.elim
                | some b => exact absurd ⟨b, eb⟩ hb
              | _ => exact oo.elim
          exact both (cs := cs) never rfl
    · cases h
  | .mth1 m o e => fun cs X W c x h => by
    unfold ckE at h
    split at h
    · simp only [Bool.and_eq_true] at h
      obtain ⟨⟨⟨⟨⟨h1, h2⟩, h3⟩, h4⟩, h5⟩, h6⟩ := h
      rw [of_decide_eq_true h1]
      exact both (cs := cs) (s_mth1 m (pre_of (ck_e o cs X W c _ h5).1 (ck_hv c h5)) (ck_e e cs X W c _ h6).1 h4 c.pf.eK c.hu (attr_base h2) h3) rfl
    · cases h
  | .dic0 => fun cs X W c x h => by
    unfold ckE at h
    split at h
    · exact both (cs := cs) s_dic0 rfl
    · cases h
  | .lrg (.rng1 a) => fun cs X W c x h => by
    unfold ckE at h
    split at h
    · simp only [Bool.and_eq_true] at h
      obtain ⟨⟨⟨⟨⟨g1, g2⟩, g3⟩, g4⟩, _⟩, g6⟩ := h
      have en := of_decide_eq_true g2
      subst en
      unfold ckSrc at g6
      split at g6
      · simp only [Bool.and_eq_true] at g6
        obtain ⟨⟨⟨⟨h1, h2⟩, h3⟩, h4⟩, h5⟩ := g6
        have en := of_decide_eq_true h1
        subst en
        exact both (cs := cs) (s_lrg1 (ck_e a cs X W c _ h5).1 (c.gname h2).1 (c.pf.no _ (any_mem h3)) (c.gname g3).1 (c.pf.no _ (any_mem g4)) h4 (c.calm g1)) rfl
      · cases g6
    · cases h
  | .lrg (.rng2 a b) => fun cs X W c x h => by
    unfold ckE at h
    split at h
    · simp only [Bool.and_eq_true] at h
      obtain ⟨⟨⟨⟨⟨g1, g2⟩, g3⟩, g4⟩, _⟩, g6⟩ := h
      have en := of_decide_eq_true g2
      subst en
      unfold ckSrc at g6
      split at g6
      · simp only [Bool.and_eq_true] at g6
        obtain ⟨⟨⟨⟨⟨⟨h1, h2⟩, h3⟩, h4⟩, h5⟩, h6⟩, h7⟩ := g6
        have en := of_decide_eq_true h1
        subst en
        exact both (cs := cs) (s_lrg2 (ck_e a cs X W c _ h6).1 (ck_e b cs X W c _ h7).1 (c.gname h2).1 (c.pf.no _ (any_mem h3)) (c.gname g3).1 (c.pf.no _ (any_mem g4)) h4 h5 (c.calm g1)) rfl
      · cases g6
    · cases h
  | .lrg (.val a) => fun cs X W c x h => by
    unfold ckE at h
    split at h
    · simp only [Bool.and_eq_true, isRng2, Bool.false_eq_true, and_false, false_and] at h
    · cases h
  | .lrg (.rng3 a b d) => fun cs X W c x h => by
    unfold ckE at h
    split at h
    · simp only [Bool.and_eq_true, isRng2, Bool.false_eq_true, and_false, false_and] at h
    · cases h
  | .lrg (.zip a b) => fun cs X W c x h => by
    unfold ckE at h
    split at h
    · simp only [Bool.and_eq_true, isRng2, Bool.false_eq_true, and_false, false_and] at h
    · cases h
  | .lrg (.enm a) => fun cs X W c x h => by
    unfold ckE at h
    split at h
    · simp only [Bool.and_eq_true, isRng2, Bool.false_eq_true, and_false, false_and] at h
    · cases h
  | .lrg (.enz a b) => fun cs X W c x h => by
    unfold ckE at h
    split at h
    · simp only [Bool.and_eq_true, isRng2, Bool.false_eq_true, and_false, false_and] at h
    · cases h
  | .trg (.rng1 a) => fun cs X W c x h => by
    unfold ckE at h
    split at h
    · simp only [Bool.and_eq_true] at h
      obtain ⟨⟨⟨⟨⟨g1, g2⟩, g3⟩, g4⟩, _⟩, g6⟩ := h
      have en := of_decide_eq_true g2
      subst en
      unfold ckSrc at g6
      split at g6
      · simp only [Bool.and_eq_true] at g6
        obtain ⟨⟨⟨⟨h1, h2⟩, h3⟩, h4⟩, h5⟩ := g6
        have en := of_decide_eq_true h1
        subst en
        exact both (cs := cs) (s_trg1 (ck_e a cs X W c _ h5).1 (c.gname h2).1 (c.pf.no _ (any_mem h3)) (c.gname g3).1 (c.pf.no _ (any_mem g4)) h4 (c.calm g1)) rfl
      · cases g6
    · cases h
  | .trg (.rng2 a b) => fun cs X W c x h => by
    unfold ckE at h
    split at h
    · simp only [Bool.and_eq_true] at h
      obtain ⟨⟨⟨⟨⟨g1, g2⟩, g3⟩, g4⟩, _⟩, g6⟩ := h
      have en := of_decide_eq_true g2
      subst en
      unfold ckSrc at g6
      split at g6
      · simp only [Bool.and_eq_true] at g6
        obtain ⟨⟨⟨⟨⟨⟨h1, h2⟩, h3⟩, h4⟩, h5⟩, h6⟩, h7⟩ := g6
        have en := of_decide_eq_true h1
        subst en
        exact both (cs := cs) (s_trg2 (ck_e a cs X W c _ h6).1 (ck_e b cs X W c _ h7).1 (c.gname h2).1 (c.pf.no _ (any_mem h3)) (c.gname g3).1 (c.pf.no _ (any_mem g4)) h4 h5 (c.calm g1)) rfl
      · cases g6
    · cases h
  | .trg (.val a) => fun cs X W c x h => by
    unfold ckE at h
    split at h
    · simp only [Bool.and_eq_true, isRng, Bool.false_eq_true, and_false, false_and] at h
    · cases h
  | .trg (.rng3 a b d) => fun cs X W c x h => by
    unfold ckE at h
    split at h
    · simp only [Bool.and_eq_true] at h
      obtain ⟨⟨⟨⟨⟨g1, g2⟩, g3⟩, g4⟩, _⟩, g6⟩ := h
      have en := of_decide_eq_true g2
      subst en
      unfold ckSrc at g6
      split at g6
      · simp only [Bool.and_eq_true] at g6
        obtain ⟨⟨⟨⟨⟨⟨⟨⟨h1, h2⟩, h3⟩, h4⟩, h5⟩, h6⟩, h7⟩, h8⟩, h9⟩ := g6
        have en := of_decide_eq_true h1
        subst en
        exact both (cs := cs) (s_trg3 (ck_e a cs X W c _ h7).1 (ck_e b cs X W c _ h8).1 (ck_e d cs X W c _ h9).1 (c.gname h2).1 (c.pf.no _ (any_mem h3)) (c.gname g3).1 (c.pf.no _ (any_mem g4)) h4 h5 h6 (c.calm g1)) rfl
      · cases g6
    · cases h
  | .trg (.zip a b) => fun cs X W c x h => by
    unfold ckE at h
    split at h
    · simp only [Bool.and_eq_true, isRng, Bool.false_eq_true, and_false, false_and] at h
    · cases h
  | .trg (.enm a) => fun cs X W c x h => by
    unfold ckE at h
    split at h
    · simp only [Bool.and_eq_true, isRng, Bool.false_eq_true, and_false, false_and] at h
    · cases h
  | .trg (.enz a b) => fun cs X W c x h => by
    unfold ckE at h
    split at h
    · simp only [Bool.and_eq_true, isRng, Bool.false_eq_true, and_false, false_and] at h
    · cases h
  | .pop0 i => fun cs X W c x h => by
    unfold ckE at h
    split at h
    · simp only [Bool.and_eq_true] at h
      rw [of_decide_eq_true h.1.1]
      exact both (cs := cs) (s_pop0 (c.var h.1.2).1 rfl h.2) rfl
    · cases h
  | .pop1 i e => fun cs X W c x h => by
    unfold ckE at h
    split at h
    · simp only [Bool.and_eq_true] at h
      rw [of_decide_eq_true h.1.1.1.1]
      exact both (cs := cs) (s_pop1 (c.var h.1.1.1.2).1 (ck_e e cs X W c _ h.2).1 h.1.2 rfl h.1.1.2) rfl
    · cases h
  | .comp vs t src cond elt => fun cs X W c x h => by
    unfold ckE at h
    split at h
    · simp only [Bool.and_eq_true] at h
      obtain ⟨⟨⟨⟨⟨⟨⟨h1, h2⟩, h3⟩, h4⟩, h5⟩, h6⟩, h7⟩, h8⟩ := h
      have hs : ∀ i ∈ tgN t, i ∈ vs := fun i hi => by
        obtain ⟨v, hv, e⟩ := List.any_eq_true.mp (List.all_eq_true.mp h3 i hi)
        rw [of_decide_eq_true e]; exact hv
      exact both (cs := cs) (s_comp (c.calm h1) (by rw [c.N]; exact c.nd) (ck_src src cs X W c true _ _ h5) (blk_ok c h2) (own_snd vs _) hs
        (fun s H Ca cl fp => ck_t (c.blk s H _ Ca cl fp) t _ h6) (fun s H Ca cl fp => (ck_o cond _ _ _ (c.blk s H _ Ca cl fp)).2 _ h7) (fun s H Ca cl fp => (ck_e elt _ _ _ (c.blk s H _ Ca cl fp) _ h8).1) (folded_no h4)) rfl
    · cases h
  | .lamc k b => fun cs X W c x h => by
    unfold ckE at h
    split at h
    · rename_i n p params body scope lpos pos
      simp only [Bool.and_eq_true] at h
      obtain ⟨⟨⟨⟨⟨h1, h2⟩, h3⟩, h4⟩, h5⟩, h6⟩ := h
      obtain ⟨g1, g2, g3⟩ := c.gname h3
      obtain ⟨q, eq⟩ := Option.isSome_iff_exists.mp h4
      obtain ⟨ca, P, TB, hcode, hq, hmT, hu, hr⟩ := c.lam q eq
      obtain ⟨od, lp, L⟩ := lam_ok c h5
      have td := c.pf.td (k - 1000) n (of_decide_eq_true h2)
      have ek : 1000 + (k - 1000) = k := by have := of_decide_eq_true h1; omega
      rw [ek] at td
      exact both (cs := cs) (s_lamc td lp TB hcode hq hmT hu hr c.gd L g1 g2 (fun A outer s H E f c' hg hr2 => (ck_e b _ _ _ (c.lamb hg hr2) _ h6).1)) rfl
    · cases h
  | .rev a => fun cs X W c x h => by
    unfold ckE at h
    split at h
    · rw [Bool.and_eq_true] at h
      rw [of_decide_eq_true h.1]
      exact both (cs := cs) (s_rev (pre_of (ck_e a cs X W c _ h.2).1 (ck_hv c h.2)) c.pf.eK) rfl
    · cases h
  | .revt a => fun cs X W c x h => by
    unfold ckE at h
    split at h
    · rw [Bool.and_eq_true, Bool.and_eq_true] at h
      rw [of_decide_eq_true h.1.1, of_decide_eq_true h.1.2]
      exact both (cs := cs) (s_revt (pre_of (ck_e a cs X W c _ h.2).1 (ck_hv c h.2)) c.pf.eK) rfl
    · cases h
  | .skip => fun cs X W c x h => ⟨s_skip, fun _ => t_skip⟩
  | .dgt o k => fun cs X W c x h => by
    unfold ckE at h
    split at h
    · simp only [Bool.and_eq_true] at h
      exact both (cs := cs) (s_dgt (pre_of (ck_e o cs X W c _ h.1.2).1 (ck_hv c h.1.2)) (ck_e k cs X W c _ h.2).1 c.pf.eK c.hu (nosl_of h.1.1)) rfl
    · cases h
  | .dcomp vs t src cond key val => fun cs X W c x h => by
    unfold ckE at h
    split at h
    · simp only [Bool.and_eq_true] at h
      obtain ⟨⟨⟨⟨⟨⟨⟨⟨h1, h2⟩, h3⟩, h4⟩, h5⟩, h6⟩, h7⟩, h8⟩, h9⟩ := h
      have hs : ∀ i ∈ tgN t, i ∈ vs := fun i hi => by
        obtain ⟨v, hv, e⟩ := List.any_eq_true.mp (List.all_eq_true.mp h3 i hi)
        rw [of_decide_eq_true e]; exact hv
      exact both (cs := cs) (s_dcomp (c.calm h1) (by rw [c.N]; exact c.nd) (ck_src src cs X W c true _ _ h5) (blk_ok c h2) (own_snd vs _) hs
        (fun s H Ca cl fp => ck_t (c.blk s H _ Ca cl fp) t _ h6) (fun s H Ca cl fp => (ck_o cond _ _ _ (c.blk s H _ Ca cl fp)).2 _ h7) (fun s H Ca cl fp => (ck_e key _ _ _ (c.blk s H _ Ca cl fp) _ h8).1) (fun s H Ca cl fp => (ck_e val _ _ _ (c.blk s H _ Ca cl fp) _ h9).1) (folded_no h4)) rfl
    · cases h
  | .dic1 k v => fun cs X W c x h => by
    unfold ckE at h
    split at h
    · rw [Bool.and_eq_true] at h
      exact both (cs := cs) (s_dic1 (ck_e k cs X W c _ h.1).1 (ck_e v cs X W c _ h.2).1) rfl
    · cases h
theorem ck_es : ∀ (es : Es), OkEs tb S C j es
  | .nil => fun cs X W c xs h => by
    unfold ckEs at h
    split at h
    · exact ⟨as_nil, ap_nil, al_nil, rfl, rfl, fun z => by cases z⟩
    · cases h
  | .cons e .nil => fun cs X W c xs h => by
    unfold ckEs at h
    split at h
    · rename_i x xs
      simp only [Bool.and_eq_true] at h
      have h2 := h.2
      unfold ckEs at h2
      cases xs with
      | cons y ys => cases h2
      | nil =>
        have ih := ck_e e cs X W c _ h.1.2
        refine ⟨as_cons ih.1 as_nil h.1.1, ap_cons (pre_of ih.1 (ck_hv c h.1.2)) ap_nil h.1.1, al_cons ih.1 al_nil h.1.1, by rw [List.all_cons, h.1.1]; rfl, rfl, fun _ pos => ⟨s_and1 ih.1, s_or1 ih.1, fun z => ?_⟩⟩
        have z1 : notIf x = true := by rw [List.all_cons, Bool.and_eq_true] at z; exact z.1
        exact ⟨w_and1 (ih.2 z1), w_or1 (ih.2 z1)⟩
    · cases h
  | .cons e (.cons e2 r) => fun cs X W c xs h => by
    unfold ckEs at h
    split at h
    · rename_i x xs
      simp only [Bool.and_eq_true] at h
      have ih := ck_e e cs X W c _ h.1.2
      obtain ⟨q1, q2, q3, q4, q5, q6⟩ := ck_es (.cons e2 r) cs X W c _ h.2
      refine ⟨as_cons ih.1 q1 h.1.1, ap_cons (pre_of ih.1 (ck_hv c h.1.2)) q2 h.1.1, al_cons ih.1 q3 h.1.1, by rw [List.all_cons, h.1.1, q4]; rfl, by show (Es.cons e2 r).len + 1 = _; rw [q5]; rfl, fun _ pos => ?_⟩
      cases xs with
      | nil => cases q5
      | cons y ys =>
        obtain ⟨a1, a2, a3⟩ := q6 (Nat.succ_pos _) pos
        refine ⟨s_and ih.1 a1, s_or ih.1 a2, fun z => ?_⟩
        rw [List.all_cons, Bool.and_eq_true] at z
        exact ⟨w_and (ih.2 z.1) (a3 z.2).1, w_or (ih.2 z.1) (a3 z.2).2⟩
    · cases h
theorem ck_a : ∀ (es : Es), OkA tb S C j es
  | .nil => fun cs X W c xs h => by
    unfold ckA at h
    split at h
    · exact aa_nil
    · cases h
  | .cons e r => fun cs X W c xs h => by
    unfold ckA at h
    split at h
    · rename_i x xs
      simp only [Bool.and_eq_true] at h
      refine aa_cons (arg_of (fun hn => ?_) (fun i ei => ?_) fun k ek => ?_) (ck_a r cs X W c _ h.2) h.1.1
      · have h2 : ckE tb cs e x = true := by
          have h3 := h.1.2
          cases e <;> first | exact h3 | exact absurd rfl (hn _)
        exact (ck_e e cs X W c _ h2).1
      · subst ei
        exact ck_hv c h.1.2 i rfl
      · subst ek
        have h2 := h.1.2
        dsimp only at h2
        split at h2
        · rw [Bool.and_eq_true] at h2
          obtain ⟨m, hk⟩ := c.pf.fn k _ (of_decide_eq_true h2.1)
          obtain ⟨g1, g2, g3⟩ := c.gname h2.2
          exact ⟨pe_glob g1 m rfl g2, hk⟩
        · cases h2
    · cases h
theorem ck_o : ∀ (eo : Eo), OkO tb S C j eo
  | .no => fun cs X W c => by
    refine ⟨fun o h => ?_, fun ifs h => ?_⟩
    · unfold ckO at h
      split at h
      · exact o_no
      · cases h
    · unfold ckC at h
      split at h
      · refine PTs.imp pts_nil fun σ H Q h => ?_
        obtain ⟨G, rfl, hd, ρ, h, R, o⟩ := h
        unfold evc at o
        exact o H R (Stp.refl _ _)
      · cases h
  | .so e => fun cs X W c => by
    refine ⟨fun o h => ?_, fun ifs h => ?_⟩
    · unfold ckO at h
      split at h
      · exact o_so (ck_e e cs X W c _ h).1
      · cases h
    · unfold ckC at h
      split at h
      · rw [Bool.and_eq_true] at h
        have ih := (ck_e e cs X W c _ h.1).2 h.2
        unfold evc
        exact pts_one ih
      · cases h
theorem ck_src : ∀ (src : Src), OkSrc tb S C j src
  | .val e => fun cs X W c own tg it h => by
    unfold ckSrc at h
    exact s_srcV (pre_of (ck_e e cs X W c _ h).1 (ck_hv c h)) c.pf.eK
  | .rng1 a => fun cs X W c own tg it h => by
    unfold ckSrc at h
    split at h
    · simp only [Bool.and_eq_true] at h
      obtain ⟨⟨⟨⟨h1, h2⟩, h3⟩, h4⟩, h5⟩ := h
      have en := of_decide_eq_true h1
      subst en
      exact s_srcR1 (ck_e a cs X W c _ h5).1 (c.gname h2).1 (c.pf.no _ (any_mem h3)) h4
    · cases h
  | .rng2 a b => fun cs X W c own tg it h => by
    unfold ckSrc at h
    split at h
    · simp only [Bool.and_eq_true] at h
      obtain ⟨⟨⟨⟨⟨⟨h1, h2⟩, h3⟩, h4⟩, h5⟩, h6⟩, h7⟩ := h
      have en := of_decide_eq_true h1
      subst en
      exact s_srcR2 (ck_e a cs X W c _ h6).1 (ck_e b cs X W c _ h7).1 (c.gname h2).1 (c.pf.no _ (any_mem h3)) h4 h5
    · cases h
  | .rng3 a b d => fun cs X W c own tg it h => by
    unfold ckSrc at h
    split at h
    · simp only [Bool.and_eq_true] at h
      obtain ⟨⟨⟨⟨⟨⟨⟨⟨h1, h2⟩, h3⟩, h4⟩, h5⟩, h6⟩, h7⟩, h8⟩, h9⟩ := h
      have en := of_decide_eq_true h1
      subst en
      exact s_srcR3 (ck_e a cs X W c _ h7).1 (ck_e b cs X W c _ h8).1 (ck_e d cs X W c _ h9).1 (c.gname h2).1 (c.pf.no _ (any_mem h3)) h4 h5 h6
    · cases h
  | .zip a b => fun cs X W c own tg it h => by
    unfold ckSrc at h
    split at h
    · simp only [Bool.and_eq_true] at h
      obtain ⟨⟨⟨⟨⟨⟨h1, h2⟩, h3⟩, h4⟩, h5⟩, h6⟩, h7⟩ := h
      have en := of_decide_eq_true h1
      subst en
      exact s_srcZ (pre_of (ck_e a cs X W c _ h6).1 (ck_hv c h6)) (pre_of (ck_e b cs X W c _ h7).1 (ck_hv c h7)) c.pf.eK (c.gname h2).1 (c.pf.no _ (any_mem h3)) h4 h5
    · cases h
  | .enm a => fun cs X W c own tg it h => by
    unfold ckSrc at h
    split at h
    · simp only [Bool.and_eq_true] at h
      obtain ⟨⟨⟨⟨h1, h2⟩, h3⟩, h4⟩, h5⟩ := h
      have en := of_decide_eq_true h1
      subst en
      exact s_srcE (pre_of (ck_e a cs X W c _ h5).1 (ck_hv c h5)) c.pf.eK (c.gname h2).1 (c.pf.no _ (any_mem h3)) h4
    · cases h
  | .enz a b => fun cs X W c own tg it h => by
    unfold ckSrc at h
    split at h
    · simp only [Bool.and_eq_true] at h
      obtain ⟨⟨⟨⟨⟨⟨⟨⟨⟨h1, h2⟩, h3⟩, g1⟩, g2⟩, g3⟩, h4⟩, h5⟩, h6⟩, h7⟩ := h
      have en := of_decide_eq_true h1
      subst en
      have en2 := of_decide_eq_true g1
      subst en2
      exact s_srcEZ (pre_of (ck_e a cs X W c _ h6).1 (ck_hv c h6)) (pre_of (ck_e b cs X W c _ h7).1 (ck_hv c h7)) c.pf.eK (c.gname h2).1 (c.pf.no _ (any_mem h3)) (c.gname g2).1 (c.pf.no _ (any_mem g3)) h4 h5
    · cases h
end
end
end PyD

/-! PyU: statements that pass the checks. -/
namespace PyD
open PySem L2 LamX

/-! ### stores that are exchanged, or not -/
section
variable {env : PySem.Env} {n m k : Str} {px py pz pt pt2 : Pos} {kt k2 : Nat} {a b c : Expr}
theorem blockKind_of (hk : env.scope.kind = .function) : env.blockKind = .function := by
  unfold Env.blockKind
  rw [hk]
  rfl
def starB : Expr → Bool
  | .Starred _ _ => true
  | _ => false
theorem star_false {a : Expr} (h : notStar a = true) : (match a with | .Starred .. => true | _ => false) = false := by
  cases a <;> first | rfl | cases h
theorem sw_par2 (hk : env.scope.kind = .function) (hn : env.scope.names.lookup n = some .local) (hm : env.scope.names.lookup m = some .local) (hl : py.line = px.line) (hne : n ≠ m) (ha : notStar a = true) (hb : notStar b = true)
    (hf : [a, b].all (foldedForSure 8) = false) (hc : [a, b].all (constantsAlone 8) = false) : swappedStores [.Tuple [.Name n px, .Name m py] kt pt] (.Tuple [a, b] k2 pt2) env = pure (some [n, m]) := by
  have kn : env.kindOf n = some .local := hn
  have km : env.kindOf m = some .local := hm
  have e1 : ([n, m] : List Str).eraseDups.length = 2 := by
    have hne' : (m == n) = false := by simpa using Ne.symm hne
    simp [List.eraseDups_cons, hne']
  unfold swappedStores
  simp only [blockKind_of hk, hf, hc, List.filterMap_cons, List.filterMap_nil, List.head?_cons, Option.map_some, Option.getD_some, Expr.pos, kn, km, hl, beq_self_eq_true, Bool.and_self, if_true, List.length_cons, List.length_nil, e1, bne_self_eq_false, Bool.or_false, Bool.false_eq_true, if_false, Bool.not_true, Nat.reduceAdd, Bool.true_or, Bool.or_self]
  rw [if_neg fun h => ?_]
  simp only [List.any_cons, List.any_nil, Bool.or_false, Bool.or_eq_true] at h
  rcases h with h | h
  · cases a <;> first | (cases ha; done) | (cases h; done)
  · cases b <;> first | (cases hb; done) | (cases h; done)
theorem sw_par3 (hk : env.scope.kind = .function) (hn : env.scope.names.lookup n = some .local) (hm : env.scope.names.lookup m = some .local) (hk2 : env.scope.names.lookup k = some .local) (hl : py.line = px.line) (hl2 : pz.line = px.line) (hne : n ≠ m) (hne2 : n ≠ k) (hne3 : m ≠ k) (ha : notStar a = true) (hb : notStar b = true) (hc' : notStar c = true)
    (hf : [a, b, c].all (foldedForSure 8) = false) (hc : [a, b, c].all (constantsAlone 8) = false) : swappedStores [.Tuple [.Name n px, .Name m py, .Name k pz] kt pt] (.Tuple [a, b, c] k2 pt2) env = pure (some [n, m, k]) := by
  have kn : env.kindOf n = some .local := hn
  have km : env.kindOf m = some .local := hm
  have kk : env.kindOf k = some .local := hk2
  have e1 : ([n, m, k] : List Str).eraseDups.length = 3 := by
    have h1 : (m == n) = false := by simpa using Ne.symm hne
    have h2 : (k == n) = false := by simpa using Ne.symm hne2
    have h3 : (k == m) = false := by simpa using Ne.symm hne3
    simp [List.eraseDups_cons, h1, h2, h3]
  unfold swappedStores
  simp only [blockKind_of hk, hf, hc, List.filterMap_cons, List.filterMap_nil, List.head?_cons, Option.map_some, Option.getD_some, Expr.pos, kn, km, kk, hl, hl2, beq_self_eq_true, Bool.and_self, if_true, List.length_cons, List.length_nil, e1, bne_self_eq_false, Bool.or_false, Bool.false_eq_true, if_false, Bool.not_true, Nat.reduceAdd, Bool.or_true, Bool.or_self]
  rw [if_neg fun h => ?_]
  simp only [List.any_cons, List.any_nil, Bool.or_false, Bool.or_eq_true] at h
  rcases h with h | h | h
  · cases a <;> first | (cases ha; done) | (cases h; done)
  · cases b <;> first | (cases hb; done) | (cases h; done)
  · cases c <;> first | (cases hc'; done) | (cases h; done)
theorem sw_cell2 (hn : env.scope.names.lookup n ≠ some .local ∨ env.scope.names.lookup m ≠ some .local) : swappedStores [.Tuple [.Name n px, .Name m py] kt pt] (.Tuple [a, b] k2 pt2) env = pure none := by
  have kn : env.kindOf n = env.scope.names.lookup n := rfl
  have km : env.kindOf m = env.scope.names.lookup m := rfl
  rcases hn with hn | hn
  · have h2 : (env.kindOf n == some .local) = false := by rw [kn]; simpa using hn
    unfold swappedStores
    simp only [List.filterMap_cons, List.filterMap_nil, h2, Bool.false_and, Bool.false_eq_true, if_false]
    by_cases hc : (env.kindOf m == some .local && py.line == (Option.map (fun x => x.pos.line) [Expr.Name n px, Expr.Name m py].head?).getD 0) = true
    · simp only [hc, if_true]
      repeat (first | rfl | split)
    · simp only [hc, if_false]
      repeat (first | rfl | split)
  · have h2 : (env.kindOf m == some .local) = false := by rw [km]; simpa using hn
    unfold swappedStores
    simp only [List.filterMap_cons, List.filterMap_nil, h2, Bool.false_and, Bool.false_eq_true, if_false]
    by_cases hc : (env.kindOf n == some .local && px.line == (Option.map (fun x => x.pos.line) [Expr.Name n px, Expr.Name m py].head?).getD 0) = true
    · simp only [hc, if_true]
      repeat (first | rfl | split)
    · simp only [hc, if_false]
      repeat (first | rfl | split)
theorem sw_subs {x1 y1 x2 y2 : Expr} {t1 t2 : Pos} : swappedStores [.Tuple [.Subscript x1 y1 t1, .Subscript x2 y2 t2] kt pt] (.Tuple [a, b] k2 pt2) env = pure none := by
  unfold swappedStores
  simp only [List.filterMap_cons, List.filterMap_nil]
  repeat (first | rfl | split)
theorem sw_folded {ts vs : List Expr} (hf : vs.all (foldedForSure 8) = true) : swappedStores [.Tuple ts kt pt] (.Tuple vs k2 pt2) env = pure none := by
  unfold swappedStores
  simp only [hf, if_true]
  split
  · rfl
  · split
    · rfl
    · split <;> rfl
theorem sw_len {ts vs : List Expr} (hl : (!(ts.length == 2 || ts.length == 3)) = true) : swappedStores [.Tuple ts kt pt] (.Tuple vs k2 pt2) env = pure none := by
  unfold swappedStores
  simp only [hl, Bool.true_or, if_true]
end
def noTupX : Expr → Bool
  | .Tuple _ _ _ => false
  | _ => true
theorem sw_notup {ts : List Expr} {x : Expr} {kt : Nat} {pt : Pos} {env : PySem.Env} (h : noTupX x = true) : swappedStores [.Tuple ts kt pt] x env = pure none := by
  cases x <;> first | rfl | cases h
def noComp : Expr → Bool
  | .ListComp _ _ _ _ => false
  | .SetComp _ _ _ _ => false
  | .DictComp _ _ _ _ _ => false
  | _ => true
theorem swaps_no {x : Expr} {t : Option Expr} {l : Nat} {env : PySem.Env} (h : noComp x = true) : swapsWith x t l env = pure false := by
  cases x <;> first | rfl | cases h
theorem swaps_sub {x o i : Expr} {p : Pos} {l : Nat} {env : PySem.Env} : swapsWith x (some (.Subscript o i p)) l env = pure false := by
  cases x <;> rfl
theorem swaps_tup {x : Expr} {es : List Expr} {k : Nat} {p : Pos} {l : Nat} {env : PySem.Env} : swapsWith x (some (.Tuple es k p)) l env = pure false := by
  cases x <;> rfl
theorem swaps_kind {elt : Expr} {gs : List Comprehension} {scope : Scope} {pos py : Pos} {y : Str} {l : Nat} {env : PySem.Env} (h : env.scope.names.lookup y ≠ some .local) : swapsWith (.ListComp elt gs scope pos) (some (.Name y py)) l env = pure false := by
  have h : env.kindOf y ≠ some .local := h
  have h2 : (env.kindOf y == some .local) = false := by simpa using h
  unfold swapsWith
  simp only [h2, Bool.and_false, Bool.false_and]
theorem assign_sub {o i : Expr} {p : Pos} {env : PySem.Env} (h : plainX i = true) : ∀ v, assign (.Subscript o i p) env v = (do
      let ov ← holding [v] (eval o env)
      let iv ← holding [v, ov] (eval i env)
      standAt p
      holding [v, ov, iv] (setItem ov iv v)
      release [v, ov, iv] []) := by
  intro v
  cases i <;> first | rfl | cases h
theorem aug_store {i : Expr} (h : plainX i = true) : ∀ ov iv new, augStore i ov iv new = (do holding [new, ov, iv] (setItem ov iv new); release [new, ov, iv] []; pure .next) := by
  intro ov iv new
  cases i <;> first | rfl | cases h
section
variable {X : Cx} {S : Sx} {W : WX} {C : Cl} {th : Option (Hand → Cr)} {vs : List Nat} {t : Tg} {src : Src} {cond : Eo} {elt : E} {x tg iter : Expr} {ifs : List Expr} {scope : Scope} {own : List (Str × Nat)} {pos spos py : Pos} {i : Nat} {y : Str}
theorem ss_asgC (hc : X.calm = true) (hN : X.N.Nodup) (hy : X.N[i]? = some y) (hyl : X.env.scope.names.lookup y = some .local) (hsw : swapsWith (.ListComp x [⟨tg, iter, ifs, 0⟩] scope pos) (some (.Name y py)) spos.line X.env = pure true)
    (hi : PI X tg iter (tI S W true (evSrc C true src))) (ok : BlkOk X.N X.env.scope scope own) (hv : own.map (·.2) = vs) (hs : ∀ i ∈ tgN t, i ∈ vs)
    (hg : ∀ (s : Shared) (H : Hp) (Ca : Addr) (cl : List (Str × Addr)) (fp : List Addr), PG (X.blk s H scope (compEnvC scope cl Ca X.env) fp) tg (tG S (tgN t) (bindT t)))
    (ht : ∀ (s : Shared) (H : Hp) (Ca : Addr) (cl : List (Str × Addr)) (fp : List Addr), PTs (X.blk s H scope (compEnvC scope cl Ca X.env) fp) ifs (tT S noW (evc C cond)))
    (he : ∀ (s : Shared) (H : Hp) (Ca : Addr) (cl : List (Str × Addr)) (fp : List Addr), PE (X.blk s H scope (compEnvC scope cl Ca X.env) fp) x (tE S noW (ev C elt))) (hf : ∀ x, foldedSetIterable iter X.env x = pure x) :
    PS X (.Assign [.Name y py] (.ListComp x [⟨tg, iter, ifs, 0⟩] scope pos) spos) (tS S W (ex C th (.asg (.nm i) (.comp vs t src cond elt)))) := by
  subst hv
  refine PS.imp (ps_setLc hc hN hy hyl hsw hi ok hg ht he hf) fun D σ H h => lc_tE (Q := fun x H1 => gName i x σ H1 D.nx) hs ?_
  obtain ⟨G, rfl, hd, ρ, h, R, o⟩ := h
  unfold ex at o
  exact thenE R o fun p ρ1 h1 v H1 R1 s1 r1 o1 => o1 hd _ H1 (Hs.refl _) (R1.put r1 i)
end
end PyD

/-! PyV: the checks of statements; they suffice. -/
namespace PyD
open PySem L2 LamX

def nmL (cs : Cs) (i : Nat) (n : Str) : Bool := decide (cs.N[i]? = some n) && decide (cs.sc.names.lookup n = some .local)
def foldT : Expr → Bool
  | .Tuple vs _ _ => vs.all (foldedForSure 8)
  | _ => false
/-- the store of a comprehension -/
def ckSw (cs : Cs) (n : Str) (pn : Pos) (x : Expr) : Bool := noComp x || (match x with
  | .ListComp _ _ sc pos => !decide (cs.sc.names.lookup n = some .local) || (cs.calm && decide (cs.sc.kind = .function) && (pn.line == pos.line) && !(sc.names.any fun (m, k) => m == n && (k == .local || k == .cell)))
  | _ => false)
mutual
def ckS (tb : Tb) : Cs → S → Stmt → Bool
  | cs, .asg t e, st => match st with
    | .Assign [tg] x _ => (match t, tg with
      | .nm i, .Name n pn => nmS cs i n && ckE tb cs e x && ckSw cs n pn x
      | .tp ts, .Tuple es k p => ckT cs (.tp ts) (.Tuple es k p) && ckE tb cs e x && (noTupX x || foldT x || !(es.length == 2 || es.length == 3))
      | _, _ => false)
    | _ => false
  | cs, .par is es, st => match st with
    | .Assign [.Tuple [.Name n px, .Name m py] _ _] (.Tuple [a, b] _ _) _ => (match is with
      | [i, j] => (cs.calm && decide (cs.sc.kind = .function) && nmL cs i n && nmL cs j m && decide (i ≠ j) && decide (n ≠ m) && decide (py.line = px.line) && ckEs tb cs es [a, b] && !([a, b].all (foldedForSure 8)) && !([a, b].all (constantsAlone 8))) || (cs.calm && nmS cs i n && nmS cs j m && (!decide (cs.sc.names.lookup n = some .local) || !decide (cs.sc.names.lookup m = some .local)) && ckEs tb cs es [a, b])
      | _ => false)
    | .Assign [.Tuple [.Name n px, .Name m py, .Name k pz] _ _] (.Tuple [a, b, c] _ _) _ => (match is with
      | [i, j, l] => cs.calm && decide (cs.sc.kind = .function) && nmL cs i n && nmL cs j m && nmL cs l k && decide (i ≠ j) && decide (i ≠ l) && decide (j ≠ l) && decide (n ≠ m) && decide (n ≠ k) && decide (m ≠ k) && decide (py.line = px.line) && decide (pz.line = px.line) && ckEs tb cs es [a, b, c] && !([a, b, c].all (foldedForSure 8)) && !([a, b, c].all (constantsAlone 8))
      | _ => false)
    | _ => false
  | cs, .hand i e, st => match st with
    | .Assign [.Name n _] x _ => nmS cs i n && ckE tb cs e x && noComp x
    | _ => false
  | cs, .asgs i k v, st => match st with
    | .Assign [.Subscript (.Name n _) y _] z _ => nmV cs i n && plainX y && ckE tb cs k y && ckE tb cs v z
    | _ => false
  | cs, .pars i k j l es, st => match st with
    | .Assign [.Tuple [.Subscript (.Name n _) y1 _, .Subscript (.Name m _) y2 _] _ _] (.Tuple [a, b] _ _) _ => cs.calm && nmV cs i n && nmV cs j m && plainX y1 && plainX y2 && ckE tb cs k y1 && ckE tb cs l y2 && ckEs tb cs es [a, b]
    | _ => false
  | cs, .aug i o e, st => match st with
    | .AugAssign (.Name n _) op y _ => nmS cs i n && decide (op = opB o) && (decide (op = .Add) || decide (op = .Sub)) && ckE tb cs e y
    | _ => false
  | cs, .augs i k o e, st => match st with
    | .AugAssign (.Subscript (.Name n _) y _) op z _ => nmV cs i n && plainX y && decide (op = opB o) && (decide (op = .Add) || decide (op = .Sub)) && ckE tb cs k y && ckE tb cs e z
    | _ => false
  | cs, .app i e, st => match st with
    | .Expr (.Call (.Attribute (.Name n _) m ap) [y] [] cp) _ => decide (m = ("append" : Str)) && nmV cs i n && (ap.endLine == cp.line) && notStar y && ckE tb cs e y
    | _ => false
  | cs, .ex e, st => match st with
    | .Expr x _ => ckE tb cs e x && noComp x
    | _ => false
  | cs, .ife c a b, st => match st with
    | .If x p q _ => ckE tb cs c x && notIf x && ckSs tb cs a p && ckSs tb cs b q
    | _ => false
  | cs, .for_ t src b, st => match st with
    | .For tg it body [] _ => cs.calm && noSet it && ckSrc tb cs src tg it && ckT cs t tg && ckSs tb cs b body
    | _ => false
  | cs, .whl c b, st => match st with
    | .While x body [] _ => ckE tb cs c x && notIf x && ckSs tb cs b body
    | _ => false
  | cs, .ret e, st => match st with
    | .Return (some x) _ => ckE tb cs e x
    | _ => false
  | _, .retn, st => match st with
    | .Return none _ => true
    | _ => false
  | cs, .rse k, st => match st with
    | .Raise (some (.Call (.Name n _) [] [] _)) none _ => cs.calm && decide (tb.xN[k]? = some n) && nmG cs n
    | _ => false
  | _, .brk, st => match st with
    | .Break _ => true
    | _ => false
  | _, .cnt, st => match st with
    | .Continue _ => true
    | _ => false
  | _, .pass, st => match st with
    | .Pass _ => true
    | .Expr (.Constant (.str _) _ _) _ => true
    | _ => false
  | cs, .ext i e, st => match st with
    | .Expr (.Call (.Attribute (.Name n _) m ap) [y] [] cp) _ => decide (m = ("extend" : Str)) && nmV cs i n && (ap.endLine == cp.line) && notStar y && ckE tb cs e y
    | _ => false
  | _, .skip, _ => true
  | cs, .asgd i k v, st => match st with
    | .Assign [.Subscript (.Name n _) y _] z _ => nmV cs i n && ckE tb cs k y && ckE tb cs v z
    | _ => false
  | _, _, _ => false
def ckSs (tb : Tb) : Cs → Ss → List Stmt → Bool
  | _, .nil, sts => match sts with
    | [] => true
    | _ => false
  | cs, .cons s r, sts => match sts with
    | st :: sts => ckS tb cs s st && ckSs tb cs r sts
    | _ => false
end
section
variable {tb : Tb} {S : Sx} {C : Cl} {j : Nat} {th : Option (Hand → Cr)}
def OkS (tb : Tb) (S : Sx) (C : Cl) (j : Nat) (th : Option (Hand → Cr)) (s : PyD.S) : Prop := ∀ cs X W, Ctx tb S C j cs X W → ∀ st, ckS tb cs s st = true → PS X st (tS S W (ex C th s))
def OkSs (tb : Tb) (S : Sx) (C : Cl) (j : Nat) (th : Option (Hand → Cr)) (s : PyD.Ss) : Prop := ∀ cs X W, Ctx tb S C j cs X W → ∀ st, ckSs tb cs s st = true → PSs X st (tS S W (exs C th s))
theorem Ctx.nod {cs : Cs} {X : Cx} {W : WX} (c : Ctx tb S C j cs X W) : X.N.Nodup := by rw [c.N]; exact c.nd
theorem Ctx.loc {cs : Cs} {X : Cx} {W : WX} (c : Ctx tb S C j cs X W) {i : Nat} {n : Str} (h : nmL cs i n = true) : X.N[i]? = some n ∧ X.env.scope.names.lookup n = some .local := by
  unfold nmL at h
  rw [Bool.and_eq_true] at h
  exact ⟨by rw [c.N]; exact of_decide_eq_true h.1, by rw [c.sc]; exact of_decide_eq_true h.2⟩
theorem op_two {op : Operator} {o : Bop} (h1 : decide (op = opB o) = true) (h2 : (decide (op = .Add) || decide (op = .Sub)) = true) : op = opB o ∧ (o = .add ∨ o = .sub) := by
  have e := of_decide_eq_true h1
  refine ⟨e, ?_⟩
  subst e
  cases o <;> first | exact .inl rfl | exact .inr rfl | cases h2
/-- name = e -/
theorem ck_asg (e : E) (i : Nat) {cs : Cs} {X : Cx} {W : WX} (c : Ctx tb S C j cs X W) {n : Str} {pn pos : Pos} {x : Expr} (h1 : nmS cs i n = true) (h2 : ckE tb cs e x = true) (h3 : ckSw cs n pn x = true) : PS X (.Assign [.Name n pn] x pos) (tS S W (ex C th (.asg (.nm i) e))) := by
  obtain ⟨n1, n2, n3⟩ := c.st h1
  unfold ckSw at h3
  rw [Bool.or_eq_true] at h3
  rcases h3 with h3 | h3
  · exact ss_asg c.nod n1 n2 n3 (ck_e e cs X W c _ h2).1 (swaps_no h3)
  · split at h3
    · rename_i elt gs sc lp
      rw [Bool.or_eq_true] at h3
      rcases h3 with h3 | h3
      · refine ss_asg c.nod n1 n2 n3 (ck_e e cs X W c _ h2).1 (swaps_kind ?_)
        rw [c.sc]
        intro z
        rw [z] at h3
        cases h3
      · by_cases hl : cs.sc.names.lookup n = some .local
        · simp only [Bool.and_eq_true] at h3
          obtain ⟨⟨⟨k1, k2⟩, k3⟩, k4⟩ := h3
          have hsw : swapsWith (.ListComp elt gs sc lp) (some (.Name n pn)) pos.line X.env = pure true := sw_true (by rw [c.sc]; exact of_decide_eq_true k2) (by rw [c.sc]; exact hl) k3 (not_true k4)
          by_cases hsk : e = .skip
          · subst hsk; exact ss_asgSkip
          cases e <;> (unfold ckE at h2; first | (cases h2; done) | exact absurd rfl hsk | skip)
          rename_i vs t src cond elt'
          split at h2
          · rename_i heq
            cases heq
            simp only [Bool.and_eq_true] at h2
            obtain ⟨⟨⟨⟨⟨⟨⟨g1, g2⟩, g3⟩, g4⟩, g5⟩, g6⟩, g7⟩, g8⟩ := h2
            have hs : ∀ i ∈ tgN t, i ∈ vs := fun i hi => by
              obtain ⟨v, hv, e⟩ := List.any_eq_true.mp (List.all_eq_true.mp g3 i hi)
              rw [of_decide_eq_true e]; exact hv
            exact ss_asgC (c.calm g1) c.nod n1 (by rw [c.sc]; exact hl) hsw (ck_src src cs X W c true _ _ g5) (blk_ok c g2) (own_snd vs _) hs
              (fun s H Ca cl fp => ck_t (c.blk s H _ Ca cl fp) t _ g6) (fun s H Ca cl fp => (ck_o cond _ _ _ (c.blk s H _ Ca cl fp)).2 _ g7) (fun s H Ca cl fp => (ck_e elt' _ _ _ (c.blk s H _ Ca cl fp) _ g8).1) (folded_no g4)
          · cases h2
        · exact ss_asg c.nod n1 n2 n3 (ck_e e cs X W c _ h2).1 (swaps_kind (by rw [c.sc]; exact hl))
    · cases h3
end
end PyD

/-! PyW: statements that pass the checks do as the evaluator tells. -/
namespace PyD
open PySem L2 LamX
theorem swapsSole_sub {x o i : Expr} {p : Pos} {l : Nat} {env : PySem.Env} : swapsWithSole [.Subscript o i p] x l env = pure false := by
  cases x <;> rfl
section
variable {tb : Tb} {S : Sx} {C : Cl} {j : Nat} {th : Option (Hand → Cr)}
mutual
theorem ck_s : ∀ (s : PyD.S), OkS tb S C j th s
  | .asg t e => fun cs X W c st h => by
    unfold ckS at h
    split at h
    · rename_i tg x pos
      split at h
      · rename_i i n pn
        simp only [Bool.and_eq_true] at h
        exact ck_asg e i c h.1.1 h.1.2 h.2
      · rename_i ts es k p
        simp only [Bool.and_eq_true] at h
        obtain ⟨⟨h1, h2⟩, h3⟩ := h
        refine ss_asgT (ck_t c _ _ h1) (ck_e e cs X W c _ h2).1 (swaps_tup (es := es) (k := k) (p := p) (l := pos.line) (env := X.env)) ?_ rfl
        simp only [Bool.or_eq_true] at h3
        rcases h3 with (h3 | h3) | h3
        · exact sw_notup h3
        · unfold foldT at h3
          split at h3
          · exact sw_folded h3
          · cases h3
        · by_cases z : noTupX x = true
          · exact sw_notup z
          · cases x <;> first
              | exact absurd rfl z
              | exact sw_len h3
      · cases h
    · cases h
  | .par is es => fun cs X W c st h => by
    unfold ckS at h
    split at h
    · rename_i n px m py kt pt a b k2 pt2 pos
      split at h
      · rename_i i j
        rw [Bool.or_eq_true] at h
        rcases h with h | h
        · simp only [Bool.and_eq_true] at h
          obtain ⟨⟨⟨⟨⟨⟨⟨⟨⟨h1, h2⟩, h3⟩, h4⟩, h5⟩, h6⟩, h7⟩, h8⟩, h9⟩, h10⟩ := h
          obtain ⟨n1, n2⟩ := c.loc h3
          obtain ⟨m1, m2⟩ := c.loc h4
          obtain ⟨_, _, q3, q4, _, _⟩ := ck_es es cs X W c _ h8
          simp only [List.all_cons, List.all_nil, Bool.and_true, Bool.and_eq_true] at q4
          exact ss_par (c.calm h1) c.nod n1 m1 (of_decide_eq_true h5) n2 m2 q3 (sw_par2 (by rw [c.sc]; exact of_decide_eq_true h2) n2 m2 (of_decide_eq_true h7) (of_decide_eq_true h6) q4.1 q4.2 (not_true h9) (not_true h10))
        · simp only [Bool.and_eq_true, Bool.or_eq_true] at h
          obtain ⟨⟨⟨⟨h1, h2⟩, h3⟩, h4⟩, h5⟩ := h
          obtain ⟨n1, n2, n3⟩ := c.st h2
          obtain ⟨m1, m2, m3⟩ := c.st h3
          obtain ⟨_, _, q3, q4, _, _⟩ := ck_es es cs X W c _ h5
          exact ss_parT (c.calm h1) c.nod n1 m1 n2 m2 n3 m3 q3 (sw_cell2 (by
            rw [c.sc]
            exact h4.imp (fun z => of_decide_eq_false (not_true z)) fun z => of_decide_eq_false (not_true z)))
      · cases h
    · rename_i n px m py k pz kt pt a b d k2 pt2 pos
      split at h
      · rename_i i j l
        simp only [Bool.and_eq_true] at h
        obtain ⟨⟨⟨⟨⟨⟨⟨⟨⟨⟨⟨⟨⟨⟨⟨h1, h2⟩, h3⟩, h4⟩, h5⟩, h6⟩, h7⟩, h8⟩, h9⟩, h10⟩, h11⟩, h12⟩, h13⟩, h14⟩, h15⟩, h16⟩ := h
        obtain ⟨n1, n2⟩ := c.loc h3
        obtain ⟨m1, m2⟩ := c.loc h4
        obtain ⟨k1, k3⟩ := c.loc h5
        obtain ⟨_, _, q3, q4, _, _⟩ := ck_es es cs X W c _ h14
        simp only [List.all_cons, List.all_nil, Bool.and_true, Bool.and_eq_true] at q4
        exact ss_par3 (c.calm h1) c.nod n1 m1 k1 (of_decide_eq_true h6) (of_decide_eq_true h7) (of_decide_eq_true h8) n2 m2 k3 q3
          (sw_par3 (by rw [c.sc]; exact of_decide_eq_true h2) n2 m2 k3 (of_decide_eq_true h12) (of_decide_eq_true h13) (of_decide_eq_true h9) (of_decide_eq_true h10) (of_decide_eq_true h11) q4.1 q4.2.1 q4.2.2 (not_true h15) (not_true h16))
      · cases h
    · cases h
  | .hand i e => fun cs X W c st h => by
    unfold ckS at h
    split at h
    · simp only [Bool.and_eq_true] at h
      obtain ⟨n1, n2, n3⟩ := c.st h.1.1
      exact ss_hand c.nod n1 n2 n3 (ck_e e cs X W c _ h.1.2).1 (swaps_no h.2)
    · cases h
  | .asgs i k v => fun cs X W c st h => by
    unfold ckS at h
    split at h
    · simp only [Bool.and_eq_true] at h
      obtain ⟨⟨⟨h1, h2⟩, h3⟩, h4⟩ := h
      exact ss_asgs (c.var h1).1 (ck_e k cs X W c _ h3).1 (ck_e v cs X W c _ h4).1 swapsSole_sub (assign_sub h2)
    · cases h
  | .pars i k j l es => fun cs X W c st h => by
    unfold ckS at h
    split at h
    · simp only [Bool.and_eq_true] at h
      obtain ⟨⟨⟨⟨⟨⟨⟨h0, h1⟩, h2⟩, h3⟩, h4⟩, h5⟩, h6⟩, h7⟩ := h
      obtain ⟨_, _, q3, q4, _, _⟩ := ck_es es cs X W c _ h7
      exact ss_pars (c.calm h0) (c.var h1).1 (ck_e k cs X W c _ h5).1 (c.var h2).1 (ck_e l cs X W c _ h6).1 (assign_sub h3) (assign_sub h4) q3 sw_subs
    · cases h
  | .aug i o e => fun cs X W c st h => by
    unfold ckS at h
    split at h
    · simp only [Bool.and_eq_true] at h
      obtain ⟨⟨⟨h1, h2⟩, h3⟩, h4⟩ := h
      obtain ⟨n1, n2, n3⟩ := c.st h1
      obtain ⟨e1, e2⟩ := op_two h2 h3
      rw [e1]
      exact ss_aug c.nod n1 n2 n3 (ck_e e cs X W c _ h4).1 e2
    · cases h
  | .augs i k o e => fun cs X W c st h => by
    unfold ckS at h
    split at h
    · simp only [Bool.and_eq_true] at h
      obtain ⟨⟨⟨⟨⟨h1, h2⟩, h3⟩, h4⟩, h5⟩, h6⟩ := h
      obtain ⟨e1, e2⟩ := op_two h3 h4
      rw [e1]
      exact ss_augs (c.var h1).1 (ck_e k cs X W c _ h5).1 (ck_e e cs X W c _ h6).1 e2 (aug_store h2) c.pf.eK
    · cases h
  | .app i e => fun cs X W c st h => by
    unfold ckS at h
    split at h
    · simp only [Bool.and_eq_true] at h
      obtain ⟨⟨⟨⟨h1, h2⟩, h3⟩, h4⟩, h5⟩ := h
      rw [of_decide_eq_true h1]
      exact ss_app (c.var h2).1 (ck_e e cs X W c _ h5).1 h4 c.pf.eK rfl h3
    · cases h
  | .ex e => fun cs X W c st h => by
    unfold ckS at h
    split at h
    · simp only [Bool.and_eq_true] at h
      exact ss_ex (ck_e e cs X W c _ h.1).1 (swaps_no h.2)
    · cases h
  | .ife d a b => fun cs X W c st h => by
    unfold ckS at h
    split at h
    · simp only [Bool.and_eq_true] at h
      obtain ⟨⟨⟨h1, h2⟩, h3⟩, h4⟩ := h
      exact ss_if ((ck_e d cs X W c _ h1).2 h2) (ck_ss a cs X W c _ h3) (ck_ss b cs X W c _ h4)
    · cases h
  | .for_ t src b => fun cs X W c st h => by
    unfold ckS at h
    split at h
    · simp only [Bool.and_eq_true] at h
      obtain ⟨⟨⟨⟨h1, h2⟩, h3⟩, h4⟩, h5⟩ := h
      exact ss_for c.po (c.calm h1) (ck_src src cs X W c false _ _ h3) (ck_t c t _ h4) (ck_ss b cs X W c _ h5) (folded_no h2)
    · cases h
  | .forf i ks b => fun cs X W c st h => by unfold ckS at h; cases h
  | .whl d b => fun cs X W c st h => by
    unfold ckS at h
    split at h
    · simp only [Bool.and_eq_true] at h
      obtain ⟨⟨h1, h2⟩, h3⟩ := h
      exact ss_whl c.po ((ck_e d cs X W c _ h1).2 h2) (ck_ss b cs X W c _ h3)
    · cases h
  | .ret e => fun cs X W c st h => by
    unfold ckS at h
    split at h
    · by_cases z : ∃ i, e = .var i
      · obtain ⟨i, rfl⟩ := z
        exact ss_retV (ck_hv c h i rfl)
      · exact ss_ret (fun i e => z ⟨i, e⟩) (ck_e e cs X W c _ h).1
    · cases h
  | .retn => fun cs X W c st h => by
    unfold ckS at h
    split at h
    · exact ss_retN
    · cases h
  | .rse k => fun cs X W c st h => by
    unfold ckS at h
    split at h
    · simp only [Bool.and_eq_true] at h
      obtain ⟨⟨h1, h2⟩, h3⟩ := h
      obtain ⟨g1, g2, g3⟩ := c.gname h3
      obtain ⟨e1, e2, e3, e4, bmB, B, newId, initId, e5, e6⟩ := c.pf.ex k _ (of_decide_eq_true h2)
      exact ss_rse (c.calm h1) c.tk (pmk_own0 e5 e6 e1 e2 (raises_own e3 e4) g1 g2)
    · cases h
  | .tryth r k i b => fun cs X W c st h => by unfold ckS at h; cases h
  | .tryx a k i b => fun cs X W c st h => by unfold ckS at h; cases h
  | .brk => fun cs X W c st h => by
    unfold ckS at h
    split at h
    · exact ss_brk
    · cases h
  | .cnt => fun cs X W c st h => by
    unfold ckS at h
    split at h
    · exact ss_cnt
    · cases h
  | .pass => fun cs X W c st h => by
    unfold ckS at h
    split at h
    · exact ss_pass
    · exact ss_doc
    · cases h
  | .ext i e => fun cs X W c st h => by
    unfold ckS at h
    split at h
    · simp only [Bool.and_eq_true] at h
      obtain ⟨⟨⟨⟨h1, h2⟩, h3⟩, h4⟩, h5⟩ := h
      rw [of_decide_eq_true h1]
      exact ss_ext (c.var h2).1 (ck_e e cs X W c _ h5).1 h4 c.pf.eK rfl h3
    · cases h
  | .skip => fun cs X W c st h => ss_skip
  | .asgd i k v => fun cs X W c st h => by
    unfold ckS at h
    split at h
    · simp only [Bool.and_eq_true] at h
      exact ss_asgd (c.var h.1.1).1 (ck_e k cs X W c _ h.1.2).1 (ck_e v cs X W c _ h.2).1 c.hu swaps_sub
    · cases h
theorem ck_ss : ∀ (s : PyD.Ss), OkSs tb S C j th s
  | .nil => fun cs X W c st h => by
    unfold ckSs at h
    split at h
    · exact ss_nil
    · cases h
  | .cons s r => fun cs X W c st h => by
    unfold ckSs at h
    split at h
    · rw [Bool.and_eq_true] at h
      exact ss_cons (ck_s s cs X W c _ h.1) (ck_ss r cs X W c _ h.2)
    · cases h
end
end
/-! ### defs -/
theorem fn_ofG {P : Program} {w : World} {K : PySem.W.Frag} {mg : Str → Option Value} {base : Heap} {k : Nat} {f : Addr} {name qual : Str} {params : Arguments} {body : List Stmt} {scope : Scope} {dV kV doc pm cdv ct oc : Value} {an od : Option Addr}
    {osl : Array (Option Value)} {N ps : List Str} {sp : Sp} (lk : K.lookup f = some ⟨oc, od, .func (PySem.W.fnOf name qual params body scope dV kV doc pm an cdv ct), osl⟩) (hcd : PySem.W.codeIn K cdv qual = true) (S : FnScope N ps scope)
    (len : ∀ vs H Q E, sp vs H Q E → vs.length = ps.length)
    (hbody : ∀ (A : Around) (outer : List PySem.Env) (s : Shared) (H : Hp) (vs : List V) (Q : VK) (E : XK), A.guards = some [] → Room k (A.deeper (PyProof.Rows.envOfC qual scope s.heap.objs.size f cdv)) → sp vs H Q E →
      ∃ t, PSs (cxOf (L2.CX P w) P w K mg base N qual scope f cdv A outer s H E) body t ∧ t { nx := fun _ H' => Q .non H', rt := Q } (L2.start N vs) H) :
    FnG P w K mg base (k + 1) f (PySem.W.fnOf name qual params body scope dV kV doc pm an cdv ct) ps sp := by
  refine ⟨len, fun A outer s H args us vs Q E hg hr e0 hb r hsp => ?_⟩
  have hl := len _ _ _ _ hsp
  have KX : K.In s.heap := e0.mod.kin.keeps fun b o e => (e0.bs b o e).1
  have lim : s.heap.NoLimit := e0.mod.nolimit.keeps fun b o e => (e0.bs b o e).1
  have hkind : ∀ y ∈ ps.zip us, scope.names.lookup y.1 = some .local ∨ (scope.names.lookup y.1 = some .cell ∧ ((cellsFrom (s.heap.objs.size + 1) scope.names []).lookup y.1).isSome = true) := fun ⟨n, v⟩ hy => by
    rcases S.par n (List.of_mem_zip hy).1 with q | q
    · exact .inl q
    · exact .inr ⟨q, PySem.W.cellsFrom_some _ _ _ (.inl q)⟩
  refine codeAny_call_function hr.depth (KX _ _ lk) rfl S.co S.gen rfl (PySem.W.codeRec_of KX hcd) (hb _ _ _ _ ?_)
  refine wpAny_newFunctionEnv_cells S.kind hkind fun env he s1 x => ?_
  subst he
  refine ⟨lim.keeps x.toInCall.keep, codeAny_func ?_⟩
  obtain ⟨t, ht, hq⟩ := hbody A outer s H vs Q E hg (hr.deeper _) hsp
  have I : L2.Inv (cxOf (L2.CX P w) P w K mg base N qual scope f cdv A outer s H E) [] (L2.start N vs) H s1 := inv_start S hr.hd e0 hl r x
  refine wpAny_mono (ht.run [] s1 (L2.start N vs) H _ I hq) (fun fl s' hs => ?_) fun e s' hs => hs
  have fin : ∀ {σ' : L2.St} {H' : Hp} {v : V} {u : Value}, L2.Inv (cxOf (L2.CX P w) P w K mg base N qual scope f cdv A outer s H E) [] σ' H' s' → RelV v u → Q v H' → CE outer P w H s Q u s' :=
    fun {σ' H' v u} J rv q => ⟨v, H', J.os, J.bare, J.base, J.hok, rv, q⟩
  cases fl with
  | ret u =>
    obtain ⟨v, σ', H', J, rv, q⟩ := hs
    exact fin J rv q
  | next =>
    obtain ⟨σ', H', J, q⟩ := hs
    exact fin (v := V.non) (u := Value.none) J rfl q
  | brk =>
    obtain ⟨_, _, _, q⟩ := hs
    exact False.elim q
  | cont =>
    obtain ⟨_, _, _, q⟩ := hs
    exact False.elim q
/-- a def's frame behind its arguments -/
theorem fn_frame {P : Program} {w : World} {K : PySem.W.Frag} {mg : Str → Option Value} {base : Heap} {k : Nat} {f : Addr} {name qual : Str} {params : Arguments} {body : List Stmt} {scope : Scope} {dV kV doc pm cdv ct : Value} {an : Option Addr}
    {N ps : List Str} (S : FnScope N ps scope) {A : Around} {outer : List PySem.Env} {s : Shared} {H : Hp} {us : List Value} {vs : List V} {Q : VK} {E : XK} {R : Result → Shared → Prop} (hR : ∀ r s', CR (L2.CX P w) outer P w H s Q E r s' → R r s')
    (hr : Room (k + 1) A) (e0 : Env0 P w K mg base A outer s H) (r : Vals vs us) (hl : vs.length = ps.length)
    (hbody : ∃ t, PSs (cxOf (L2.CX P w) P w K mg base N qual scope f cdv A outer s H E) body t ∧ t { nx := fun _ H' => Q .non H', rt := Q } (L2.start N vs) H) :
    wpAny (model P w) A.in1 (newFunctionEnv (PySem.W.fnOf name qual params body scope dV kV doc pm an cdv ct).scope (PySem.W.fnOf name qual params body scope dV kV doc pm an cdv ct).globals (PySem.W.fnOf name qual params body scope dV kV doc pm an cdv ct).closure (ps.zip us) ((PySem.W.fnOf name qual params body scope dV kV doc pm an cdv ct).qualname ++ ".<locals>.") (some f) (PySem.W.fnOf name qual params body scope dV kV doc pm an cdv ct).code none (PySem.W.fnOf name qual params body scope dV kV doc pm an cdv ct).builtins)
        (fun env s₂ => s₂.heap.NoLimit ∧ codeAny (model P w) A (.func body env) R s₂) (fun e s' => R (.error e) s') s := by
  have KX : K.In s.heap := e0.mod.kin.keeps fun b o e => (e0.bs b o e).1
  have lim : s.heap.NoLimit := e0.mod.nolimit.keeps fun b o e => (e0.bs b o e).1
  have hkind : ∀ y ∈ ps.zip us, scope.names.lookup y.1 = some .local ∨ (scope.names.lookup y.1 = some .cell ∧ ((cellsFrom (s.heap.objs.size + 1) scope.names []).lookup y.1).isSome = true) := fun ⟨n, v⟩ hy => by
    rcases S.par n (List.of_mem_zip hy).1 with q | q
    · exact .inl q
    · exact .inr ⟨q, PySem.W.cellsFrom_some _ _ _ (.inl q)⟩
  refine wpAny_newFunctionEnv_cells S.kind hkind fun env he s1 x => ?_
  subst he
  refine ⟨lim.keeps x.toInCall.keep, codeAny_mono (codeAny_func ?_) hR⟩
  obtain ⟨t, ht, hq⟩ := hbody
  have I : L2.Inv (cxOf (L2.CX P w) P w K mg base N qual scope f cdv A outer s H E) [] (L2.start N vs) H s1 := inv_start S hr.hd e0 hl r x
  refine wpAny_mono (ht.run [] s1 (L2.start N vs) H _ I hq) (fun fl s' hs => ?_) fun e s' hs => hs
  have fin : ∀ {σ' : L2.St} {H' : Hp} {v : V} {u : Value}, L2.Inv (cxOf (L2.CX P w) P w K mg base N qual scope f cdv A outer s H E) [] σ' H' s' → RelV v u → Q v H' → CE outer P w H s Q u s' :=
    fun {σ' H' v u} J rv q => ⟨v, H', J.os, J.bare, J.base, J.hok, rv, q⟩
  cases fl with
  | ret u =>
    obtain ⟨v, σ', H', J, rv, q⟩ := hs
    exact fin J rv q
  | next =>
    obtain ⟨σ', H', J, q⟩ := hs
    exact fin (v := V.non) (u := Value.none) J rfl q
  | brk =>
    obtain ⟨_, _, _, q⟩ := hs
    exact False.elim q
  | cont =>
    obtain ⟨_, _, _, q⟩ := hs
    exact False.elim q
end PyD

/-! PyX: defs that pass the checks do as the evaluator tells. -/
namespace PyD
open PySem L2 LamX

/-- def k of the text is that of the evaluator -/
def DefOkF (tb : Tb) (S : Sx) (K : PySem.W.Frag) (cds : List (Addr × Addr)) (P : Pg) (k : Nat) (fd : FuncData) (ps : List Str) : Prop :=
  ∃ (lam : Option Str) (name qual : Str) (params : Arguments) (body : List Stmt) (scope : Scope) (dV kV doc pm cdv ct oc : Value) (an od : Option Addr) (osl : Array (Option Value)) (N : List Str) (f : Fd),
    fd = PySem.W.fnOf name qual params body scope dV kV doc pm an cdv ct ∧ P.fd k = some f ∧ K.lookup (S.fa k) = some ⟨oc, od, .func (PySem.W.fnOf name qual params body scope dV kV doc pm an cdv ct), osl⟩ ∧ PySem.W.codeIn K cdv qual = true ∧ FnScope N ps scope ∧
    Binds K (PySem.W.fnOf name qual params body scope dV kV doc pm an cdv ct) ps [] ∧ PySem.W.keepIn K (.ref (S.fa k)) = true ∧ N.length = f.ns ∧ ps.length = f.np ∧ f.dfl = [] ∧
    (∀ q, lam = some q → ∃ c Pt, cdv = .ref c ∧ q = (qual ++ ".<locals>.") ++ "<lambda>" ∧ (c, Pt) ∈ cds ∧ (Pt, q) ∈ S.T ∧ ∀ p ∈ S.T, p.1 = Pt → p.2 = q) ∧
    ckSs tb { sc := scope, ost := scope.names, N := N, calm := true, lam := lam } f.body body = true
def DefOk (tb : Tb) (S : Sx) (K : PySem.W.Frag) (cds : List (Addr × Addr)) (P : Pg) (k : Nat) : Prop := ∃ fd ps, DefOkF tb S K cds P k fd ps
theorem ArgsOk.len {S : Sx} {H : Hp} {Z : Addr → Prop} {hd : Option Addr} {vs : List V} {as : List Arg} (h : ArgsOk S H Z hd vs as) : vs.length = as.length := by
  induction h with
  | nil => rfl
  | cons _ _ ih => rw [List.length_cons, List.length_cons, ih]
theorem ArgsOk.get {S : Sx} {H : Hp} {Z : Addr → Prop} {hd : Option Addr} {vs : List V} {as : List Arg} (h : ArgsOk S H Z hd vs as) : ∀ {i : Nat} {a : Arg}, as[i]? = some a → ∃ v, vs[i]? = some v ∧ ArgOk S H Z hd v a := by
  induction h with
  | nil => intro i a e; simp at e
  | cons r _ ih =>
    intro i a e
    cases i with
    | zero => simp at e; subst e; exact ⟨_, rfl, r⟩
    | succ i =>
      obtain ⟨v, e1, r1⟩ := ih (i := i) (by simpa using e)
      exact ⟨v, by simpa using e1, r1⟩
/-- a def's frame, at its start -/
theorem Rel.start {S : Sx} {H : Hp} {Z : Addr → Prop} {hd : Option Addr} {vs : List V} {as : List Arg} {h : Hand} (ha : ArgsOk S H Z hd vs as) (hh : HndOk S.K H Z hd h) (hz : ∀ a, hd = some a → Z a) (zd : ∀ a, Z a → H a ≠ none) (tb : Tabs S.T H) {N : List Str} {f : Fd} (hN : N.length = f.ns) (hl : as.length = f.np) (hp : f.np ≤ f.ns) (hdf : f.dfl = []) :
    Rel { S := S, Zc := Z, H0 := H, M0 := fun a => hd = some a, Bz := Z, hd0 := hd } hd (env0 f as) h (L2.start N vs) H := by
  have e0 : env0 f as = as.map argS ++ List.replicate (f.ns - f.np) .non := by
    unfold env0
    rw [hdf]
    simp
  have e1 : L2.start N vs = vs.map some ++ List.replicate (f.ns - f.np) none := by
    unfold L2.start
    rw [hN, ha.len, hl]
  have noOwn : NoOwn (env0 f as) := fun i d e => by
    rw [e0] at e
    by_cases hi : i < as.length
    · rw [List.getElem?_append_left (by simpa using hi), List.getElem?_map] at e
      cases q : as[i]? with
      | none => rw [q] at e; cases e
      | some a => rw [q] at e; cases a <;> cases e
    · rw [List.getElem?_append_right (by simpa using hi), List.getElem?_replicate] at e
      split at e <;> cases e
  have mo : ∀ {a : Addr}, Mo (env0 f as) (L2.start N vs) hd a ↔ hd = some a := noOwn.mo
  have zz : ∀ a, (Z a ∨ Mo (env0 f as) (L2.start N vs) hd a) → Z a := fun a z => z.elim id fun m => hz a (mo.mp m)
  refine ⟨by rw [e0, e1]; simp [ha.len], fun i s e => ?_, fun i j d d' a e _ _ _ => absurd e (noOwn i d), ?_, ⟨fun a o e _ _ => e, fun a m => .inl (mo.mp m), fun _ e => e, fun _ _ e => e, fun _ _ _ e => e⟩, fun a e => e, tb, zd, fun a z => z⟩
  · rw [e0] at e
    by_cases hi : i < as.length
    · rw [List.getElem?_append_left (by simpa using hi), List.getElem?_map] at e
      cases q : as[i]? with
      | none => rw [q] at e; cases e
      | some a =>
        rw [q] at e
        obtain ⟨v, ev, r⟩ := ha.get q
        have ex : (L2.start N vs)[i]? = some (some v) := by
          rw [e1, List.getElem?_append_left (by simpa [ha.len] using hi), List.getElem?_map, ev]
          rfl
        cases a with
        | sh d => cases e; exact ⟨v, ex, r.anti zz⟩
        | bor d =>
          cases e
          obtain ⟨b, rfl, r1, nb, zb⟩ := r
          exact ⟨b, ex, r1.mv (fun _ e _ _ => e) (fun _ _ e _ _ => e) (fun b _ z => zz b z) (fun _ _ e => e) (fun _ _ _ e => e), fun m => nb (mo.mp m), zb⟩
        | fn k =>
          cases e
          obtain ⟨rfl, h2⟩ := r
          exact ⟨ex, h2⟩
        | hnd =>
          cases e
          obtain ⟨b, h1, rfl⟩ := r
          exact ⟨b, h1, ex⟩
        | scr ds =>
          cases e
          obtain ⟨b, xs, rfl, r1, r2, r3⟩ := r
          exact ⟨b, xs, ex, r1, r2, r3.anti zz⟩
    · rw [List.getElem?_append_right (by simpa using hi), List.getElem?_replicate] at e
      split at e
      · cases e; trivial
      · cases e
  · exact HndOk.mv (fun _ _ e _ _ => e) (fun _ _ e _ _ => e) (fun b _ z => zz b z) (fun _ _ e => e) (fun _ _ _ e => e) hh
/-- behind a def -/
theorem Rel.after {S : Sx} {H : Hp} {Z : Addr → Prop} {hd : Option Addr} {h : Hand} (hh : HndOk S.K H Z hd h) {hd' : Option Addr} {ρ' : Env} {h' : Hand} {σ' : L2.St} {H' : Hp} (q : Hs hd hd')
    (R : Rel { S := S, Zc := Z, H0 := H, M0 := fun a => hd = some a, Bz := Z, hd0 := hd } hd' ρ' h' σ' H') : After S Z hd H H' (backH h h') := by
  refine ⟨R.stp.moreM fun a e => .inl (R.hd0 a e), ?_, R.tabs⟩
  cases h with
  | none => exact hh
  | some ds =>
    obtain ⟨a, ea, _⟩ := hh
    have e2 := R.hd0 a ea
    have hk := R.hnd
    unfold backH
    cases h' with
    | none =>
      rw [show hd' = none from hk] at e2
      cases e2
    | some es =>
      obtain ⟨b, eb, xs, e4, l, q4⟩ := hk
      refine ⟨b, ?_, xs, e4, l, q4.anti fun c z => .inl z⟩
      rw [ea]
      rw [e2] at eb
      exact eb
/-- what a def's end wants, told as a statement's -/
theorem out_post {S : Sx} {Z : Addr → Prop} {hd : Option Addr} {H : Hp} {Q : VK} {E : XK} {h : Hand} {r : Rt} (hh : HndOk S.K H Z hd h) (post : CrPost S Z hd H Q E (rtC h r)) :
    OutS { S := S, Zc := Z, H0 := H, M0 := fun a => hd = some a, Bz := Z, hd0 := hd } (fun cls d _ H => E cls d H) { nx := fun _ H' => Q .non H', rt := Q } hd r := by
  cases r with
  | nx ρ' h' => exact fun hd' σ' H' q R => post .non H' (Rel.after hh q R) .non fun z => by cases z
  | ret fr d h' =>
    refine fun hd' ρ' σ' H' v q R r => post v H' (Rel.after hh q R) (r.1.anti fun a z => .inl z) fun z => ?_
    obtain ⟨a, rfl, m, nz, rt, R2⟩ := r.2 z
    have na : H a = none := m.elim (fun m => absurd (.inr (.inl (R.hd0 a m))) nz) id
    refine ⟨a, rfl, na, ?_, ?_⟩
    · exact rt.mv (fun _ e _ _ => e) (fun _ _ e _ _ => e) (fun b _ z => .inl z) (fun _ _ e => e) fun _ _ _ e => e
    · have hk := R2.hnd
      cases h with
      | none => exact hh
      | some ds =>
        obtain ⟨b, eb, _⟩ := hh
        have e2 := R.hd0 b eb
        unfold backH
        cases h' with
        | none =>
          rw [show hd' = none from hk] at e2
          cases e2
        | some es =>
          obtain ⟨c, ec, xs, e4, l, q4⟩ := hk
          refine ⟨c, ?_, xs, e4, l, q4.anti fun c z => .inl z⟩
          rw [eb]
          rw [e2] at ec
          exact ec
  | exc c ρ' h' => exact fun hd' σ' H' q R => post H' (Rel.after hh q R)
  | brk ρ' h' => exact (show False from post).elim
  | ct ρ' h' => exact (show False from post).elim
  | fail => exact post
theorem fn_defF {tb : Tb} {S : Sx} {cds : List (Addr × Addr)} {Pp : Pg} {P : Program} {w : World} {K : PySem.W.Frag} {mg : Str → Option Value} {base : Heap} {n k j : Nat} {fd : FuncData} {ps : List Str} (pf : Pf tb S (cl Pp n) P w K mg base j) (hTB : ∀ p ∈ cds, TabB base mg p.1 p.2) (d : DefOkF tb S K cds Pp k fd ps) :
    PySem.W.keepIn K (.ref (S.fa k)) = true ∧ FnG P w K mg base (j + 3) (S.fa k) fd ps (spF S ((cl Pp (n + 1)).fn k)) ∧ Binds K fd ps [] := by
  obtain ⟨lam, name, qual, params, body, scope, dV, kV, doc, pm, cdv, ct, oc, an, od, osl, N, f, rfl, hf, lk, hcd, FS, hb, kp, hN, hp, hdf, hlam, ck⟩ := d
  have args : ∀ {as : List Arg} {h : Hand} {Z : Addr → Prop} {hd : Option Addr} {H : Hp} {Q : VK} {E : XK}, CrPost S Z hd H Q E ((cl Pp (n + 1)).fn k as h) → as.length = f.np ∧ CrPost S Z hd H Q E (rtC h (exs (cl Pp n) none f.body (env0 f as) h)) := fun {as h Z hd H Q E} post => by
    have e : (cl Pp (n + 1)).fn k as h = run Pp (n + 1) k none as h := rfl
    rw [e] at post
    unfold run at post
    rw [hf] at post
    dsimp only at post
    rw [if_neg (by unfold isRest; rw [hdf]; simp)] at post
    by_cases hc : as.length ≤ f.np ∧ f.np ≤ as.length + f.dfl.length
    · rw [if_pos hc] at post
      refine ⟨?_, post⟩
      rw [hdf] at hc
      have := hc.2
      simp at this
      omega
    · rw [if_neg hc] at post
      exact post.elim
  refine ⟨kp, fn_ofG (k := j + 2) (N := N) lk hcd FS (fun vs H Q E hsp => ?_) (fun A outer s H vs Q E hg hr hsp => ?_), hb⟩
  · obtain ⟨Z, hd, as, h, ha, hh, hz, zd, tbs, post⟩ := hsp
    rw [ha.len, hp]
    exact (args post).1
  · obtain ⟨Z, hd, as, h, ha, hh, hz, zd, tbs, post⟩ := hsp
    obtain ⟨hla, post⟩ := args post
    have hpn : f.np ≤ f.ns := by
      have := congrArg List.length FS.pre
      rw [List.length_take] at this
      omega
    have tk : Takes (cxOf (L2.CX P w) P w K mg base N qual scope (S.fa k) cdv A outer s H E) (fun cls d _ H => E cls d H) := takes_of rfl rfl rfl rfl
    have cx : Ctx tb S (cl Pp n) j { sc := scope, ost := scope.names, N := N, calm := true, lam := lam } (cxOf (L2.CX P w) P w K mg base N qual scope (S.fa k) cdv A outer s H E) (fun cls d _ H => E cls d H) :=
      { pf := pf
        N := rfl
        nd := FS.nd
        sc := rfl
        ost := fun m h => ⟨rfl, h⟩
        calm := fun _ => rfl
        hu := by have := hr.un; show (A.deeper _).units + 70 < _; omega
        gd := hg
        rm := fun _ => hr.mono (by omega)
        pass := fun σ => passAt tk σ
        tk := tk
        po := passes_of rfl
        sx := fun z => by cases z
        lam := fun q e => by
          obtain ⟨c, Pt, e1, e2, e3, e4, e5⟩ := hlam q e
          exact ⟨c, Pt, hTB _ e3, e1, e2, e4, e5, hr⟩ }
    exact ⟨_, ck_ss (th := none) f.body _ _ _ cx body ck, { S := S, Zc := Z, H0 := H, M0 := fun a => hd = some a, Bz := Z, hd0 := hd }, rfl, hd, env0 f as, h, Rel.start ha hh hz zd tbs hN hla hpn hdf, out_post hh post⟩
/-- a def that gathers what is left of its arguments -/
def DefOkR (tb : Tb) (S : Sx) (K : PySem.W.Frag) (P : Pg) (k : Nat) : Prop :=
  ∃ (name qual : Str) (params : Arguments) (body : List Stmt) (scope : Scope) (dV kV doc pm cdv ct oc : Value) (an od : Option Addr) (osl : Array (Option Value)) (N ps : List Str) (f : Fd),
    P.fd k = some f ∧ K.lookup (S.fa k) = some ⟨oc, od, .func (PySem.W.fnOf name qual params body scope dV kV doc pm an cdv ct), osl⟩ ∧ PySem.W.codeIn K cdv qual = true ∧ FnScope N ps scope ∧
    (∀ us : List Value, f.np ≤ us.length + 1 → bindArgs (PySem.W.fnOf name qual params body scope dV kV doc pm an cdv ct) ⟨us, []⟩ = (newTuple (us.drop (f.np - 1)) >>= fun t => pure (ps.zip (us.take (f.np - 1) ++ [t])))) ∧
    PySem.W.keepIn K (.ref (S.fa k)) = true ∧ N.length = f.ns ∧ ps.length = f.np ∧ isRest f = true ∧
    ckSs tb { sc := scope, ost := scope.names, N := N, calm := true, lam := none } f.body body = true
theorem restA_ok {S : Sx} {H : Hp} {Z : Addr → Prop} {hd : Option Addr} : ∀ {as : List Arg} {vs : List V} {ds : List PyData}, ArgsOk S H Z hd vs as → restA as = some ds → RpA S.K H Z vs ds
  | _, _, _, .nil, e => by cases e; exact .nil
  | a :: as, _, ds, .cons r q, e => by
    cases a with
    | sh d =>
      obtain ⟨l, e1, e2⟩ := Option.map_eq_some_iff.mp e
      subst e2
      exact .cons r (restA_ok q e1)
    | _ => cases e
theorem ArgsOk.drop {S : Sx} {H : Hp} {Z : Addr → Prop} {hd : Option Addr} : ∀ {n : Nat} {vs : List V} {as : List Arg}, ArgsOk S H Z hd vs as → ArgsOk S H Z hd (vs.drop n) (as.drop n)
  | 0, _, _, h => h
  | n + 1, _, _, .nil => .nil
  | n + 1, _, _, .cons _ q => ArgsOk.drop (n := n) q
theorem ArgsOk.take {S : Sx} {H : Hp} {Z : Addr → Prop} {hd : Option Addr} : ∀ {n : Nat} {vs : List V} {as : List Arg}, ArgsOk S H Z hd vs as → ArgsOk S H Z hd (vs.take n) (as.take n)
  | 0, _, _, _ => .nil
  | n + 1, _, _, .nil => .nil
  | n + 1, _, _, .cons r q => .cons r (ArgsOk.take (n := n) q)
theorem ArgsOk.app {S : Sx} {H : Hp} {Z : Addr → Prop} {hd : Option Addr} {vs ws : List V} {as bs : List Arg} (h : ArgsOk S H Z hd vs as) (k : ArgsOk S H Z hd ws bs) : ArgsOk S H Z hd (vs ++ ws) (as ++ bs) := by
  induction h with
  | nil => exact k
  | cons r _ ih => exact .cons r ih
theorem ArgsOk.same {S : Sx} {H H' : Hp} {Z : Addr → Prop} {hd : Option Addr} {vs : List V} {as : List Arg} (e : Same H H') (h : ArgsOk S H Z hd vs as) : ArgsOk S H' Z hd vs as := by
  induction h with
  | nil => exact .nil
  | @cons v vs a0 as0 r _ ih =>
    refine .cons ?_ ih
    cases a0 with
    | sh d => exact (show Rp S.K H Z v d from r).mv (fun a o e1 _ _ => e a o e1) (fun _ _ z => z) (fun a xs e1 => e a _ e1) fun a o u e1 => e a _ e1
    | bor d =>
      obtain ⟨b, e1, r1, r2⟩ := r
      exact ⟨b, e1, r1.mv (fun o e1 _ _ => e b o e1) (fun a o e1 _ _ => e a o e1) (fun _ _ z => z) (fun a xs e1 => e a _ e1) fun a o u e1 => e a _ e1, r2⟩
    | fn k => exact r
    | hnd => exact r
    | scr ds =>
      obtain ⟨b, xs, e1, r1, r2, r3⟩ := r
      refine ⟨b, xs, e1, ?_, r2, r3.mv (fun a o e1 _ _ => e a o e1) (fun _ _ z => z) (fun a xs e1 => e a _ e1) fun a o u e1 => e a _ e1⟩
      rcases r1 with ⟨o, r1⟩ | r1
      · exact .inl ⟨o, e b _ r1⟩
      · exact .inr r1
theorem CrPost.from {S : Sx} {Z : Addr → Prop} {hd : Option Addr} {H H2 : Hp} {Q : VK} {E : XK} {c : Cr} (e : Same H H2) (post : CrPost S Z hd H Q E c) : CrPost S Z hd H2 Q E c := by
  have af : ∀ {H' : Hp} {h' : Hand}, After S Z hd H2 H' h' → After S Z hd H H' h' := fun a => ⟨(Stp.same e).trans a.st, a.hh, a.tb⟩
  cases c with
  | ok fr d h' =>
    intro v H' a rp hfr
    refine post v H' (af a) rp fun z => ?_
    obtain ⟨b, e1, e2, e3⟩ := hfr z
    exact ⟨b, e1, Same.free e e2, e3⟩
  | exc c h' => exact fun H' a => post H' (af a)
  | fail => exact post
theorem room_units {k : Nat} {A : Around} (hr : Room (k + 1) A) : A.units + 70 < cLine := by
  have := hr.un
  omega
theorem fn_rest {tb : Tb} {S : Sx} {Pp : Pg} {P : Program} {w : World} {K : PySem.W.Frag} {mg : Str → Option Value} {base : Heap} {n k j : Nat} (pf : Pf tb S (cl Pp n) P w K mg base j) (d : DefOkR tb S K Pp k) :
    PySem.W.keepIn K (.ref (S.fa k)) = true ∧ FnU P w K mg base (j + 3) (S.fa k) (spF S ((cl Pp (n + 1)).fn k)) := by
  obtain ⟨name, qual, params, body, scope, dV, kV, doc, pm, cdv, ct, oc, an, od, osl, N, ps, f, hf, lk, hcd, FS, hb, kp, hN, hp, hrs, ck⟩ := d
  refine ⟨kp, fun X e1 e2 e3 e4 e5 hg hr pins σ H s Q us vs E hx I r hsp => ?_⟩
  subst e1 e2 e3 e4 e5
  obtain ⟨Z, hd, as, h, ha, hh, hz, zd, tbs, post⟩ := hsp
  have e : (cl Pp (n + 1)).fn k as h = run Pp (n + 1) k none as h := rfl
  rw [e] at post
  unfold run at post
  rw [hf] at post
  dsimp only at post
  rw [if_pos hrs] at post
  cases q : fixA f as with
  | none => rw [q] at post; exact post.elim
  | some as2 =>
    rw [q] at post
    dsimp only at post
    have q2 := q
    unfold fixA at q2
    by_cases hc : f.np = 0 ∨ as.length + 1 < f.np ∨ 1000 < as.length
    · rw [if_pos hc] at q2; cases q2
    rw [if_neg hc] at q2
    obtain ⟨ds, q3, q4⟩ := Option.map_eq_some_iff.mp q2
    have hl1 : vs.length = as.length := ha.len
    have hl2 : us.length = as.length := by rw [← r.length]; exact hl1
    have KX : X.K.In s.heap := I.kIn
    have hn : H s.heap.objs.size = none := I.hok.fresh (Nat.le_refl _)
    have hsm : Same H (upd H s.heap.objs.size (.tup (vs.drop (f.np - 1)))) := same_upd hn
    have hsz : (us.drop (f.np - 1)).length ≤ sizeLine := by
      rw [List.length_drop]
      have : 1000 ≤ sizeLine := by decide
      omega
    have hsz2 : (vs.drop (f.np - 1)).length ≤ sizeLine := by
      rw [List.length_drop]
      have : 1000 ≤ sizeLine := by decide
      omega
    refine wpAny_call (codeAny_mono (R := fun r s' => ∃ H2 s2, L2.Inv X pins σ H2 s2 ∧ CR (L2.CX X.prog X.w) X.stack X.prog X.w H2 s2 Q (E σ) r s') (codeAny_call_function hr.depth (KX _ _ lk) rfl FS.co FS.gen rfl (PySem.W.codeRec_of KX hcd) ?_) fun r s' hq => ?_)
    · rw [hb us (by omega)]
      refine wpAny_bind (wpAny_newTuple (wpAny_pure ?_) hsz)
      have I2 : L2.Inv X pins σ (upd H s.heap.objs.size (.tup (vs.drop (f.np - 1)))) { s with heap := s.heap.push { cls := .type "tuple", data := .seq (us.drop (f.np - 1)).toArray } } :=
        I.laid (t' := s.toks) (fun b u e => Heap.get?_push_of_some _ e) (Nat.le_refl _) ⟨hsz2, us.drop (f.np - 1), r.drop _, ⟨_, Heap.get?_push_size _ rfl, rfl, _, rfl⟩⟩
      refine fn_frame (k := j + 2) (E := E σ) (Q := Q) (N := N) (H := upd H s.heap.objs.size (.tup (vs.drop (f.np - 1)))) (vs := vs.take (f.np - 1) ++ [.ref s.heap.objs.size]) FS (fun r s' hq => ⟨_, _, I2, hq⟩) hr I2.env0 ((r.take _).append (show Vals [V.ref s.heap.objs.size] [Value.ref s.heap.objs.size] from .cons rfl .nil)) (by
        rw [List.length_append, List.length_take, List.length_singleton]
        omega) ?_
      have hla : as2.length = f.np := by
        rw [← q4, List.length_append, List.length_take, List.length_singleton]
        omega
      have hpn : f.np ≤ f.ns := by
        have := congrArg List.length FS.pre
        rw [List.length_take] at this
        omega
      have ha2 : ArgsOk S (upd H s.heap.objs.size (.tup (vs.drop (f.np - 1)))) Z hd (vs.take (f.np - 1) ++ [.ref s.heap.objs.size]) as2 := by
        rw [← q4]
        refine (ha.same hsm).take.app (.cons ?_ .nil)
        exact Rp.tup (.inl (.inl (by rw [upd_same]))) hsz2 (restA_ok (ha.same hsm).drop q3)
      have hh2 : HndOk S.K (upd H s.heap.objs.size (.tup (vs.drop (f.np - 1)))) Z hd h := hh.mv (fun a o e1 _ _ => hsm a o e1) (fun a o e1 _ _ => hsm a o e1) (fun _ _ z => z) (fun a xs e1 => hsm a _ e1) fun a o u e1 => hsm a _ e1
      have tk : Takes (cxOf (L2.CX X.prog X.w) X.prog X.w X.K X.mg X.base N qual scope (S.fa k) cdv X.A X.stack { s with heap := s.heap.push { cls := .type "tuple", data := .seq (us.drop (f.np - 1)).toArray } } (upd H s.heap.objs.size (.tup (vs.drop (f.np - 1)))) (E σ)) (fun cls d _ H => E σ cls d H) := takes_of rfl rfl rfl rfl
      have hr2 := hr.deeper (PyProof.Rows.envOfC qual scope (s.heap.push { cls := .type "tuple", data := .seq (us.drop (f.np - 1)).toArray }).objs.size (S.fa k) cdv)
      have cx : Ctx tb S (cl Pp n) j { sc := scope, ost := scope.names, N := N, calm := true, lam := none } (cxOf (L2.CX X.prog X.w) X.prog X.w X.K X.mg X.base N qual scope (S.fa k) cdv X.A X.stack { s with heap := s.heap.push { cls := .type "tuple", data := .seq (us.drop (f.np - 1)).toArray } } (upd H s.heap.objs.size (.tup (vs.drop (f.np - 1)))) (E σ)) (fun cls d _ H => E σ cls d H) :=
        { pf := pf
          N := rfl
          nd := FS.nd
          sc := rfl
          ost := fun m h => ⟨rfl, h⟩
          calm := fun _ => rfl
          hu := room_units (k := j + 1) hr2
          gd := hg
          rm := fun _ => hr2.mono (by omega)
          pass := fun σ => passAt tk σ
          tk := tk
          po := passes_of rfl
          sx := fun z => by cases z
          lam := fun q z => by cases z }
      have e0 : env0 { f with dfl := [] } as2 = envR f as2 := by
        unfold env0 envR
        simp
      have R0 := Rel.start (S := S) (f := { f with dfl := [] }) ha2 hh2 hz (fun a z => fun n => zd a z (Same.free hsm n)) (tabs_same tbs hsm) hN hla hpn rfl
      rw [e0] at R0
      exact ⟨_, ck_ss (th := none) f.body _ _ _ cx body ck, { S := S, Zc := Z, H0 := upd H s.heap.objs.size (.tup (vs.drop (f.np - 1))), M0 := fun a => hd = some a, Bz := Z, hd0 := hd }, rfl, hd, envR f as2, h, R0, out_post hh2 (CrPost.from hsm post)⟩
    · obtain ⟨H2, s2, I2, hq⟩ := hq
      cases r with
      | error e => exact hx pins H2 s2 e s' I2 hq
      | ok fl =>
        cases fl with
        | ret u => exact I2.after hq
        | next => exact False.elim hq
        | brk => exact False.elim hq
        | cont => exact False.elim hq
theorem fn_def {tb : Tb} {S : Sx} {cds : List (Addr × Addr)} {Pp : Pg} {P : Program} {w : World} {K : PySem.W.Frag} {mg : Str → Option Value} {base : Heap} {n k j : Nat} (pf : Pf tb S (cl Pp n) P w K mg base j) (hTB : ∀ p ∈ cds, TabB base mg p.1 p.2) (d : DefOk tb S K cds Pp k) :
    PySem.W.keepIn K (.ref (S.fa k)) = true ∧ ∃ fd ps, FnG P w K mg base (j + 3) (S.fa k) fd ps (spF S ((cl Pp (n + 1)).fn k)) ∧ Binds K fd ps [] := by
  obtain ⟨fd, ps, d⟩ := d
  obtain ⟨h1, h2, h3⟩ := fn_defF pf hTB d
  exact ⟨h1, fd, ps, h2, h3⟩
end PyD

/-! PyX2: defs that call a lambda and tell its error; the whole program. -/
namespace PyD
open PySem L2 LamX

/-! ### the caught error in its slot -/
section
variable {G : Gh} {hd : Option Addr} {ρ : Env} {h : Hand} {σ : L2.St} {H : Hp}
def Gh.withEa (G : Gh) (e : Option (Addr × Nat)) : Gh := { G with S := { G.S with ea := e } }
theorem Rel.withEa (R : Rel G hd ρ h σ H) (e : Option (Addr × Nat)) (he : ∀ (i c : Nat) (a : Addr) (c0 : Nat), e = some (a, c0) → ρ[i]? = some (.exc c) → σ[i]? = some (some (.ref a)) ∧ c = c0) : Rel (G.withEa e) hd ρ h σ H where
  len := R.len
  slot := fun i s q => by
    have so := R.slot i s q
    cases s with
    | own d => exact so
    | bor d => exact so
    | non => trivial
    | sh d => exact so
    | fn k => exact so
    | hnd => exact so
    | exc c => exact fun a c0 e' => he i c a c0 e' q
    | scr ds => exact so
  uniq := R.uniq
  hnd := R.hnd
  stp := R.stp
  hd0 := R.hd0
  tabs := R.tabs
  zdom := R.zdom
  bz := R.bz
theorem Rel.noEa {e : Option (Addr × Nat)} (R : Rel (G.withEa e) hd ρ h σ H) (h0 : G.S.ea = none) : Rel G hd ρ h σ H where
  len := R.len
  slot := fun i s q => by
    have so := R.slot i s q
    cases s with
    | own d => exact so
    | bor d => exact so
    | non => trivial
    | sh d => exact so
    | fn k => exact so
    | hnd => exact so
    | exc c => exact fun a c0 e' => by rw [h0] at e'; cases e'
    | scr ds => exact so
  uniq := R.uniq
  hnd := R.hnd
  stp := R.stp
  hd0 := R.hd0
  tabs := R.tabs
  zdom := R.zdom
  bz := R.bz
theorem Res.noEa {e : Option (Addr × Nat)} {v : V} {p : Bool × PyData} (r : Res (G.withEa e) hd ρ h σ H v p) (h0 : G.S.ea = none) : Res G hd ρ h σ H v p := by
  refine ⟨r.1, fun z => ?_⟩
  obtain ⟨a, e1, m, nz, rt, R⟩ := r.2 z
  exact ⟨a, e1, m, nz, rt, Rel.noEa (G := G.plus a) R h0⟩
end
def ckTry (tb : Tb) (cs : Cs) (a : Str) (body : Ss) (bg : List Stmt) : Bool := match body, bg with
  | .cons (.tryth r k i sb) rest, .Try [st] [.ExceptHandler (some (.Name x _)) (some n) (b₀ :: su) _] [] [] _ :: rs =>
    (match r, st with
      | .ex, .Expr (.Call (.Name m _) [] [] _) _ => decide (m = a)
      | .rt, .Return (some (.Call (.Name m _) [] [] _)) _ => decide (m = a)
      | .as jr, .Assign [.Name n2 _] (.Call (.Name m _) [] [] _) _ => decide (m = a) && nmL cs jr n2 && decide (jr ≠ 0)
      | _, _ => false) && decide (tb.xN[k]? = some x) && nmG cs x && nmL cs i n && ckSs tb { cs with calm := false, exc := true, lam := none } sb (b₀ :: su) && ckSs tb cs rest rs
  | _, _ => false
def ckTold (tb : Tb) (cs : Cs) (a : Str) (body : Ss) (bg : List Stmt) : Bool := match body, bg with
  | .cons (.asg (.nm jv) (.str s)) b, .Assign [.Name n _] (.Constant (.str m) _ _) _ :: g => decide (s = m) && nmL cs jv n && decide (jv ≠ 0) && ckTry tb cs a b g
  | b, g => ckTry tb cs a b g
/-- def 1000 + i of the evaluator is the teller x of the text -/
def ToldOk (tb : Tb) (S : Sx) (K : PySem.W.Frag) (mg : Str → Option Value) (P : Pg) (i : Nat) (x : Str) : Prop :=
  ∃ (g : Addr) (pg : Arguments) (bg : List Stmt) (sg : Scope) (dV kV doc pm cdv ctt oc : Value) (an od : Option Addr) (osl : Array (Option Value)) (Ng : List Str) (a : Str) (f : Fd),
    mg x = some (.ref g) ∧ PySem.W.keepIn K (.ref g) = true ∧ K.lookup g = some ⟨oc, od, .func (PySem.W.fnOf x x pg bg sg dV kV doc pm an cdv ctt), osl⟩ ∧ PySem.W.codeIn K cdv x = true ∧
    Binds K (PySem.W.fnOf x x pg bg sg dV kV doc pm an cdv ctt) [a] [] ∧ FnScope Ng [a] sg ∧ Ng[0]? = some a ∧ Vis sg a ∧ (a == ("__debug__" : Str)) = false ∧ (a == ("__classdict__" : Str)) = false ∧
    P.fd (1000 + i) = some f ∧ f.np = 0 ∧ f.dfl = [] ∧ Ng.length = f.ns ∧ ckTold tb { sc := sg, ost := sg.names, N := Ng, calm := true } a f.body bg = true
theorem env0_nil {f : Fd} (h1 : f.np = 0) (h2 : f.dfl = []) : env0 f [] = List.replicate f.ns .non := by
  unfold env0
  rw [h1, h2]
  simp
theorem told_ok {tb : Tb} {S : Sx} {Pp : Pg} {P : Program} {w : World} {K : PySem.W.Frag} {mg : Str → Option Value} {base : Heap} {n j jj i : Nat} {x : Str} (pf : Pf tb S (cl Pp n) P w K mg base j) (h0 : S.ea = none) (hj : j ≤ jj) (t : ToldOk tb S K mg Pp i x) :
    TdG S P w K mg base jj x ((cl Pp (n + 1)).ft (1000 + i)) := by
  obtain ⟨g, pg, bg, sg, dV, kV, doc, pm, cdv, ctt, oc, an, od, osl, Ng, a, f, h1, h2, h3, h4, h5, h6, h7, h8, h9, h10, hf, hnp, hdf, hns, ck⟩ := t
  refine ⟨g, pg, bg, sg, dV, kV, doc, pm, cdv, ctt, oc, an, od, osl, Ng, a, h1, h2, h3, h4, h5, h6, h7, h8, h9, h10, fun A st f0 c' q od' dV' s H Q tl hg hr act hc hdA Z hd h t hh hz zd tbs link post => ?_⟩
  -- the evaluator's side
  have e1 : (cl Pp (n + 1)).ft (1000 + i) t h = run Pp (n + 1) (1000 + i) (some t) [] h := rfl
  rw [e1] at post
  unfold run at post
  rw [hf] at post
  dsimp only at post
  rw [if_neg (by unfold isRest; rw [hdf]; simp)] at post
  rw [if_pos (by rw [hnp]; simp)] at post
  have post : CrPost S Z hd H Q (fun _ _ _ => False) (rtC h (exs (cl Pp n) (some t) f.body (env0 f []) h)) := post
  have oo := out_post hh post
  rw [env0_nil hnp hdf] at oo
  have R0 : Rel { S := S, Zc := Z, H0 := H, M0 := fun a => hd = some a, Bz := Z, hd0 := hd } hd (List.replicate f.ns .non) h (L2.start Ng [.ref f0]) H := by
    have no : NoOwn (List.replicate f.ns Sl.non) := fun i d e => by
      rw [List.getElem?_replicate] at e
      split at e <;> cases e
    have zz : ∀ a, (Z a ∨ Mo (List.replicate f.ns Sl.non) (L2.start Ng [.ref f0]) hd a) → Z a := fun a z => z.elim id fun m => hz a (no.mo.mp m)
    have hl0 : 1 ≤ Ng.length := by
      have := (List.getElem?_eq_some_iff.mp h7).1
      omega
    refine ⟨by unfold L2.start; simp; omega, fun i s e => ?_, fun i j d d' a e _ _ _ => absurd e (no i d), ?_, ⟨fun a o e _ _ => e, fun a m => .inl (no.mo.mp m), fun _ e => e, fun _ _ e => e, fun _ _ _ e => e⟩, fun a e => e, tbs, zd, fun a z => z⟩
    · rw [List.getElem?_replicate] at e
      split at e
      · cases e; trivial
      · cases e
    · exact HndOk.mv (fun _ _ e _ _ => e) (fun _ _ e _ _ => e) (fun b _ z => zz b z) (fun _ _ e => e) (fun _ _ _ e => e) hh
  have core : ∀ (ρ0 : PyD.Env) (σ0 : L2.St), Rel { S := S, Zc := Z, H0 := H, M0 := fun a => hd = some a, Bz := Z, hd0 := hd } hd ρ0 h σ0 H → (∀ (i c : Nat), ρ0[i]? ≠ some (.exc c)) → NoOwn ρ0 → ρ0.length = f.ns → σ0[0]? = some (some (.ref f0)) → ∀ (fb : Ss) (bg : List Stmt), ckTry tb { sc := sg, ost := sg.names, N := Ng, calm := true } a fb bg = true →
      OutS { S := S, Zc := Z, H0 := H, M0 := fun a => hd = some a, Bz := Z, hd0 := hd } noW { nx := fun _ H' => Q .non H', rt := Q } hd (exs (cl Pp n) (some t) fb ρ0 h) →
      ∃ t', PSs (cxOf C8.CX0 P w K mg base Ng x sg g cdv A st s H C8.E0).nox bg t' ∧ t' { nx := fun _ H' => Q .non H', rt := Q } σ0 H := by
    intro ρ0 σ0 R0 noexc noown hl0 hs0 fb bg ck oo
    unfold ckTry at ck
    split at ck
    · rename_i r k si sb rest st1 x1 np1 n1 b0 su hp1 tp1 rs
      simp only [Bool.and_eq_true] at ck
      obtain ⟨⟨⟨⟨⟨k1, k2⟩, k3⟩, k4⟩, k5⟩, k6⟩ := ck
      let X0 : Cx := (cxOf C8.CX0 P w K mg base Ng x sg g cdv A st s H C8.E0).nox
      have cx0 : Ctx tb S (cl Pp n) j { sc := sg, ost := sg.names, N := Ng, calm := true } X0 noW :=
        { pf := pf
          N := rfl
          nd := h6.nd
          sc := rfl
          ost := fun m h => ⟨rfl, h⟩
          calm := fun _ => rfl
          hu := by have := hr.un; show (A.deeper (PyProof.Rows.envOfC x sg s.heap.objs.size g cdv)).units + 70 < _; omega
          gd := hg
          rm := fun _ => hr.mono hj
          pass := fun σ pins H s' e s'' I h => by
            obtain ⟨a, B, H', cls, d, _, _, _, _, _, _, _, hE⟩ := h
            exact hE
          tk := L2.takes0
          po := PassesOwn.never
          sx := fun z => by cases z
          lam := fun q z => by cases z }
      have hrest := ck_ss (th := some t) rest _ X0 noW cx0 rs k6
      obtain ⟨gx, gxd, _⟩ := cx0.gname k3
      obtain ⟨hN1, hl1⟩ := cx0.loc k4
      have hcx := pf.ex k _ (of_decide_eq_true k2)
      -- the suite
      let ts : Addr → Value → Option Addr → TS := fun a cls d D σ H => ∃ c, cls = .ref (S.ca c) ∧ d = none ∧ tS { S with ea := some (a, c) } noW (exs (cl Pp n) none sb) D σ H
      have hsu : ∀ (a : Addr) (oe : Obj) (cls : Value) (d : Option Addr) (pn : List (Addr × Obj)), Zc cls d oe → (∃ vs, oe.data = .fields vs) → PSs (X0.suite a ((a, oe) :: pn)) (b0 :: su) (ts a cls d) := fun a oe cls d pn hzc hfl => by
        refine ⟨fun pins s9 σ9 H9 D9 I9 h9' => ?_⟩
        obtain ⟨c, ec, ed, hs⟩ := h9'
        subst ec ed
        have cx1 : Ctx tb { S with ea := some (a, c) } (cl Pp n) j { sc := sg, ost := sg.names, N := Ng, calm := false, exc := true, lam := none } (X0.suite a ((a, oe) :: pn)) noW :=
          { pf := pf.ea _
            N := rfl
            nd := h6.nd
            sc := rfl
            ost := fun m h => ⟨rfl, h⟩
            calm := fun z => by cases z
            hu := by have := hr.un; show (A.deeper (PyProof.Rows.envOfC x sg s.heap.objs.size g cdv)).units + 70 < _; omega
            gd := hg
            rm := fun z => by cases z
            pass := fun σ pins H s' e s'' I h => by
              obtain ⟨a, B, H', cls, d, _, _, _, _, _, _, _, hE⟩ := h
              exact hE
            tk := L2.takes0
            po := PassesOwn.never
            sx := fun _ => ⟨X0, a, oe, pn, c, rfl, rfl, hzc, hfl⟩
            lam := fun q z => by cases z }
        exact (ck_ss (th := none) sb _ _ noW cx1 (b0 :: su) k5).run pins s9 σ9 H9 D9 I9 hs
      -- the lambda's call
      let tbd : WX → TS := fun W D σ H => ∃ Ech : XK, (∀ cls d H', Ech cls d H' → W cls d σ H') ∧ σ[0]? = some (some (.ref f0)) ∧ H c' = some (CodeO c' q) ∧ DefAt od' dV' H ∧ tl Ech H (fun v H' => (match r with | .ex => D.nx σ H' | .rt => D.rt v H' | .as jr => D.nx (σ.set jr (some v)) H'))
      have hb : ∀ (W : WX) (pn : List (Addr × Obj)) (xe : Value → Shared → Prop), Takes (X0.tr pn xe) W → PassesOwn (model X0.prog X0.w) X0.A X0.env xe → PSs (X0.tr pn xe) [st1] (tbd W) := fun W pn xe tk _ => by
        split at k1
        · rename_i m p1 p2 p3
          have := act W pn xe p1 p2 tk
          rw [← of_decide_eq_true k1] at this
          refine PSs.imp (pss_one (ps_expr (pos := p3) this rfl)) fun D σ H h => ?_
          obtain ⟨Ech, a1, a2, a3, a4, a5⟩ := h
          exact ⟨Ech, a1, a2, a3, a4, a5⟩
        · rename_i m p1 p2 p3
          have := act W pn xe p1 p2 tk
          rw [← of_decide_eq_true k1] at this
          refine PSs.imp (pss_one (ps_ret (pos := p3) this)) fun D σ H h => ?_
          obtain ⟨Ech, a1, a2, a3, a4, a5⟩ := h
          exact ⟨Ech, a1, a2, a3, a4, a5⟩
        · rename_i jr n2 pn2 m p1 p2 p3
          rw [Bool.and_eq_true, Bool.and_eq_true] at k1
          have := act W pn xe p1 p2 tk
          rw [← of_decide_eq_true k1.1.1] at this
          obtain ⟨g1, g2⟩ := cx0.loc k1.1.2
          refine PSs.imp (pss_one (ps_set (X := X0.tr pn xe) (pos := p3) (pos' := pn2) h6.nd g1 (.inl g2) this rfl (.inr g2))) fun D σ H h => ?_
          obtain ⟨Ech, a1, a2, a3, a4, a5⟩ := h
          exact ⟨Ech, a1, a2, a3, a4, a5⟩
        · cases k1
      have ptry := ps_try_as (X := X0) (x := x1) (n := n1) (c := .ref (S.ca k)) (i := si) (body := [st1]) (suite := su) (b₀ := b0) (np := np1) (pos := tp1) (pos' := hp1) (tb := tbd) (ts := ts) (Wout := noW) rfl rfl h6.nd hN1 hl1 ⟨gx, gxd, .inl hcx.1⟩ L2.takes0 hb hsu
      refine ⟨_, pss_cons ptry hrest, ?_⟩
      unfold exs ex at oo
      dsimp only at oo
      generalize hD1 : ({ nx := fun σ' H' => tS S noW (exs (cl Pp n) (some t) rest) { nx := fun _ H' => Q .non H', rt := Q } σ' H', rt := Q } : Ends) = D1
      -- going on behind the try
      have goOn : ∀ {hd' : Option Addr} {ρ' : Env} {h' : Hand} {σ' : L2.St} {H' : Hp}, Hs hd hd' → Rel { S := S, Zc := Z, H0 := H, M0 := fun a => hd = some a, Bz := Z, hd0 := hd } hd' ρ' h' σ' H' →
          OutS { S := S, Zc := Z, H0 := H, M0 := fun a => hd = some a, Bz := Z, hd0 := hd } noW { nx := fun _ H' => Q .non H', rt := Q } hd (exs (cl Pp n) (some t) rest ρ' h') → D1.nx σ' H' := fun {hd' ρ' h' σ' H'} q R o => by
        rw [← hD1]
        exact ⟨_, rfl, hd', ρ', h', R, OutS.hs o q⟩
      have rtD : D1.rt = Q := by rw [← hD1]
      have bkD : ∀ σ H, D1.bk σ H = False := fun σ H => by rw [← hD1]
      have ctD : ∀ σ H, D1.ct σ H = False := fun σ H => by rw [← hD1]
      show tbd (wAs X0.K (.ref (S.ca k)) si ts noW _) _ σ0 H
      have goal : tbd (wAs K (.ref (S.ca k)) si ts noW D1) D1 σ0 H := by
        refine ⟨fun cls d H' => wAs K (.ref (S.ca k)) si ts noW D1 cls d σ0 H', fun _ _ _ z => z, hs0, hc, hdA, link h H _ _ ⟨Stp.refl _ _, hh, tbs⟩ hc hdA ?_⟩
        have mv : ∀ {h1 : Hand} {H' : Hp}, After S Z hd H H' h1 → Rel { S := S, Zc := Z, H0 := H, M0 := fun a => hd = some a, Bz := Z, hd0 := hd } hd ρ0 h1 σ0 H' := fun {h1 H'} af =>
          R0.move af.st (af.hh.mv (fun _ _ e _ _ => e) (fun _ _ e _ _ => e) (fun b _ z => z.elim id fun m => m.elim (hz b) fun ⟨i, d, e, _⟩ => absurd e (noown i d)) (fun _ _ e => e) fun _ _ _ e => e) af.tb
        cases et : t h with
        | fail => rw [et] at oo; exact oo.elim
        | ok fr d h1 =>
          rw [et] at oo
          intro v H' af rp _
          have R1 := mv af
          cases r with
          | rt =>
            dsimp only at oo ⊢
            rw [rtD]
            exact oo hd ρ0 σ0 H' v (Hs.refl _) R1 (.plain (rp.anti fun b z => z.elim id fun m => m.elim (hz b) fun ⟨i, d, e, _⟩ => absurd e (noown i d)))
          | ex =>
            dsimp only at oo ⊢
            exact goOn (Hs.refl _) R1 oo
          | as jr =>
            dsimp only at oo ⊢
            exact goOn (Hs.refl _) (R1.storeSh (rp.anti fun b z => z.elim id fun m => m.elim (hz b) fun ⟨i, d, e, _⟩ => absurd e (noown i d))) oo
        | exc c1 h1 =>
          rw [et] at oo
          dsimp only at oo
          intro H' af
          have R1 := mv af
          cases es : (cl Pp n).sub c1 k with
          | none => rw [es] at oo; exact oo.elim
          | some b =>
            have hex := ((pf.sub c1 k b es).2.1 _ (of_decide_eq_true k2)).2
            refine ⟨b, hex, fun hb1 aE naE => ?_, fun hb1 => ?_⟩
            · subst hb1
              rw [es] at oo
              dsimp only at oo
              refine ⟨c1, rfl, rfl, ?_⟩
              have R2 : Rel { S := S, Zc := Z, H0 := H, M0 := fun a => hd = some a, Bz := Z, hd0 := hd } hd (ρ0.set si (.exc c1)) h1 (σ0.set si (some (.ref aE))) H' := R1.store (fun _ z => by cases z) fun _ a c0 e => by rw [h0] at e; cases e
              have hlen : si < σ0.length := by
                have := (List.getElem?_eq_some_iff.mp hN1).1
                have l2 := R1.len
                rw [R1.len, hl0, ← hns]
                exact this
              have R3 := R2.withEa (some (aE, c1)) fun i2 c2 a2 c02 e2 q2 => by
                cases e2
                by_cases hj2 : si = i2
                · subst hj2
                  rw [List.getElem?_set_self (by rw [← R1.len]; exact hlen)] at q2
                  cases q2
                  exact ⟨List.getElem?_set_self hlen, rfl⟩
                · rw [List.getElem?_set_ne hj2] at q2
                  exact absurd q2 (noexc i2 c2)
              refine ⟨_, rfl, hd, _, h1, R3, ?_⟩
              cases er : exs (cl Pp n) none sb (ρ0.set si (.exc c1)) h1 with
              | nx ρ2 h2 =>
                rw [er] at oo
                intro hd' σ2 H2 q2 R4
                have R5 : Rel { S := S, Zc := Z, H0 := H, M0 := fun a => hd = some a, Bz := Z, hd0 := hd } hd' (ρ2.set si .non) h2 (σ2.set si none) H2 := (R4.noEa h0).store (fun _ z => by cases z) fun _ => trivial
                exact goOn q2 R5 oo
              | ret fr d h2 =>
                rw [er] at oo
                intro hd' ρ2 σ2 H2 v q2 R4 rv
                show D1.rt v H2
                rw [rtD]
                exact oo hd' ρ2 σ2 H2 v q2 (R4.noEa h0) (rv.noEa h0)
              | exc c2 ρ2 h2 =>
                rw [er] at oo
                exact fun hd' σ2 H2 q2 R4 => oo hd' σ2 H2 q2 (R4.noEa h0)
              | brk ρ2 h2 =>
                rw [er] at oo
                intro hd' σ2 H2 q2 R4
                show D1.bk _ _
                rw [bkD]
                exact oo hd' σ2 H2 q2 (R4.noEa h0)
              | ct ρ2 h2 =>
                rw [er] at oo
                intro hd' σ2 H2 q2 R4
                show D1.ct _ _
                rw [ctD]
                exact oo hd' σ2 H2 q2 (R4.noEa h0)
              | fail => rw [er] at oo; exact oo
            · subst hb1
              rw [es] at oo
              exact oo hd σ0 H' (Hs.refl _) R1
      rw [← hD1] at goal
      exact goal

    · cases ck
  have nexc : ∀ (i c : Nat), (List.replicate f.ns Sl.non)[i]? ≠ some (.exc c) := fun i c e => by
    rw [List.getElem?_replicate] at e
    split at e <;> cases e
  have nown : NoOwn (List.replicate f.ns Sl.non) := fun i d e => by
    rw [List.getElem?_replicate] at e
    split at e <;> cases e
  have hls : (L2.start Ng [V.ref f0]).length = f.ns := by rw [R0.len, List.length_replicate]
  have s00 : (L2.start Ng [V.ref f0])[0]? = some (some (.ref f0)) := rfl
  generalize f.body = fb at oo ck
  unfold ckTold at ck
  split at ck
  · rename_i jv sv b n1 p1 m1 k1 p2 p3 g1
    simp only [Bool.and_eq_true] at ck
    obtain ⟨⟨⟨q1, q2⟩, q3⟩, q4⟩ := ck
    have jv0 := of_decide_eq_true q3
    have es := of_decide_eq_true q1
    subst es
    let X0 : Cx := (cxOf C8.CX0 P w K mg base Ng x sg g cdv A st s H C8.E0).nox
    unfold nmL at q2
    rw [Bool.and_eq_true] at q2
    have g1' : Ng[jv]? = some n1 := of_decide_eq_true q2.1
    have g2' : sg.names.lookup n1 = some .local := of_decide_eq_true q2.2
    have hlt : jv < (L2.start Ng [V.ref f0]).length := by
      have := (List.getElem?_eq_some_iff.mp g1').1
      rw [hls, ← hns]
      exact this
    have R1 : Rel { S := S, Zc := Z, H0 := H, M0 := fun a => hd = some a, Bz := Z, hd0 := hd } hd ((List.replicate f.ns Sl.non).set jv (.sh (.str sv))) h ((L2.start Ng [.ref f0]).set jv (some (.str sv))) H := R0.storeSh (.str _)
    have oo' : OutS { S := S, Zc := Z, H0 := H, M0 := fun a => hd = some a, Bz := Z, hd0 := hd } noW { nx := fun _ H' => Q .non H', rt := Q } hd (exs (cl Pp n) (some t) b ((List.replicate f.ns Sl.non).set jv (.sh (.str sv))) h) := oo
    obtain ⟨t', h1', h2'⟩ := core _ _ R1 (fun i c e => by
      by_cases hj2 : jv = i
      · subst hj2
        rw [List.getElem?_set_self (by rw [← R0.len]; exact hlt)] at e
        cases e
      · rw [List.getElem?_set_ne hj2] at e
        exact nexc i c e) (fun i d e => by
      by_cases hj2 : jv = i
      · subst hj2
        rw [List.getElem?_set_self (by rw [← R0.len]; exact hlt)] at e
        cases e
      · rw [List.getElem?_set_ne hj2] at e
        exact nown i d e) (by rw [List.length_set, List.length_replicate]) (by rw [List.getElem?_set_ne jv0]; exact s00) b g1 q4 oo'
    have p0 := ps_set (X := X0) (te := tC (.str sv)) (pos := p3) (pos' := p1) (e := .Constant (.str sv) k1 p2) h6.nd g1' (.inl g2') pe_str rfl (.inr g2')
    exact ⟨_, pss_cons p0 h1', h2'⟩
  · exact core _ _ R0 nexc nown (by rw [List.length_replicate]) s00 _ _ ck oo
end PyD

/-! PyX3: the whole program; the law's end. -/
namespace PyD
open PySem PySem.Spec PyProof.Rows L2 LamX

/-- the whole program, n calls deep -/
theorem all_pf {tb : Tb} {S : Sx} {cds : List (Addr × Addr)} {Pp : Pg} {P : Program} {w : World} {K : PySem.W.Frag} {mg : Str → Option Value} {base : Heap} (h0 : S.ea = none) (eK : K = S.K) (hd : ∀ k, k < S.nf → DefOk tb S K cds Pp k ∨ DefOkR tb S K Pp k) (ht : ∀ i x, tb.tN[i]? = some x → ToldOk tb S K mg Pp i x) (hTB : ∀ p ∈ cds, TabB base mg p.1 p.2)
    (fn : ∀ (k : Nat) (n : Str), tb.fnN[k]? = some n → mg n = some (.ref (S.fa k)) ∧ k < S.nf) (gl : ∀ (k : Nat) (n : Str), tb.gN[k]? = some n → ∃ v d u, mg n = some u ∧ RelV v u ∧ Pp.gl k = some d ∧ ∀ H Z, Rp S.K H Z v d)
    (ex : ∀ (k : Nat) (n : Str), tb.xN[k]? = some n → mg n = some (.ref (S.ca k)) ∧ PySem.W.keepIn K (.ref (S.ca k)) = true ∧ PySem.W.subIn K (.ref (S.ca k)) (.type "BaseException") = some true ∧ PySem.W.typeIn K (.ref (S.ca k)) = some (.type "type") ∧
      ∃ (bmB : List Value) (B newId initId : String), ExcBaseFacts B newId initId bmB ∧ PySem.W.excIn K (S.ca k) bmB newId = true)
    (no : ∀ n, n ∈ tb.noG → mg n = none)
    (sub : ∀ (c' c : Nat) (b : Bool), Pp.sub c' c = some b → ExcC K (S.ca c') ∧ (∀ n, tb.xN[c]? = some n → PySem.W.kitOne K (.ref (S.ca c')) (.ref (S.ca c)) = some b ∧ PySem.W.exmOne K (.ref (S.ca c')) (.ref (S.ca c)) = some b) ∧
      ∀ (i : Nat) (n : Str), c = 1000 + i → tb.bN[i]? = some n → ∃ T, mg n = none ∧ bootBuiltins n = some (.type T) ∧ PySem.W.kitOne K (.ref (S.ca c')) (.type T) = some b) : ∀ n, Pf tb S (cl Pp n) P w K mg base (3 * n)
  | 0 => ⟨eK, fn, fun k hk => by
      refine ⟨?_, fun X _ _ _ _ _ _ _ pins σ H s Q us vs E _ _ _ hsp => by
        obtain ⟨Z, hd, as, h, ha, hh, hz, zd, tbs, post⟩ := hsp
        exact post.elim⟩
      rcases hd k hk with d | d
      · obtain ⟨_, ps, lam, name, qual, params, body, scope, dV, kV, doc, pm, cdv, ct, oc, an, od, osl, N, f, rfl, hf, lk, hcd, FS, hb, kp, _⟩ := d
        exact kp
      · obtain ⟨name, qual, params, body, scope, dV, kV, doc, pm, cdv, ct, oc, an, od, osl, N, ps, f, hf, lk, hcd, FS, hb, kp, _⟩ := d
        exact kp, gl, ex, no, sub, fun i x hx => by
      obtain ⟨g, pg, bg, sg, dV, kV, doc, pm, cdv, ctt, oc, an, od, osl, Ng, a, f, h1, h2, h3, h4, h5, h6, h7, h8, h9, h10, _⟩ := ht i x hx
      exact ⟨g, pg, bg, sg, dV, kV, doc, pm, cdv, ctt, oc, an, od, osl, Ng, a, h1, h2, h3, h4, h5, h6, h7, h8, h9, h10, fun A st f0 c' q od' dV' s H Q tl hg hr act hc hdA Z hd h t hh hz zd tbs link post => post.elim⟩⟩
  | n + 1 => by
    have ih := all_pf (P := P) (w := w) h0 eK hd ht hTB fn gl ex no sub n
    have e : 3 * (n + 1) = 3 * n + 3 := by omega
    rw [e]
    exact ⟨eK, fn, fun k hk => (hd k hk).elim (fun d => by
      obtain ⟨kp, fd, ps, F, hb⟩ := fn_def ih hTB d
      exact ⟨kp, F.toU hb⟩) fun d => fn_rest ih d, gl, ex, no, sub, fun i x hx => told_ok ih h0 (by omega) (ht i x hx)⟩
/-- the law's call at the end: HandS.EndTab's law_callTs, but told of FnG (its caller's guards are known) -/
theorem law_callG {P : Program} {w : World} {K : PySem.W.Frag} {mg mb : Str → Option Value} {k : Nat} {fa a : Addr} {cs : List (Addr × Addr)} {fd : FuncData} {x : Str} {sp : Sp} {s₁ : Shared} {vs : List Value} {ns : List Int}
    (KX : K.In s₁.heap) (hns : s₁.heap.Ns mainGlobals mg) (hb : s₁.heap.Ns builtinsNs mb) (hbb : ∀ y : Str, y ≠ "__name__" → mb y = bootBuiltins y) (hlim : s₁.heap.NoLimit) (hg : s₁.gens = #[])
    (hT : ∀ p ∈ cs, s₁.heap.get? p.2 = some { cls := .none, data := .fields #[] }) (nT : ∀ p ∈ cs, K.lookup p.2 = none) (C : ∀ p ∈ cs, PySem.W.CodeHd s₁.heap p.1 p.2)
    (hbm : ∃ (bm : Addr) (ob : Obj), mg "__builtins__" = some (.ref bm) ∧ bm ≠ builtinsNs ∧ s₁.heap.get? bm = some ob ∧ ob.cls = .type "module" ∧ ob.dict = some builtinsNs ∧ ob.data = .plain)
    (ha : s₁.heap.get? a = some { cls := .type "list", data := .seq vs.toArray }) (hi : IntsAre vs ns) (hl : ns.length ≤ sizeLine) (hr : Room k callerA)
    (F : ∀ base : Heap, K.In base → base.Ns mainGlobals mg → (∀ p ∈ cs, TabB base mg p.1 p.2) → FnG P w K mg base k fa fd [x] sp) (hbind : ∀ (s : Shared) (u : Value), BindsTo s fd ⟨[u], []⟩ [(x, u)])
    (hsp : ∀ H : Hp, (∀ p ∈ cs, H p.2 = some (.tbl #[])) → (∀ b, H b = none ∨ b ∈ cs.map (·.2) ∨ ∃ o xs, H b = some (.frz o (.lst xs))) → SqL K H a (ns.map V.int) → sp [.ref a] H (fun v _ => v = .bl true) fun _ _ _ => False)
    :
    codeAny (model P w) callerA (.call (.ref fa) ⟨[.ref a], []⟩) (fun r s' => r = .ok (.ret (.bool true)) ∧ OldK s₁.heap s'.heap ∧ s'.os = s₁.os ∧ AllBare s'.gens) s₁ := by
  have rv := vals_ints hi
  have lenV := hi.length
  have isT : ∀ b : Addr, b ∈ cs.map (·.2) → s₁.heap.get? b = some { cls := .none, data := .fields #[] } := fun b hb => by
    obtain ⟨p, hp, e⟩ := List.mem_map.mp hb
    rw [← e]
    exact hT p hp
  have aT : a ∉ cs.map (·.2) := fun z => by
    have q := isT a z
    rw [ha] at q
    have z' : Data.seq vs.toArray _ = Data.fields #[] := congrArg Obj.data (Option.some.inj q)
    cases z'
  have memT : ∀ p ∈ cs, p.2 ∈ cs.map (·.2) := fun p hp => List.mem_map.mpr ⟨p, hp, rfl⟩
  -- from an abstract heap in which nothing but the script and the tables may be tracked
  have core : ∀ H : Hp, (∀ p ∈ cs, H p.2 = some (.tbl #[])) → (∀ b, H b = none ∨ b ∈ cs.map (·.2) ∨ ∃ o xs, H b = some (.frz o (.lst xs))) → SqL K H a (ns.map V.int) → HOk P w H s₁.heap → (∀ b, H b ≠ none → b = a ∨ b ∈ cs.map (·.2)) → (H a ≠ none → K.lookup a = none) →
      codeAny (model P w) callerA (.call (.ref fa) ⟨[.ref a], []⟩) (fun r s' => r = .ok (.ret (.bool true)) ∧ OldK s₁.heap s'.heap ∧ s'.os = s₁.os ∧ AllBare s'.gens) s₁ := by
    intro H hH hO hS hok hA hK
    have base_of : ∀ {b : Addr} {o : Obj}, s₁.heap.get? b = some o → H b = none → (hidT s₁.heap H).get? b = some o := fun e n => hidT_get e n
    have noD : ∀ {b : Addr} {o : Obj}, s₁.heap.get? b = some o → (∀ vs n, o.data ≠ .seq vs n) → o.data ≠ .fields #[] → H b = none := fun {b o} e h1 h2 => by
      cases q : H b with
      | none => rfl
      | some u =>
        rcases hA b (by rw [q]; simp) with e' | e'
        · rw [e', ha] at e
          cases e
          exact (h1 _ _ rfl).elim
        · rw [isT b e'] at e
          cases e
          exact (h2 rfl).elim
    have noA : ∀ {b : Addr} {o : Obj} {es : Array DictEntry} {ep : Nat}, s₁.heap.get? b = some o → o.data = .dict es ep → H b = none := fun {b o es ep} e d => by
      refine noD e (fun vs n z => ?_) fun z => ?_
      · rw [d] at z
        cases z
      · rw [d] at z
        cases z
    have nsK : ∀ {b : Addr} {m : Str → Option Value}, s₁.heap.Ns b m → (hidT s₁.heap H).Ns b m := fun {b m} ⟨o, es, ep, e, d, r⟩ => ⟨o, es, ep, base_of e (noA e d), d, r⟩
    have hKb : K.In (hidT s₁.heap H) := fun b o e => base_of (KX b o e) (by
      cases q : H b with
      | none => rfl
      | some u =>
        rcases hA b (by rw [q]; simp) with e' | e'
        · rw [e'] at e q
          rw [hK (by rw [q]; simp)] at e
          cases e
        · obtain ⟨p, hp, ep⟩ := List.mem_map.mp e'
          rw [← ep, nT p hp] at e
          cases e)
    have hM : L2.Mod K mg (hidT s₁.heap H) := ⟨hKb, nsK hns, ⟨mb, nsK hb, hbb⟩, let ⟨mc, h1, h2⟩ := hlim; ⟨mc, nsK h1, h2⟩⟩
    have TB : ∀ p ∈ cs, TabB (hidT s₁.heap H) mg p.1 p.2 := fun p hp => by
      have hTp := hT p hp
      refine ⟨?_, ?_, fun z => ?_⟩
      · obtain ⟨o, us, file, tf, flags, tg, inF, text, tt, e1, r1, r2, r3, r4, r5, r6, r7, r8, hne⟩ := C p hp
        refine ⟨o, us, file, tf, flags, tg, inF, text, tt, base_of e1 (noD e1 (fun vs n z => ?_) fun z => ?_), r1, r2, r3, r4, r5, r6, r7, r8, hne⟩
        · rw [r2] at z
          cases z
        · rw [r2] at z
          cases z
          simp at r3
      · obtain ⟨bm, ob, b1, b2, b3, b4, b5, b6⟩ := hbm
        have nG : bm ≠ mainGlobals := fun q => by
          obtain ⟨o, es, ep, e, hd, _⟩ := hns
          rw [q, e] at b3
          cases b3
          rw [hd] at b6
          cases b6
        have nP : bm ≠ p.2 := fun q => by
          rw [q, hTp] at b3
          cases b3
          cases b6
        refine ⟨bm, ob, b1, b2, nG, nP, base_of b3 (noD b3 (fun vs n z => ?_) fun z => ?_), b4, b5, b6⟩
        · rw [b6] at z
          cases z
        · rw [b6] at z
          cases z
      · obtain ⟨o, es, ep, e, hd, _⟩ := hns
        rw [z, hTp] at e
        cases e
        cases hd
    have e0 : Env0 P w K mg (hidT s₁.heap H) callerA [] s₁ H := ⟨rfl, hM, fun b o e => of_hidT e, Nat.le_of_eq (hidT_size _ _), trivial, fun b hb => absurd (show b ∈ ([] : List Addr) from hb) (by simp), hok, .of_eq hg⟩
    refine codeAny_mono ((F _ hKb (nsK hns) TB).run callerA [] s₁ H ⟨[.ref a], []⟩ [.ref a] [.ref a] _ _ rfl hr e0 (hbind s₁ (.ref a)) (.cons rfl .nil) (hsp H hH hO hS)) fun r s' h => ?_
    cases r with
    | error e => obtain ⟨_, _, _, _, _, _, _, _, _, _, _, _, hE⟩ := h; exact hE.elim
    | ok fl =>
      cases fl with
      | next => exact False.elim h
      | brk => exact False.elim h
      | cont => exact False.elim h
      | ret u =>
        obtain ⟨v, H', os, bare, un, hok', r', q⟩ := h
        have q' : v = .bl true := q
        subst q'
        obtain rfl : u = Value.bool true := r'
        have key : ∀ b o, b ∉ cs.map (·.2) → s₁.heap.get? b = some o → s'.heap.get? b = some o := fun b o nb e => by
          cases q : H b with
          | none => exact un.keep b o e q (by intro z; exact absurd (show b ∈ ([] : List Addr) from z) (by simp)) (by simp)
          | some u =>
            rcases hO b with z | z | ⟨ob, xs, z⟩
            · rw [q] at z; cases z
            · exact absurd z nb
            · have z2 := un.frzs b ob _ z
              obtain ⟨e1, _⟩ := hok b _ z
              obtain ⟨e2, _⟩ := hok' b _ z2
              rw [e] at e1; cases e1
              exact e2
        have grown : ∀ p ∈ cs, ∃ more : Array Value, s'.heap.get? p.2 = some { cls := .none, data := .fields more } := fun p hp => by
          obtain ⟨more, z⟩ := un.tbls p.2 #[] (hH p hp)
          exact ⟨_, hok' p.2 _ z⟩
        refine ⟨rfl, ⟨fun b o e => ?_, fun b o e => ?_⟩, os, bare⟩
        · by_cases hb : b ∈ cs.map (·.2)
          · obtain ⟨p, hp, ep⟩ := List.mem_map.mp hb
            obtain ⟨more, hm⟩ := grown p hp
            rw [← ep] at e ⊢
            rw [hT p hp] at e
            cases e
            exact .inr (.inl ⟨((C p hp).tab (hT p hp)).isCodeTable, rfl, #[], more, rfl, by rw [Array.empty_append]; exact hm⟩)
          · exact .inl (key b o hb e)
        · by_cases hb : b ∈ cs.map (·.2)
          · obtain ⟨p, hp, ep⟩ := List.mem_map.mp hb
            obtain ⟨more, hm⟩ := grown p hp
            rw [← ep]
            exact ⟨_, hm⟩
          · exact ⟨o, key b o hb e⟩
  cases hk : K.lookup a with
  | some o =>
    have e := KX a o hk
    rw [ha] at e
    cases e
    refine core (fun b => if b ∈ cs.map (·.2) then some (.tbl #[]) else none) (fun p hp => if_pos (memT p hp)) (fun b => ?_) (.inr ⟨_, vs.toArray, _, hk, rfl, rfl, rfl, by rw [List.size_toArray, lenV]; exact hl, by simpa using rv⟩) (fun b u z => ?_) (fun b z => ?_) fun z => absurd (show (if a ∈ cs.map (·.2) then some (HO.tbl #[]) else none) = none from if_neg aT) z
    · by_cases hb : b ∈ cs.map (·.2)
      · exact .inr (.inl hb)
      · exact .inl (if_neg hb)
    · by_cases hb : b ∈ cs.map (·.2)
      · have z' := (if_pos hb).symm.trans z
        cases z'
        exact isT b hb
      · have z' := (if_neg hb).symm.trans z
        cases z'
    · by_cases hb : b ∈ cs.map (·.2)
      · exact .inr hb
      · exact absurd (if_neg hb) z
  | none =>
    refine core (fun b => if b = a then some (.frz { cls := .type "list", data := .seq vs.toArray } (.lst (ns.map V.int))) else if b ∈ cs.map (·.2) then some (.tbl #[]) else none) (fun p hp => (if_neg (show ¬ p.2 = a from fun z => aT (by rw [← z]; exact memT p hp))).trans (if_pos (memT p hp))) (fun b => ?_)
      (.inl (.inr ⟨{ cls := .type "list", data := .seq vs.toArray }, if_pos rfl⟩)) (fun b u z => ?_) (fun b z => ?_) fun _ => hk
    · by_cases hb : b = a
      · exact .inr (.inr ⟨_, _, if_pos hb⟩)
      · by_cases hb2 : b ∈ cs.map (·.2)
        · exact .inr (.inl hb2)
        · exact .inl ((if_neg hb).trans (if_neg hb2))
    · by_cases hb : b = a
      · have z' := (if_pos hb).symm.trans z
        cases z'
        rw [hb]
        exact ⟨ha, by rw [List.length_map]; exact hl, vs, _, rv, ha⟩
      · have z1 := (if_neg hb).symm.trans z
        by_cases hb2 : b ∈ cs.map (·.2)
        · have z' := (if_pos hb2).symm.trans z1
          cases z'
          exact isT b hb2
        · have z' := (if_neg hb2).symm.trans z1
          cases z'
    · by_cases hb : b = a
      · exact .inl hb
      · by_cases hb2 : b ∈ cs.map (·.2)
        · exact .inr hb2
        · exact absurd ((if_neg hb).trans (if_neg hb2)) z
/-- what is known of the law at the head's heap h -/
def LawG (l : PySem.W.OpenLaw) (w : World) (K : PySem.W.Frag) (k n : Nat) (x : Str) (mg : Str → Option Value) (fa : Addr) (h : Heap) : Prop :=
  ∃ (fd : FuncData) (cds : List (Addr × Addr)) (sp : Sp), (∀ p ∈ cds, h.get? p.2 = some { cls := .none, data := .fields #[] }) ∧ (∀ p ∈ cds, K.lookup p.2 = none) ∧ (∀ p ∈ cds, PySem.W.CodeHd h p.1 p.2) ∧ (∀ (s : Shared) (u : Value), BindsTo s fd ⟨[u], []⟩ [(x, u)]) ∧
    (∀ (H : Hp) (a : Addr) (ns : List Int), ns.length ≤ n → (∀ p ∈ cds, H p.2 = some (.tbl #[])) → (∀ b, H b = none ∨ b ∈ cds.map (·.2) ∨ ∃ o xs, H b = some (.frz o (.lst xs))) → SqL K H a (ns.map V.int) → sp [.ref a] H (fun v _ => v = .bl true) fun _ _ _ => False) ∧
    ∀ base : Heap, K.In base → base.Ns mainGlobals mg → (∀ p ∈ cds, TabB base mg p.1 p.2) → FnG l.prog w K mg base k fa fd [x] sp
theorem walk_ofG {l : PySem.W.OpenLaw} {n k : Nat} {q : Program} {loose : List Str} {XP : (Str → Option Value) → Heap → Prop} {YP : World → Heap → Prop} {d : DefRec} {x : Str} (hn : l.most = some n) (hn2 : n ≤ sizeLine) (hdf : d.params.defaults = []) (hr : Room k callerA)
    (F : ∀ (w : World) (mg : Str → Option Value) (fa : Addr) (h : Heap), YP w h → h.Ns mainGlobals mg → mg d.name = some (.ref fa) → ∃ K : PySem.W.Frag, K.In h ∧ LawG l w K k n x mg fa h) :
    PySem.W.WalkO q loose XP YP l.row.toRowW d [] (fun f vs => PySem.call f vs) := by
  refine Att.attach_call hn hdf fun w s₀ s₁ mg mb fa o pm cd doc a vs ns G Y ho hd hcd hmg hobj hints hlen hg => ?_
  obtain ⟨K, KX, fd, cds, sp, hT, nT, C, hb, hsp, hF⟩ := F w mg fa _ Y G.T.g hmg
  exact law_callG KX G.T.g G.T.b G.T.builtins G.T.nolimit hg hT nT C G.T.bmain hobj hints (Nat.le_trans hlen hn2) hr hF hb fun H hH hO hS => hsp H a ns hlen hH hO hS
theorem ints_rp {K : PySem.W.Frag} {H : Hp} {Z : Addr → Prop} (ns : List Int) : RpA K H Z (ns.map V.int) (ns.map PyData.int) := RpA.ofInts ns
/-- the law says True: what its promise asks -/
theorem law_sp {S : Sx} {c : List Arg → Hand → Cr} {H : Hp} {a : Addr} {ns : List Int} {cds : List (Addr × Addr)} {fr : Bool} {h' : Hand} (hr : c [.scr (ns.map PyData.int)] none = .ok fr (.bool true) h') (hl : ns.length ≤ sizeLine) (hT : ∀ p ∈ S.T, ∃ z, (z, p.1) ∈ cds) (hH : ∀ p ∈ cds, H p.2 = some (.tbl #[]))
    (hO : ∀ b, H b = none ∨ b ∈ cds.map (·.2) ∨ ∃ o xs, H b = some (.frz o (.lst xs))) (hS : SqL S.K H a (ns.map V.int)) : spF S c [.ref a] H (fun v _ => v = .bl true) fun _ _ _ => False := by
  refine ⟨fun _ => False, none, [.scr (ns.map PyData.int)], none, .cons ⟨a, ns.map V.int, rfl, ?_, by rw [List.length_map]; exact hl, RpA.ofInts ns⟩ .nil, rfl, (fun _ e => by cases e), fun _ z => False.elim z, fun p hp => ?_, ?_⟩
  · rcases hS with (h | ⟨o, h⟩) | h
    · rcases hO a with z | z | ⟨o, xs, z⟩
      · rw [h] at z; cases z
      · obtain ⟨p, hp, e⟩ := List.mem_map.mp z
        have := hH p hp
        rw [e, h] at this
        cases this
      · rw [h] at z; cases z
    · exact .inl ⟨o, h⟩
    · exact .inr h
  · obtain ⟨z, hz⟩ := hT p hp
    exact TabS.nil (hH _ hz)
  · rw [hr]
    exact fun v H' _ rp _ => rp.vbl
end PyD

/-! PyX4: from the head's facts to the program's. -/
namespace PyD
open PySem PySem.Spec PyProof.Rows L2 LamX

/-! ### plain parameters are bound in order -/
theorem lookup_zip {ps : List Str} (nd : ps.Nodup) : ∀ {us : List Value}, us.length = ps.length → ps.filterMap (fun n => ((ps.zip us).lookup n).map (n, ·)) = ps.zip us := by
  suffices h : ∀ (ps : List Str), ps.Nodup → ∀ (us : List Value) (pre : List (Str × Value)), us.length = ps.length → (∀ p ∈ pre, p.1 ∉ ps) → ps.filterMap (fun n => ((pre ++ ps.zip us).lookup n).map (n, ·)) = ps.zip us from
    fun {us} hl => h ps nd us [] hl (fun _ z => by cases z)
  intro ps
  induction ps with
  | nil => intro _ us pre hl _; cases us with
    | nil => rfl
    | cons _ _ => cases hl
  | cons p ps ih =>
    intro nd us pre hl hp
    cases us with
    | nil => cases hl
    | cons u us =>
      obtain ⟨h1, h2⟩ := List.nodup_cons.mp nd
      have e1 : (pre ++ (p :: ps).zip (u :: us)).lookup p = some u := by
        rw [List.lookup_append, show pre.lookup p = none from List.lookup_eq_none_iff.mpr fun q hq => by
          have := hp q hq
          simp only [List.mem_cons, not_or] at this
          simp
          exact fun z => this.1 z.symm]
        simp
      rw [List.filterMap_cons, e1]
      show (p, u) :: _ = (p, u) :: _
      congr 1
      have := ih h2 us (pre ++ [(p, u)]) (by simpa using hl) (fun q hq => by
        rcases List.mem_append.mp hq with hq | hq
        · have := hp q hq
          simp only [List.mem_cons, not_or] at this
          exact this.2
        · cases List.mem_singleton.mp hq
          exact h1)
      rw [List.append_assoc] at this
      exact this
def plainP : Arguments → List Str → Bool
  | ⟨[], as, none, [], [], none, []⟩, ps => decide (as.map (·.arg) = ps) && decide ps.Nodup
  | _, _ => false
theorem lookup_zip_some {ps : List Str} {us : List Value} (hl : us.length = ps.length) {n : Str} (h : n ∈ ps) : ((ps.zip us).lookup n).isNone = false := by
  induction ps generalizing us with
  | nil => cases h
  | cons p ps ih =>
    cases us with
    | nil => cases hl
    | cons u us =>
      rw [List.zip_cons_cons, List.lookup_cons]
      cases q : n == p with
      | true => rfl
      | false =>
        rcases List.mem_cons.mp h with h | h
        · rw [h] at q; simp at q
        · exact ih (by simpa using hl) h
theorem bind_plain {x q : Str} {params : Arguments} {ps : List Str} (h : plainP params ps = true) (body : List Stmt) (scope : Scope) (kV doc pm : Value) (an : Option Addr) (cdv ct : Value) (us : List Value) (hl : us.length = ps.length) :
    bindArgs (PySem.W.fnOf x q params body scope .none kV doc pm an cdv ct) ⟨us, []⟩ = pure (ps.zip us) := by
  obtain ⟨a1, as, a3, a4, a5, a6, a7⟩ := params
  have key : a1 = [] ∧ a3 = none ∧ a4 = [] ∧ a5 = [] ∧ a6 = none ∧ a7 = [] ∧ as.map (·.arg) = ps ∧ ps.Nodup := by
    unfold plainP at h
    split at h
    · rename_i heq
      cases heq
      rw [Bool.and_eq_true] at h
      exact ⟨rfl, rfl, rfl, rfl, rfl, rfl, of_decide_eq_true h.1, of_decide_eq_true h.2⟩
    · cases h
  obtain ⟨rfl, rfl, rfl, rfl, rfl, rfl, hp, nd⟩ := key
  have e1 : (ps.filter fun n => (List.lookup n (ps.zip us)).isNone) = [] := by
    rw [List.filter_eq_nil_iff]
    intro n hn
    rw [lookup_zip_some hl hn]
    simp
  have e2 := lookup_zip nd hl
  have e3 : ¬ us.length > ps.length := by rw [hl]; omega
  have e5 : as.length = ps.length := by rw [← hp, List.length_map]
  have e6 : notAStandIn Value.none = pure () := rfl
  unfold bindArgs PySem.W.fnOf
  simp [seqItems?, hp, e1, e2, e3, hl, e5, e6]

/-- a last parameter gathers what is left -/
def restP : Arguments → List Str → Bool
  | ⟨[], as, some r, [], [], none, []⟩, ps => decide (as.map (·.arg) ++ [r.arg] = ps) && decide ps.Nodup
  | _, _ => false
theorem zip_take' {α β : Type} : ∀ (qs : List α) (us : List β), qs.zip us = qs.zip (us.take qs.length)
  | [], _ => rfl
  | _ :: _, [] => rfl
  | q :: qs, u :: us => by rw [List.zip_cons_cons, zip_take' qs us]; rfl
theorem bind_rest {x q : Str} {params : Arguments} {ps : List Str} (h : restP params ps = true) (body : List Stmt) (scope : Scope) (kV doc pm : Value) (an : Option Addr) (cdv ct : Value) (us : List Value) (hl : ps.length ≤ us.length + 1) :
    bindArgs (PySem.W.fnOf x q params body scope .none kV doc pm an cdv ct) ⟨us, []⟩ = (newTuple (us.drop (ps.length - 1)) >>= fun t => pure (ps.zip (us.take (ps.length - 1) ++ [t]))) := by
  obtain ⟨a1, as, a3, a4, a5, a6, a7⟩ := params
  have key : ∃ r : PySem.Arg, a1 = [] ∧ a3 = some r ∧ a4 = [] ∧ a5 = [] ∧ a6 = none ∧ a7 = [] ∧ as.map (·.arg) ++ [r.arg] = ps ∧ ps.Nodup := by
    unfold restP at h
    split at h
    · rename_i r heq
      cases heq
      rw [Bool.and_eq_true] at h
      exact ⟨_, rfl, rfl, rfl, rfl, rfl, rfl, of_decide_eq_true h.1, of_decide_eq_true h.2⟩
    · cases h
  obtain ⟨r, rfl, rfl, rfl, rfl, rfl, rfl, hp, nd⟩ := key
  have hq : ∃ qs, as.map (·.arg) = qs := ⟨_, rfl⟩
  obtain ⟨qs, hq⟩ := hq
  rw [hq] at hp
  subst hp
  have ndq : qs.Nodup := (List.nodup_append.mp nd).1
  have hl1 : (qs ++ [r.arg]).length - 1 = qs.length := by rw [List.length_append]; rfl
  rw [hl1]
  rw [List.length_append, List.length_singleton] at hl
  have ht : (us.take qs.length).length = qs.length := by rw [List.length_take]; omega
  have e1 : (qs.filter fun n => (List.lookup n (qs.zip us)).isNone) = [] := by
    rw [List.filter_eq_nil_iff]
    intro n hn
    rw [zip_take' qs us, lookup_zip_some ht hn]
    simp
  have e2 : qs.filterMap (fun n => ((qs.zip us).lookup n).map (n, ·)) = qs.zip (us.take qs.length) := by
    rw [zip_take' qs us]
    exact lookup_zip ndq ht
  have e5 : as.length = qs.length := by rw [← hq, List.length_map]
  have e7 : ∀ t : Value, (qs ++ [r.arg]).zip (us.take qs.length ++ [t]) = qs.zip (us.take qs.length) ++ [(r.arg, t)] := fun t => by
    rw [List.zip_append ht.symm]
    rfl
  have e6 : notAStandIn Value.none = pure () := rfl
  unfold bindArgs PySem.W.fnOf
  simp [seqItems?, hq, e1, e2, e5, e6, e7]
/-! ### a program as data -/
structure DefX where
  d : He.DefD
  f : Fd
  N : List Str
  ps : List Str
  lam : Bool := false
def lamQ (d : He.DefD) : Str := (d.qual ++ ".<locals>.") ++ "<lambda>"
def scB (N P : List Str) (sc : Scope) : Bool := decide (sc.kind = .function) && !sc.isCoroutine && !sc.isGenerator && decide N.Nodup && decide (N.take P.length = P) && (P.all fun x => decide (sc.names.lookup x = some .local) || decide (sc.names.lookup x = some .cell)) && (sc.names.all fun y => !decide (y.2 = .free))
theorem scB_ok {N P : List Str} {sc : Scope} (h : scB N P sc = true) : FnScope N P sc := by
  unfold scB at h
  simp only [Bool.and_eq_true] at h
  obtain ⟨⟨⟨⟨⟨⟨h1, h2⟩, h3⟩, h4⟩, h5⟩, h6⟩, h7⟩ := h
  refine ⟨of_decide_eq_true h1, not_true h2, not_true h3, of_decide_eq_true h4, of_decide_eq_true h5, fun x hx => ?_, fun y hy => ?_⟩
  · have := List.all_eq_true.mp h6 x hx
    rw [Bool.or_eq_true] at this
    exact this.imp of_decide_eq_true of_decide_eq_true
  · exact of_decide_eq_false (not_true (List.all_eq_true.mp h7 y hy))
def DefX.base (x : DefX) : Bool := decide (x.d.at_ = (x.d.name, none)) && x.d.dfl.isEmpty && x.d.kwd.isEmpty && scB x.N x.ps x.d.scope && plainP x.d.params x.ps && decide (x.N.length = x.f.ns) && x.f.dfl.isEmpty
def DefX.ok (tb : Tb) (x : DefX) : Bool := x.base && decide (x.ps.length = x.f.np) && ckSs tb { sc := x.d.scope, ost := x.d.scope.names, N := x.N, calm := true, lam := if x.lam then some (lamQ x.d) else none } x.f.body x.d.body
def DefX.baseR (x : DefX) : Bool := decide (x.d.at_ = (x.d.name, none)) && x.d.dfl.isEmpty && x.d.kwd.isEmpty && scB x.N x.ps x.d.scope && restP x.d.params x.ps && decide (x.N.length = x.f.ns) && isRest x.f
def DefX.okR (tb : Tb) (x : DefX) : Bool := x.baseR && decide (x.ps.length = x.f.np) && ckSs tb { sc := x.d.scope, ost := x.d.scope.names, N := x.N, calm := true, lam := none } x.f.body x.d.body
def DefX.okA (tb : Tb) (x : DefX) : Bool := if isRest x.f = true then x.okR tb else x.ok tb
def DefX.okT (tb : Tb) (x : DefX) : Bool := x.base && decide (x.d.qual = x.d.name) && decide (x.f.np = 0) && (match x.ps with
  | [a] => decide (x.N[0]? = some a) && !(a == ("__debug__" : Str)) && !(a == ("__classdict__" : Str)) && ckTold tb { sc := x.d.scope, ost := x.d.scope.names, N := x.N, calm := true } a x.f.body x.d.body
  | _ => false)
structure PrX where
  defs : List DefX
  tells : List DefX
  gls : List (Str × PyData)
  xN : List Str
  noN : List Str
  bN : List Str
  subL : List (Nat × Nat × Bool)
namespace PrX
def tb (p : PrX) : Tb := ⟨p.defs.map (·.d.name), p.gls.map (·.1), p.xN, p.noN, p.tells.map (·.d.name), p.bN⟩
def pg (p : PrX) : Pg := ⟨fun i => if i < 1000 then (p.defs[i]?).map (·.f) else (p.tells[i - 1000]?).map (·.f), fun k => (p.gls[k]?).map (·.2), fun c' c => (p.subL.find? fun z => z.1 == c' && z.2.1 == c).map (·.2.2)⟩
def lams (p : PrX) : List DefX := p.defs.filter (·.lam)
def tf (p : PrX) : List He.Defn := p.lams.map (·.d.at_)
def cds (p : PrX) (K : PySem.W.Frag) : List (Addr × Addr) := p.tf.map (He.cT K)
def T (p : PrX) (K : PySem.W.Frag) : List (Addr × Str) := p.lams.map fun x => ((He.cT K x.d.at_).2, lamQ x.d)
def S (p : PrX) (K : PySem.W.Frag) : Sx := ⟨K, p.T K, fun k => match p.defs[k]? with
  | some x => He.fAd K x.d.at_
  | none => 0, fun c => match p.xN[c]? with
  | some n => He.ga K n
  | none => 0, p.defs.length, none⟩
def fn (p : PrX) : List He.DefD := p.defs.map (·.d) ++ p.tells.map (·.d)
def glFa : Str × PyData → He.Fa
  | (n, .int i) => .int n i
  | (n, .str s) => .str n s
  | (n, _) => .free n
def glB : PyData → Bool
  | .int _ => true
  | .str _ => true
  | _ => false
def fa (p : PrX) : List He.Fa := p.fn.map (fun d => .glo d.name) ++ (p.xN.map .glo ++ (p.xN.map .exc ++ (p.noN.map .free ++ (p.bN.map .free ++ p.gls.map glFa))))
def excCB (K : PySem.W.Frag) (D : Addr) : Bool :=
  decide (PySem.W.findIn K (.ref D) "__getattribute__" = some (some (.builtin "BaseException.__getattribute__"))) && decide (PySem.W.findIn K (.ref D) "__getattr__" = some none) && decide (PySem.W.subIn K (.ref D) (.type "BaseException") = some true) && PySem.W.hasDictIn K D &&
  decide (PySem.W.findIn K (.ref D) "__class__" = some (some (.builtin "object.__class__"))) && decide (PySem.W.specialIn K (.builtin "object.__class__") "__get__" = some (some (.builtin "getset_descriptor.__get__"))) && decide (PySem.W.takesIn K (.builtin "object.__class__") = some true) &&
  decide (PySem.W.mroIn K D (.type "object") = some true)
theorem excCB_ok {K : PySem.W.Frag} {D : Addr} (h : excCB K D = true) : ExcC K D := by
  unfold excCB at h
  simp only [Bool.and_eq_true] at h
  obtain ⟨⟨⟨⟨⟨⟨⟨h1, h2⟩, h3⟩, h4⟩, h5⟩, h6⟩, h7⟩, h8⟩ := h
  exact ⟨of_decide_eq_true h1, of_decide_eq_true h2, of_decide_eq_true h3, h4, of_decide_eq_true h5, of_decide_eq_true h6, of_decide_eq_true h7, of_decide_eq_true h8⟩
def subB (p : PrX) (K : PySem.W.Frag) (z : Nat × Nat × Bool) : Bool := excCB K ((p.S K).ca z.1) && (match p.xN[z.2.1]? with
  | some _ => decide (PySem.W.kitOne K (.ref ((p.S K).ca z.1)) (.ref ((p.S K).ca z.2.1)) = some z.2.2) && decide (PySem.W.exmOne K (.ref ((p.S K).ca z.1)) (.ref ((p.S K).ca z.2.1)) = some z.2.2)
  | none => true) && (match p.bN[z.2.1 - 1000]? with
  | some n => (match bootBuiltins n with
    | some (.type T) => !decide (1000 ≤ z.2.1) || decide (PySem.W.kitOne K (.ref ((p.S K).ca z.1)) (.type T) = some z.2.2)
    | _ => false)
  | none => true)
def ex (p : PrX) (K : PySem.W.Frag) : Bool := (p.subL.all (p.subB K)) && ((p.T K).all fun a => (p.T K).all fun b => !decide (a.1 = b.1) || decide (a.2 = b.2))
end PrX
end PyD

/-! PyX5: from the head's facts to the program's. -/
namespace PyD
open PySem PySem.Spec PyProof.Rows L2 LamX
namespace PrX
section
variable {p : PrX} {w : World} {K : PySem.W.Frag} {mg : Str → Option Value} {h : Heap}
theorem glB_fa {q : Str × PyData} {n : Str} {d : PyData} (e : q = (n, d)) (hg : glB d = true) : (∃ i, d = .int i ∧ glFa q = .int n i) ∨ ∃ s, d = .str s ∧ glFa q = .str n s := by
  subst e
  cases d <;> first | (exact .inl ⟨_, rfl, rfl⟩) | (exact .inr ⟨_, rfl, rfl⟩) | cases hg
theorem faG (p : PrX) {d : He.DefD} (h : d ∈ p.fn) : He.Fa.glo d.name ∈ p.fa := List.mem_append_left _ (List.mem_map.mpr ⟨d, h, rfl⟩)
theorem faX (p : PrX) {n : Str} (h : n ∈ p.xN) : He.Fa.glo n ∈ p.fa ∧ He.Fa.exc n ∈ p.fa := ⟨List.mem_append_right _ (List.mem_append_left _ (List.mem_map.mpr ⟨n, h, rfl⟩)), List.mem_append_right _ (List.mem_append_right _ (List.mem_append_left _ (List.mem_map.mpr ⟨n, h, rfl⟩)))⟩
theorem faF (p : PrX) {n : Str} (h : n ∈ p.noN) : He.Fa.free n ∈ p.fa := List.mem_append_right _ (List.mem_append_right _ (List.mem_append_right _ (List.mem_append_left _ (List.mem_map.mpr ⟨n, h, rfl⟩))))
theorem faB (p : PrX) {n : Str} (h : n ∈ p.bN) : He.Fa.free n ∈ p.fa := List.mem_append_right _ (List.mem_append_right _ (List.mem_append_right _ (List.mem_append_right _ (List.mem_append_left _ (List.mem_map.mpr ⟨n, h, rfl⟩)))))
theorem faC (p : PrX) {q : Str × PyData} (h : q ∈ p.gls) : glFa q ∈ p.fa := List.mem_append_right _ (List.mem_append_right _ (List.mem_append_right _ (List.mem_append_right _ (List.mem_append_right _ (List.mem_map.mpr ⟨q, h, rfl⟩)))))
theorem fnD (p : PrX) {x : DefX} (h : x ∈ p.defs) : x.d ∈ p.fn := List.mem_append_left _ (List.mem_map.mpr ⟨x, h, rfl⟩)
theorem fnT (p : PrX) {x : DefX} (h : x ∈ p.tells) : x.d ∈ p.fn := List.mem_append_right _ (List.mem_map.mpr ⟨x, h, rfl⟩)
theorem base_ok {x : DefX} (b : x.base = true) : x.d.at_ = (x.d.name, none) ∧ x.d.dfl = [] ∧ x.d.kwd = [] ∧ FnScope x.N x.ps x.d.scope ∧ plainP x.d.params x.ps = true ∧ x.N.length = x.f.ns ∧ x.f.dfl = [] := by
  unfold DefX.base at b
  simp only [Bool.and_eq_true] at b
  obtain ⟨⟨⟨⟨⟨⟨h1, h2⟩, h3⟩, h4⟩, h5⟩, h6⟩, h7⟩ := b
  exact ⟨of_decide_eq_true h1, List.isEmpty_iff.mp h2, List.isEmpty_iff.mp h3, scB_ok h4, h5, of_decide_eq_true h6, List.isEmpty_iff.mp h7⟩
theorem fun_ok (c : He.SaysD p.fa p.fn K) {x : DefX} (hx : x.d ∈ p.fn) (b : x.base = true) : ∃ fd, FunD K x.d.name x.d.qual x.d.params x.d.body x.d.scope [] [] (He.fAd K x.d.at_) fd := by
  obtain ⟨fd, F⟩ := c.defs hx
  obtain ⟨_, h2, h3, _⟩ := base_ok b
  unfold He.DefD.dvs He.DefD.kws at F
  rw [h2, h3] at F
  exact ⟨fd, F⟩
theorem def_ok (c : He.SaysX p.fa p.fn [] p.tf p.ex w h K) (hl : p.defs.length ≤ 1000) {x : DefX} {k : Nat} (hx : p.defs[k]? = some x) (ok : x.ok p.tb = true) :
    ∃ fd, DefOkF p.tb (p.S K) K (p.cds K) p.pg k fd x.ps ∧ ∀ (s : Shared) (us : List Value), us.length = x.ps.length → BindsTo s fd ⟨us, []⟩ (x.ps.zip us) := by
  have mem : x ∈ p.defs := List.mem_of_getElem? hx
  have hk : k < p.defs.length := (List.getElem?_eq_some_iff.mp hx).1
  unfold DefX.ok at ok
  simp only [Bool.and_eq_true] at ok
  obtain ⟨⟨b, hp⟩, ck⟩ := ok
  obtain ⟨h1, h2, h3, FS, pl, hN, hdf⟩ := base_ok b
  obtain ⟨fd, F⟩ := fun_ok c.t.d (fnD p mem) b
  have bA := FunD.bindsA (ps := x.ps) F fun kV doc pm an cdv ct us hl => bind_plain pl _ _ _ _ _ _ _ _ us hl
  have bN := FunD.bindsN (ps := x.ps) F fun kV doc pm an cdv ct us hl => bind_plain pl _ _ _ _ _ _ _ _ us hl
  have eA : (p.S K).fa k = He.fAd K x.d.at_ := by
    show (match p.defs[k]? with
      | some x => He.fAd K x.d.at_
      | none => 0) = _
    rw [hx]
  have hlook := F.ex
  obtain ⟨oc, od, dV, kV, doc, pm, an, cdv, ct, osl, rfl, lk, hcd, _, _⟩ := hlook
  refine ⟨_, ⟨if x.lam then some (lamQ x.d) else none, x.d.name, x.d.qual, x.d.params, x.d.body, x.d.scope, dV, kV, doc, pm, cdv, ct, oc, an, od, osl, x.N, x.f, rfl, ?_, by rw [eA]; exact lk, hcd, FS, bN, by rw [eA]; exact F.kp, hN, of_decide_eq_true hp, hdf, fun q hq => ?_, ck⟩, bA⟩
  · show (if k < 1000 then (p.defs[k]?).map (·.f) else _) = some x.f
    rw [if_pos (by omega), hx]
    rfl
  · cases hlam : x.lam with
    | false => rw [hlam] at hq; cases hq
    | true =>
      rw [hlam] at hq
      have eq : lamQ x.d = q := Option.some.inj hq
      subst eq
      obtain ⟨cc, rfl⟩ := He.codeIn_ref hcd
      have eC := He.codeOf_eq lk rfl
      have memL : x ∈ p.lams := List.mem_filter.mpr ⟨mem, hlam⟩
      refine ⟨cc, (He.cT K x.d.at_).2, rfl, rfl, ?_, List.mem_map.mpr ⟨x, memL, rfl⟩, fun pr hpr e1 => ?_⟩
      · refine List.mem_map.mpr ⟨x.d.at_, List.mem_map.mpr ⟨x, memL, rfl⟩, ?_⟩
        show (He.codeOf K x.d.at_, (He.cT K x.d.at_).2) = _
        rw [eC]
      · have hm := c.more
        unfold PrX.ex at hm
        rw [Bool.and_eq_true] at hm
        have := List.all_eq_true.mp (List.all_eq_true.mp hm.2 pr hpr) _ (List.mem_map.mpr ⟨x, memL, rfl⟩)
        rw [Bool.or_eq_true] at this
        rcases this with z | z
        · exact absurd e1 (of_decide_eq_false (not_true z))
        · exact of_decide_eq_true z
theorem rest_ok (c : He.SaysX p.fa p.fn [] p.tf p.ex w h K) (hl : p.defs.length ≤ 1000) {x : DefX} {k : Nat} (hx : p.defs[k]? = some x) (ok : x.okR p.tb = true) : DefOkR p.tb (p.S K) K p.pg k := by
  have mem : x ∈ p.defs := List.mem_of_getElem? hx
  have hk : k < p.defs.length := (List.getElem?_eq_some_iff.mp hx).1
  unfold DefX.okR DefX.baseR at ok
  simp only [Bool.and_eq_true] at ok
  obtain ⟨⟨⟨⟨⟨⟨⟨⟨b1, b2⟩, b3⟩, b4⟩, b5⟩, b6⟩, b7⟩, hp⟩, ck⟩ := ok
  have h2 := List.isEmpty_iff.mp b2
  have h3 := List.isEmpty_iff.mp b3
  have hN : x.N.length = x.f.ns := of_decide_eq_true b6
  have hp : x.ps.length = x.f.np := of_decide_eq_true hp
  obtain ⟨fd, F⟩ := c.t.d.defs (fnD p mem)
  unfold He.DefD.dvs He.DefD.kws at F
  rw [h2, h3] at F
  have eA : (p.S K).fa k = He.fAd K x.d.at_ := by
    show (match p.defs[k]? with
      | some x => He.fAd K x.d.at_
      | none => 0) = _
    rw [hx]
  obtain ⟨oc, od, dV, kV, doc, pm, an, cdv, ct, osl, rfl, lk, hcd, hD, _⟩ := F.ex
  rcases hD with ⟨_, rfl⟩ | ⟨e, _⟩
  · refine ⟨x.d.name, x.d.qual, x.d.params, x.d.body, x.d.scope, .none, kV, doc, pm, cdv, ct, oc, an, od, osl, x.N, x.ps, x.f, ?_, by rw [eA]; exact lk, hcd, scB_ok b4, fun us hu => ?_, by rw [eA]; exact F.kp, hN, hp, b7, ck⟩
    · show (if k < 1000 then (p.defs[k]?).map (·.f) else _) = some x.f
      rw [if_pos (by omega), hx]
      rfl
    · rw [← hp]
      exact bind_rest b5 _ _ _ _ _ _ _ _ us (by omega)
  · exact absurd rfl e
theorem told_okX (X : K.In h) (G : h.Ns mainGlobals mg) (c : He.SaysX p.fa p.fn [] p.tf p.ex w h K) {x : DefX} {i : Nat} (hx : p.tells[i]? = some x) (ok : x.okT p.tb = true) : ToldOk p.tb (p.S K) K mg p.pg i x.d.name := by
  have mem : x ∈ p.tells := List.mem_of_getElem? hx
  unfold DefX.okT at ok
  simp only [Bool.and_eq_true] at ok
  obtain ⟨⟨⟨b, hq⟩, hnp⟩, ck⟩ := ok
  have hq := of_decide_eq_true hq
  obtain ⟨h1, h2, h3, FS, pl, hN, hdf⟩ := base_ok b
  obtain ⟨fd, F⟩ := fun_ok c.t.d (fnT p mem) b
  split at ck
  · rename_i a hps
    rw [hps] at FS pl
    simp only [Bool.and_eq_true] at ck
    obtain ⟨⟨⟨k1, k2⟩, k3⟩, k4⟩ := ck
    have bN := FunD.bindsN (ps := [a]) F fun kV doc pm an cdv ct us hl => bind_plain pl _ _ _ _ _ _ _ _ us hl
    have hlook := F.ex
    have kp := F.kp
    rw [hq] at hlook
    have eA : He.fAd K x.d.at_ = He.ga K x.d.name := by rw [h1]; rfl
    obtain ⟨oc, od, dV, kV, doc, pm, an, cdv, ct, osl, rfl, lk, hcd, _, _⟩ := hlook
    refine ⟨He.fAd K x.d.at_, x.d.params, x.d.body, x.d.scope, dV, kV, doc, pm, cdv, ct, oc, an, od, osl, x.N, a, x.f, ?_, kp, lk, hcd, bN, FS, of_decide_eq_true k1, ?_, not_true k2, not_true k3, ?_, of_decide_eq_true hnp, hdf, hN, k4⟩
    · rw [eA]
      exact He.glo_ok X G (c.t.d.facts (faG p (fnT p mem)))
    · have := FS.par a (List.mem_singleton.mpr rfl)
      unfold Vis
      rcases this with z | z
      · rw [z]; simp
      · rw [z]; simp
    · show (if 1000 + i < 1000 then _ else (p.tells[1000 + i - 1000]?).map (·.f)) = some x.f
      rw [if_neg (by omega), show 1000 + i - 1000 = i by omega, hx]
      rfl
  · cases ck
end
/-- the law, by its program's data -/
theorem lawG {p : PrX} {l : PySem.W.OpenLaw} {w : World} {K : PySem.W.Frag} {mg : Str → Option Value} {h : Heap} {fa : Addr} {most n li : Nat} {lx : DefX} {x : Str} (hd : ∀ y ∈ p.defs, y.okA p.tb = true) (hlx : lx.ok p.tb = true) (ht : ∀ y ∈ p.tells, y.okT p.tb = true) (hg : ∀ q ∈ p.gls, glB q.2 = true) (hl : p.defs.length ≤ 1000)
    (X : K.In h) (G : h.Ns mainGlobals mg) (c : He.SaysX p.fa p.fn [] p.tf p.ex w h K) (hi : p.defs[li]? = some lx) (hps : lx.ps = [x]) (hfa : mg lx.d.name = some (.ref fa)) (hm : most ≤ sizeLine)
    (hrun : ∀ ns : List Int, ns.length ≤ most → ∃ fr h', run p.pg (n + 1) li none [.scr (ns.map PyData.int)] none = .ok fr (.bool true) h') : LawG l w K (3 * n + 3) most x mg fa h := by
  have memL : lx ∈ p.defs := List.mem_of_getElem? hi
  have fx : ∀ {y : He.Fa}, y ∈ p.fa → y.ok K = true := fun hy => c.t.d.facts hy
  obtain ⟨fd, dok, bA⟩ := def_ok c hl hi hlx
  have hb1 : lx.base = true := by
    have := hlx
    unfold DefX.ok at this
    simp only [Bool.and_eq_true] at this
    exact this.1.1
  have at1 : ∀ {y : DefX}, y ∈ p.defs → He.fAd K y.d.at_ = He.ga K y.d.name := fun {y} hy => by
    have := hd y hy
    unfold DefX.okA at this
    split at this
    · unfold DefX.okR DefX.baseR at this
      simp only [Bool.and_eq_true] at this
      rw [of_decide_eq_true this.1.1.1.1.1.1.1.1]
      rfl
    · unfold DefX.ok at this
      simp only [Bool.and_eq_true] at this
      rw [(base_ok this.1.1).1]
      rfl
  have efa : ∀ {k : Nat} {y : DefX}, p.defs[k]? = some y → (p.S K).fa k = He.ga K y.d.name := fun {k y} hk => by
    rw [← at1 (List.mem_of_getElem? hk)]
    show (match p.defs[k]? with
      | some x => He.fAd K x.d.at_
      | none => 0) = _
    rw [hk]
  have e1 : (p.S K).fa li = fa := by
    rw [efa hi]
    have := He.glo_ok X G (fx (faG p (fnD p memL)))
    rw [hfa] at this
    cases this
    rfl
  have cds_of : ∀ pr ∈ p.cds K, ∃ d ∈ p.tf, pr = He.cT K d := fun pr hp => by
    obtain ⟨d, hd, e⟩ := List.mem_map.mp hp
    exact ⟨d, hd, e.symm⟩
  refine ⟨fd, p.cds K, spF (p.S K) ((cl p.pg (n + 1)).fn li), fun pr hp => ?_, fun pr hp => ?_, fun pr hp => ?_, fun s u => ?_, fun H a ns hns hH hO hS => ?_, fun base hK hG TB => ?_⟩
  · obtain ⟨d, hd, rfl⟩ := cds_of pr hp
    exact c.empty d hd
  · obtain ⟨d, hd, rfl⟩ := cds_of pr hp
    exact c.out d hd
  · obtain ⟨d, hd, rfl⟩ := cds_of pr hp
    exact PySem.W.codeHd_of_K X (c.hd d hd)
  · have := bA s [u] (by rw [hps]; rfl)
    rw [hps] at this
    exact this
  · obtain ⟨fr, h', hr⟩ := hrun ns hns
    refine law_sp (cds := p.cds K) (c := (cl p.pg (n + 1)).fn li) hr (Nat.le_trans hns hm) (fun q hq => ?_) hH hO hS
    obtain ⟨y, hy, e⟩ := List.mem_map.mp hq
    subst e
    exact ⟨(He.cT K y.d.at_).1, List.mem_map.mpr ⟨y.d.at_, List.mem_map.mpr ⟨y, hy, rfl⟩, rfl⟩⟩
  · have pf : Pf p.tb (p.S K) (cl p.pg n) l.prog w K mg base (3 * n) := by
      refine all_pf (cds := p.cds K) rfl rfl (fun k hk => ?_) (fun i y hy => ?_) TB (fun k m hk => ?_) (fun k m hk => ?_) (fun k m hk => ?_) (fun m hm => ?_) (fun c' c0 b hb => ?_) n
      · have hk : k < p.defs.length := hk
        have e := List.getElem?_eq_getElem hk
        have ho := hd _ (List.getElem_mem hk)
        unfold DefX.okA at ho
        split at ho
        · exact .inr (rest_ok c hl e ho)
        · obtain ⟨fd, d, _⟩ := def_ok c hl e ho
          exact .inl ⟨fd, _, d⟩
      · have hy : (p.tells.map (·.d.name))[i]? = some y := hy
        rw [List.getElem?_map] at hy
        cases q : p.tells[i]? with
        | none => rw [q] at hy; cases hy
        | some z =>
          rw [q] at hy
          cases hy
          exact told_okX X G c q (ht z (List.mem_of_getElem? q))
      · have hk : (p.defs.map (·.d.name))[k]? = some m := hk
        rw [List.getElem?_map] at hk
        cases q : p.defs[k]? with
        | none => rw [q] at hk; cases hk
        | some z =>
          rw [q] at hk
          cases hk
          refine ⟨?_, (List.getElem?_eq_some_iff.mp q).1⟩
          rw [efa q]
          exact He.glo_ok X G (fx (faG p (fnD p (List.mem_of_getElem? q))))
      · have hk : (p.gls.map (·.1))[k]? = some m := hk
        rw [List.getElem?_map] at hk
        cases q : p.gls[k]? with
        | none => rw [q] at hk; cases hk
        | some z =>
          rw [q] at hk
          cases hk
          have mz := List.mem_of_getElem? q
          have epg : p.pg.gl k = some z.2 := by
            show (p.gls[k]?).map (·.2) = _
            rw [q]
            rfl
          have ff := fx (faC p mz)
          rcases glB_fa (q := z) rfl (hg z mz) with ⟨i, e2, e3⟩ | ⟨s, e2, e3⟩
          · rw [e3] at ff
            obtain ⟨t, ht⟩ := He.int_ok X G ff
            exact ⟨.int i, _, _, ht, ⟨t, rfl⟩, epg, fun H Z => by rw [e2]; exact .int _⟩
          · rw [e3] at ff
            obtain ⟨t, ht⟩ := He.str_ok X G ff
            exact ⟨.str s, _, _, ht, ⟨t, rfl⟩, epg, fun H Z => by rw [e2]; exact .str _⟩
      · have hk : p.xN[k]? = some m := hk
        have mm := List.mem_of_getElem? hk
        have ec : (p.S K).ca k = He.ga K m := by
          show (match p.xN[k]? with
            | some n => He.ga K n
            | none => 0) = _
          rw [hk]
        obtain ⟨q1, q2, q3, q4⟩ := He.exc_ok (fx (faX p mm).2)
        rw [ec]
        exact ⟨He.glo_ok X G (fx (faX p mm).1), q2, q3, q4, _, _, _, _, PySem.F.excBase_ValueError, q1⟩
      · exact He.free_ok X G (fx (faF p hm))
      · have hb : (p.subL.find? fun z => z.1 == c' && z.2.1 == c0).map (·.2.2) = some b := hb
        cases q : p.subL.find? fun z => z.1 == c' && z.2.1 == c0 with
        | none => rw [q] at hb; cases hb
        | some z =>
          rw [q] at hb
          replace hb := Option.some.inj hb
          have hz := List.find?_some q
          simp only [Bool.and_eq_true, beq_iff_eq] at hz
          obtain ⟨z1, z2, z3⟩ := z
          have e8 : z1 = c' := hz.1
          have e9 : z2 = c0 := hz.2
          have e7 : z3 = b := hb
          clear hb
          subst e8 e9 e7
          have hm := c.more
          unfold PrX.ex at hm
          rw [Bool.and_eq_true] at hm
          have hs := List.all_eq_true.mp hm.1 _ (List.mem_of_find?_eq_some q)
          unfold PrX.subB at hs
          simp only [Bool.and_eq_true] at hs
          obtain ⟨⟨s1, s2⟩, s3⟩ := hs
          refine ⟨excCB_ok s1, fun m hm => ?_, fun i m e hm => ?_⟩
          · have hm : p.xN[z2]? = some m := hm
            rw [hm] at s2
            simp only [Bool.and_eq_true] at s2
            exact ⟨of_decide_eq_true s2.1, of_decide_eq_true s2.2⟩
          · have hm : p.bN[i]? = some m := hm
            subst e
            rw [show 1000 + i - 1000 = i by omega, hm] at s3
            dsimp only at s3
            split at s3
            · rename_i T hT
              refine ⟨T, He.free_ok X G (fx (faB p (List.mem_of_getElem? hm))), hT, ?_⟩
              rw [Bool.or_eq_true] at s3
              rcases s3 with s3 | s3
              · exact absurd (by omega : 1000 ≤ 1000 + i) (of_decide_eq_false (not_true s3))
              · exact of_decide_eq_true s3
            · cases s3
    obtain ⟨_, F, _⟩ := fn_defF pf TB dok
    rw [e1, hps] at F
    exact F
end PrX
end PyD

/-! PyP1: the evaluator's equations as simp lemmas; plain proofs about it. -/
namespace PyD
open PySem (PyData Str)

/-- a thing that simp leaves as it is -/
inductive Kn {α : Sort _} : α → Type
  | mk (a : α) : Kn a
def Rs.bd {α β : Type} (r : Rs α) {f : α → Env → Hand → Rs β} (_ : Kn f) : Rs β := r.bind f
def Rs.td {α : Type} (r : Rs α) {f : α → Env → Hand → Rt} (_ : Kn f) : Rt := r.thenS f
@[simp] theorem bd_ok {α β : Type} (a : α) (ρ h) (f : α → Env → Hand → Rs β) : (Rs.ok a ρ h).bd (.mk f) = f a ρ h := rfl
@[simp] theorem bd_exc {α β : Type} (c : Nat) (ρ h) (f : α → Env → Hand → Rs β) : (Rs.exc c ρ h : Rs α).bd (.mk f) = .exc c ρ h := rfl
@[simp] theorem bd_fail {α β : Type} (f : α → Env → Hand → Rs β) : (Rs.fail : Rs α).bd (.mk f) = .fail := rfl
@[simp] theorem td_ok {α : Type} (a : α) (ρ h) (f : α → Env → Hand → Rt) : (Rs.ok a ρ h).td (.mk f) = f a ρ h := rfl
@[simp] theorem td_exc {α : Type} (c : Nat) (ρ h) (f : α → Env → Hand → Rt) : (Rs.exc c ρ h : Rs α).td (.mk f) = .exc c ρ h := rfl
@[simp] theorem td_fail {α : Type} (f : α → Env → Hand → Rt) : (Rs.fail : Rs α).td (.mk f) = .fail := rfl
@[simp] theorem ev_var {C : Cl} {i} {ρ : Env} {h : Hand} : ev C (E.var i) ρ h = (match ρ[i]? with
    | some (.sh d) => .ok (false, d) ρ h
    | some (.own d) => .ok (false, d) (ρ.set i (.sh d)) h
    | _ => .fail) := rfl
@[simp] theorem ev_fz {C : Cl} {i} {ρ : Env} {h : Hand} : ev C (E.fz i) ρ h = (match ρ[i]? with
    | some (.sh d) => .ok (false, d) ρ h
    | some (.own d) => .ok (false, d) (ρ.set i (.sh d)) h
    | _ => .fail) := rfl
@[simp] theorem ev_int {C : Cl} {n} {ρ : Env} {h : Hand} : ev C (E.int n) ρ h = (.ok (false, .int n) ρ h) := rfl
@[simp] theorem ev_str {C : Cl} {s} {ρ : Env} {h : Hand} : ev C (E.str s) ρ h = (.ok (false, .str s) ρ h) := rfl
@[simp] theorem ev_bl {C : Cl} {b} {ρ : Env} {h : Hand} : ev C (E.bl b) ρ h = (.ok (false, .bool b) ρ h) := rfl
@[simp] theorem ev_non {C : Cl} {ρ : Env} {h : Hand} : ev C (E.non) ρ h = (.ok (false, .none) ρ h) := rfl
@[simp] theorem ev_glb {C : Cl} {k} {ρ : Env} {h : Hand} : ev C (E.glb k) ρ h = (((ofO (C.gl k) ρ h).bd <| .mk fun d ρ h => .ok (false, d) ρ h)) := rfl
@[simp] theorem ev_fnv {C : Cl} {u1} {ρ : Env} {h : Hand} : ev C (E.fnv u1) ρ h = (.fail) := rfl
@[simp] theorem ev_bin {C : Cl} {o} {a} {b} {ρ : Env} {h : Hand} : ev C (E.bin o a b) ρ h = ((preOf a (ev C a) ρ h).bd <| .mk fun p ρ h => (preOf b (ev C b) ρ h).bd <| .mk fun q ρ h =>
      (ofO (getP ρ h p) ρ h).bd <| .mk fun x ρ h => (ofO (getP ρ h q) ρ h).bd <| .mk fun y ρ h => ofO (bop o x y) ρ h) := rfl
@[simp] theorem ev_neg {C : Cl} {a} {ρ : Env} {h : Hand} : ev C (E.neg a) ρ h = (((asIntR (ev C a ρ h)).bd <| .mk fun i ρ h => .ok (false, .int (-i)) ρ h)) := rfl
@[simp] theorem ev_nt {C : Cl} {a} {ρ : Env} {h : Hand} : ev C (E.nt a) ρ h = (((asBool (ev C a ρ h)).bd <| .mk fun b ρ h => .ok (false, .bool (!b)) ρ h)) := rfl
@[simp] theorem ev_cmp {C : Cl} {o} {a} {b} {ρ : Env} {h : Hand} : ev C (E.cmp o a b) ρ h = ((preOf a (ev C a) ρ h).bd <| .mk fun p ρ h => (preOf b (ev C b) ρ h).bd <| .mk fun q ρ h =>
      (ofO (getP ρ h p) ρ h).bd <| .mk fun x ρ h => (ofO (getP ρ h q) ρ h).bd <| .mk fun y ρ h => (ofO (cop o x y) ρ h).bd <| .mk fun b ρ h => .ok (false, .bool b) ρ h) := rfl
@[simp] theorem ev_chn {C : Cl} {o1} {o2} {a} {b} {c} {ρ : Env} {h : Hand} : ev C (E.chn o1 o2 a b c) ρ h = ((asIntR (ev C a ρ h)).bd <| .mk fun i ρ h => (asIntR (ev C b ρ h)).bd <| .mk fun j ρ h => (ofO (cop o1 (.int i) (.int j)) ρ h).bd <| .mk fun k ρ h =>
      if k then (asIntR (ev C c ρ h)).bd <| .mk fun l ρ h => (ofO (cop o2 (.int j) (.int l)) ρ h).bd <| .mk fun b ρ h => .ok (false, .bool b) ρ h else .ok (false, .bool false) ρ h) := rfl
@[simp] theorem ev_isn {C : Cl} {a} {ρ : Env} {h : Hand} : ev C (E.isn a) ρ h = (((preOf a (ev C a) ρ h).bd <| .mk fun p ρ h => (ofO (getP ρ h p) ρ h).bd <| .mk fun x ρ h => .ok (false, .bool (isNoneD x)) ρ h)) := rfl
@[simp] theorem ev_isnn {C : Cl} {a} {ρ : Env} {h : Hand} : ev C (E.isnn a) ρ h = (((preOf a (ev C a) ρ h).bd <| .mk fun p ρ h => (ofO (getP ρ h p) ρ h).bd <| .mk fun x ρ h => .ok (false, .bool (!isNoneD x)) ρ h)) := rfl
@[simp] theorem ev_isb {C : Cl} {a} {b} {ρ : Env} {h : Hand} : ev C (E.isb a b) ρ h = (((asBool (ev C a ρ h)).bd <| .mk fun c ρ h => .ok (false, .bool (c == b)) ρ h)) := rfl
@[simp] theorem ev_isnb {C : Cl} {a} {b} {ρ : Env} {h : Hand} : ev C (E.isnb a b) ρ h = (((asBool (ev C a ρ h)).bd <| .mk fun c ρ h => .ok (false, .bool (!(c == b))) ρ h)) := rfl
@[simp] theorem ev_ife {C : Cl} {c} {a} {b} {ρ : Env} {h : Hand} : ev C (E.ife c a b) ρ h = (((asBool (ev C c ρ h)).bd <| .mk fun t ρ h => if t then ev C a ρ h else ev C b ρ h)) := rfl
@[simp] theorem ev_tup {C : Cl} {es} {ρ : Env} {h : Hand} : ev C (E.tup es) ρ h = (((evs C es ρ h).bd <| .mk fun ds ρ h => .ok (false, .tuple ds) ρ h)) := rfl
@[simp] theorem ev_lst {C : Cl} {es} {ρ : Env} {h : Hand} : ev C (E.lst es) ρ h = (((evs C es ρ h).bd <| .mk fun ds ρ h => .ok (true, .list ds) ρ h)) := rfl
@[simp] theorem ev_idx {C : Cl} {a} {i} {ρ : Env} {h : Hand} : ev C (E.idx a i) ρ h = ((preOf a (ev C a) ρ h).bd <| .mk fun p ρ h => (ev C i ρ h).bd <| .mk fun q ρ h =>
      (ofO (getP ρ h p) ρ h).bd <| .mk fun x ρ h => (ofO (idx x q.2) ρ h).bd <| .mk fun d ρ h => .ok (false, d) ρ h) := rfl
@[simp] theorem ev_slc {C : Cl} {a} {lo} {hi} {ρ : Env} {h : Hand} : ev C (E.slc a lo hi) ρ h = ((preOf a (ev C a) ρ h).bd <| .mk fun p ρ h => (evo C lo ρ h).bd <| .mk fun l ρ h => (evo C hi ρ h).bd <| .mk fun u ρ h =>
      (ofO (getC ρ h p) ρ h).bd <| .mk fun x ρ h => ofO (slc x l u) ρ h) := rfl
@[simp] theorem ev_call {C : Cl} {k} {es} {ρ : Env} {h : Hand} : ev C (E.call k es) ρ h = (((evA C es ρ h).bd <| .mk fun ps ρ h => (ofO (getAs ρ ps) ρ h).bd <| .mk fun as ρ h => crE ρ (C.fn k as h))) := rfl
@[simp] theorem ev_callv {C : Cl} {i} {es} {ρ : Env} {h : Hand} : ev C (E.callv i es) ρ h = (match ρ[i]? with
    | some (.fn k) => (evA C es ρ h).bd <| .mk fun ps ρ h => (ofO (getAs ρ ps) ρ h).bd <| .mk fun as ρ h => crE ρ (C.fn k as h)
    | _ => .fail) := rfl
@[simp] theorem ev_bfn {C : Cl} {b} {es} {ρ : Env} {h : Hand} : ev C (E.bfn b es) ρ h = (((evP C es ρ h).bd <| .mk fun ps ρ h => (ofO (getPs ρ h ps) ρ h).bd <| .mk fun ds ρ h => ofO (bfn b ds) ρ h)) := rfl
@[simp] theorem ev_isi {C : Cl} {a} {t} {ρ : Env} {h : Hand} : ev C (E.isi a t) ρ h = (((preOf a (ev C a) ρ h).bd <| .mk fun p ρ h => (ofO (getP ρ h p) ρ h).bd <| .mk fun x ρ h => .ok (false, .bool (isTy t x)) ρ h)) := rfl
@[simp] theorem ev_isx {C : Cl} {i} {c} {ρ : Env} {h : Hand} : ev C (E.isx i c) ρ h = (match ρ[i]? with
    | some (.exc c') => (match C.sub c' c with
      | some b => .ok (false, .bool b) ρ h
      | none => .fail)
    | _ => .fail) := rfl
@[simp] theorem ev_mth1 {C : Cl} {m} {o} {e} {ρ : Env} {h : Hand} : ev C (E.mth1 m o e) ρ h = ((preOf o (ev C o) ρ h).bd <| .mk fun p ρ h => (ofO ((getP ρ h p).bind isLst) ρ h).bd <| .mk fun _ ρ h => (ev C e ρ h).bd <| .mk fun q ρ h =>
      (ofO (getP ρ h p) ρ h).bd <| .mk fun x ρ h => (ofO (mop m x q.2) ρ h).bd <| .mk fun d ρ h => .ok (false, d) ρ h) := rfl
@[simp] theorem ev_dic0 {C : Cl} {ρ : Env} {h : Hand} : ev C (E.dic0) ρ h = (.ok (true, .dict []) ρ h) := rfl
@[simp] theorem ev_lrg {C : Cl} {src} {ρ : Env} {h : Hand} : ev C (E.lrg src) ρ h = (((evSrc C true src ρ h).bd <| .mk fun its ρ h => .ok (true, .list its) ρ h)) := rfl
@[simp] theorem ev_pop0 {C : Cl} {i} {ρ : Env} {h : Hand} : ev C (E.pop0 i) ρ h = (match ρ[i]? with
    | some (.own (.list xs)) => (match xs[xs.length - 1]? with
      | some y => .ok (false, y) (ρ.set i (.own (.list xs.dropLast))) h
      | none => .fail)
    | _ => .fail) := rfl
@[simp] theorem ev_pop1 {C : Cl} {i} {e} {ρ : Env} {h : Hand} : ev C (E.pop1 i e) ρ h = (match ρ[i]? with
    | some (.own (.list _)) => (asIntR (ev C e ρ h)).bd <| .mk fun j ρ h => (match ρ[i]? with
      | some (.own (.list xs)) => if rngOk j then (match PySem.seqIndex? j xs.length with
        | some k => (match xs[k]? with
          | some y => .ok (false, y) (ρ.set i (.own (.list (xs.eraseIdx k)))) h
          | none => .fail)
        | none => .fail) else .fail
      | _ => .fail)
    | _ => .fail) := rfl
@[simp] theorem ev_comp {C : Cl} {vs} {t} {src} {cond} {elt} {ρ : Env} {h : Hand} : ev C (E.comp vs t src cond elt) ρ h = ((evSrc C true src ρ h).bd <| .mk fun its ρ h =>
      (ofO (compL (wipeE (lend ρ) vs) t (evc C cond) (ev C elt) its h) ρ h).bd <| .mk fun q ρ _ => .ok (true, .list q.1) ρ q.2) := rfl
@[simp] theorem ev_lamc {C : Cl} {k} {body} {ρ : Env} {h : Hand} : ev C (E.lamc k body) ρ h = (crE ρ (noX (C.ft k (fun h' => crOf (ev C body (lend ρ) h')) h))) := rfl
@[simp] theorem ev_rev {C : Cl} {a} {ρ : Env} {h : Hand} : ev C (E.rev a) ρ h = (((preOf a (ev C a) ρ h).bd <| .mk fun p ρ h => (ofO (getP ρ h p) ρ h).bd <| .mk fun x ρ h => ofO (revD x) ρ h)) := rfl
@[simp] theorem ev_revt {C : Cl} {a} {ρ : Env} {h : Hand} : ev C (E.revt a) ρ h = (((preOf a (ev C a) ρ h).bd <| .mk fun p ρ h => (ofO (getP ρ h p) ρ h).bd <| .mk fun x ρ h => ofO (revtD x) ρ h)) := rfl
@[simp] theorem ev_skip {C : Cl} {ρ : Env} {h : Hand} : ev C (E.skip) ρ h = (.fail) := rfl
@[simp] theorem ev_dgt {C : Cl} {o} {k} {ρ : Env} {h : Hand} : ev C (E.dgt o k) ρ h = (((preOf o (ev C o) ρ h).bd <| .mk fun p ρ h => (ev C k ρ h).bd <| .mk fun q ρ h => (ofO (getP ρ h p) ρ h).bd <| .mk fun x ρ h => (ofO (dgetD x q.2) ρ h).bd <| .mk fun d ρ h => .ok (false, d) ρ h)) := rfl
@[simp] theorem ev_dcomp {C : Cl} {vs} {t} {src} {cond} {key} {val} {ρ : Env} {h : Hand} : ev C (E.dcomp vs t src cond key val) ρ h = ((evSrc C true src ρ h).bd <| .mk fun its ρ h =>
      (ofO (compD (wipeE (lend ρ) vs) t (evc C cond) (ev C key) (ev C val) its [] h) ρ h).bd <| .mk fun q ρ _ => .ok (true, .dict q.1) ρ q.2) := rfl
@[simp] theorem ev_trg {C : Cl} {src} {ρ : Env} {h : Hand} : ev C (E.trg src) ρ h = (((evSrc C true src ρ h).bd <| .mk fun its ρ h => .ok (false, .tuple its) ρ h)) := rfl
@[simp] theorem ev_dic1 {C : Cl} {k} {v} {ρ : Env} {h : Hand} : ev C (E.dic1 k v) ρ h = (((ev C k ρ h).bd <| .mk fun p ρ h => (ev C v ρ h).bd <| .mk fun q ρ h => (ofO (keyOf p.2) ρ h).bd <| .mk fun kk ρ h => .ok (true, .dict [(keyD kk, q.2)]) ρ h)) := rfl
@[simp] theorem ev_and {C : Cl} {es : Es} {ρ : Env} {h : Hand} : ev C (E.and es) ρ h = evAnd C es ρ h := rfl
@[simp] theorem ev_or {C : Cl} {es : Es} {ρ : Env} {h : Hand} : ev C (E.or es) ρ h = evOr C es ρ h := rfl
@[simp] theorem evAnd_one {C : Cl} {a : E} {ρ : Env} {h : Hand} : evAnd C (.cons a .nil) ρ h = ev C a ρ h := rfl
@[simp] theorem evAnd_two {C : Cl} {a b : E} {r : Es} {ρ : Env} {h : Hand} : evAnd C (.cons a (.cons b r)) ρ h = ((asBool (ev C a ρ h)).bd <| .mk fun c ρ h => if c then evAnd C (.cons b r) ρ h else .ok (false, .bool false) ρ h) := rfl
@[simp] theorem evOr_one {C : Cl} {a : E} {ρ : Env} {h : Hand} : evOr C (.cons a .nil) ρ h = ev C a ρ h := rfl
@[simp] theorem evOr_two {C : Cl} {a b : E} {r : Es} {ρ : Env} {h : Hand} : evOr C (.cons a (.cons b r)) ρ h = ((asBool (ev C a ρ h)).bd <| .mk fun c ρ h => if c then .ok (false, .bool true) ρ h else evOr C (.cons b r) ρ h) := rfl
@[simp] theorem evs_nil {C : Cl} {ρ : Env} {h : Hand} : evs C .nil ρ h = .ok [] ρ h := rfl
@[simp] theorem evs_cons {C : Cl} {e : E} {r : Es} {ρ : Env} {h : Hand} : evs C (.cons e r) ρ h = ((ev C e ρ h).bd <| .mk fun p ρ h => (evs C r ρ h).bd <| .mk fun ds ρ h => .ok (p.2 :: ds) ρ h) := rfl
@[simp] theorem evP_nil {C : Cl} {ρ : Env} {h : Hand} : evP C .nil ρ h = .ok [] ρ h := rfl
@[simp] theorem evP_cons {C : Cl} {e : E} {r : Es} {ρ : Env} {h : Hand} : evP C (.cons e r) ρ h = ((preOf e (ev C e) ρ h).bd <| .mk fun p ρ h => (evP C r ρ h).bd <| .mk fun ds ρ h => .ok (p :: ds) ρ h) := rfl
@[simp] theorem evA_nil {C : Cl} {ρ : Env} {h : Hand} : evA C .nil ρ h = .ok [] ρ h := rfl
@[simp] theorem evA_cons {C : Cl} {e : E} {r : Es} {ρ : Env} {h : Hand} : evA C (.cons e r) ρ h = ((argOf e (ev C e) ρ h).bd <| .mk fun p ρ h => (evA C r ρ h).bd <| .mk fun ds ρ h => .ok (p :: ds) ρ h) := rfl
@[simp] theorem evl_nil {C : Cl} {ρ : Env} {h : Hand} : evl C .nil ρ h = .ok [] ρ h := rfl
@[simp] theorem evl_cons {C : Cl} {e : E} {r : Es} {ρ : Env} {h : Hand} : evl C (.cons e r) ρ h = ((ev C e ρ h).bd <| .mk fun p ρ h => (evl C r ρ h).bd <| .mk fun ds ρ h => .ok (p :: ds) ρ h) := rfl
@[simp] theorem evo_no {C : Cl} {ρ : Env} {h : Hand} : evo C .no ρ h = .ok none ρ h := rfl
@[simp] theorem evo_so {C : Cl} {e : E} {ρ : Env} {h : Hand} : evo C (.so e) ρ h = ((asIntR (ev C e ρ h)).bd <| .mk fun i ρ h => .ok (some i) ρ h) := rfl
@[simp] theorem evc_no {C : Cl} {ρ : Env} {h : Hand} : evc C .no ρ h = .ok true ρ h := rfl
@[simp] theorem evc_so {C : Cl} {e : E} {ρ : Env} {h : Hand} : evc C (.so e) ρ h = asBool (ev C e ρ h) := rfl
@[simp] theorem src_val {C : Cl} {o : Bool} {e : E} {ρ : Env} {h : Hand} : evSrc C o (.val e) ρ h = (((preOf e (ev C e) ρ h).bd <| .mk fun p ρ h => (ofO (getI o ρ p) ρ h).bd <| .mk fun x ρ h => ofO (items x) ρ h)) := rfl
@[simp] theorem src_rng1 {C : Cl} {o : Bool} {a : E} {ρ : Env} {h : Hand} : evSrc C o (.rng1 a) ρ h = (((asIntR (ev C a ρ h)).bd <| .mk fun i ρ h => if rngOk i && decide (i ≤ 16777216) then .ok (rangeD 0 1 i.toNat) ρ h else .fail)) := rfl
@[simp] theorem src_rng2 {C : Cl} {o : Bool} {a b : E} {ρ : Env} {h : Hand} : evSrc C o (.rng2 a b) ρ h = (((asIntR (ev C a ρ h)).bd <| .mk fun i ρ h => (asIntR (ev C b ρ h)).bd <| .mk fun j ρ h => if rngOk i && rngOk j && decide (j - i ≤ 16777216) then .ok (rangeD i 1 (j - i).toNat) ρ h else .fail)) := rfl
@[simp] theorem src_rng3 {C : Cl} {o : Bool} {a b c : E} {ρ : Env} {h : Hand} : evSrc C o (.rng3 a b c) ρ h = (((asIntR (ev C a ρ h)).bd <| .mk fun i ρ h => (asIntR (ev C b ρ h)).bd <| .mk fun j ρ h => (asIntR (ev C c ρ h)).bd <| .mk fun k ρ h => (ofO (rng3N i j k) ρ h).bd <| .mk fun n ρ h => .ok (rangeD i k n) ρ h)) := rfl
@[simp] theorem src_zip {C : Cl} {o : Bool} {a b : E} {ρ : Env} {h : Hand} : evSrc C o (.zip a b) ρ h = ((preOf a (ev C a) ρ h).bd <| .mk fun p ρ h => (preOf b (ev C b) ρ h).bd <| .mk fun q ρ h =>
      (ofO (getI o ρ p) ρ h).bd <| .mk fun x ρ h => (ofO (getI o ρ q) ρ h).bd <| .mk fun y ρ h => (ofO (items x) ρ h).bd <| .mk fun xs ρ h => (ofO (items y) ρ h).bd <| .mk fun ys ρ h => .ok (zipD xs ys) ρ h) := rfl
@[simp] theorem src_enm {C : Cl} {o : Bool} {a : E} {ρ : Env} {h : Hand} : evSrc C o (.enm a) ρ h = (((preOf a (ev C a) ρ h).bd <| .mk fun p ρ h => (ofO (getI o ρ p) ρ h).bd <| .mk fun x ρ h => (ofO (items x) ρ h).bd <| .mk fun xs ρ h => .ok (enumD 0 xs) ρ h)) := rfl
@[simp] theorem src_enz {C : Cl} {o : Bool} {a b : E} {ρ : Env} {h : Hand} : evSrc C o (.enz a b) ρ h = ((preOf a (ev C a) ρ h).bd <| .mk fun p ρ h => (preOf b (ev C b) ρ h).bd <| .mk fun q ρ h =>
      (ofO (getI o ρ p) ρ h).bd <| .mk fun x ρ h => (ofO (getI o ρ q) ρ h).bd <| .mk fun y ρ h => (ofO (items x) ρ h).bd <| .mk fun xs ρ h => (ofO (items y) ρ h).bd <| .mk fun ys ρ h => .ok (enumD 0 (zipD xs ys)) ρ h) := rfl
@[simp] theorem exs_nil {C : Cl} {th : Option (Hand → Cr)} {ρ : Env} {h : Hand} : exs C th .nil ρ h = .nx ρ h := rfl
@[simp] theorem exs_cons {C : Cl} {th : Option (Hand → Cr)} {s : S} {r : Ss} {ρ : Env} {h : Hand} : exs C th (.cons s r) ρ h = (ex C th s ρ h).seq (exs C th r) := rfl
/-! a part is reckoned before what goes on with it -/




@[simp] theorem ex_asg {C : Cl} {th : Option (Hand → Cr)} {t} {e} {ρ : Env} {h : Hand} : ex C th (S.asg t e) ρ h = ((ev C e ρ h).td <| .mk fun p ρ h => match asgT t p ρ with
    | some ρ' => .nx ρ' h
    | none => .fail) := rfl
@[simp] theorem ex_par {C : Cl} {th : Option (Hand → Cr)} {is} {es} {ρ : Env} {h : Hand} : ex C th (S.par is es) ρ h = ((evl C es ρ h).td <| .mk fun ps ρ h => match putAll is ps ρ with
    | some ρ' => .nx ρ' h
    | none => .fail) := rfl
@[simp] theorem ex_hand {C : Cl} {th : Option (Hand → Cr)} {i} {e} {ρ : Env} {h : Hand} : ex C th (S.hand i e) ρ h = ((ev C e ρ h).td <| .mk fun p ρ h => match p, h with
    | (true, .list xs), none => .nx (ρ.set i .hnd) (some xs)
    | _, _ => .fail) := rfl
@[simp] theorem ex_pars {C : Cl} {th : Option (Hand → Cr)} {i} {k} {j} {l} {es} {ρ : Env} {h : Hand} : ex C th (S.pars i k j l es) ρ h = ((evl C es ρ h).td <| .mk fun ps ρ h => match ps with
    | [(false, d1), (false, d2)] => (ofO (getM ρ h i) ρ h).td <| .mk fun _ ρ h => (ev C k ρ h).td <| .mk fun q ρ h => (ofO (setSl i q.2 d1 ρ h) ρ h).td <| .mk fun w _ _ => (ofO (getM w.1 w.2 j) w.1 w.2).td <| .mk fun _ ρ h => (ev C l ρ h).td <| .mk fun q ρ h => match setSl j q.2 d2 ρ h with
      | some (ρ', h') => .nx ρ' h'
      | none => .fail
    | _ => .fail) := rfl
@[simp] theorem ex_asgs {C : Cl} {th : Option (Hand → Cr)} {i} {k} {v} {ρ : Env} {h : Hand} : ex C th (S.asgs i k v) ρ h = ((ev C v ρ h).td <| .mk fun p ρ h => (ofO (getM ρ h i) ρ h).td <| .mk fun _ ρ h => (ev C k ρ h).td <| .mk fun q ρ h => match setSl i q.2 p.2 ρ h with
    | some (ρ', h') => .nx ρ' h'
    | none => .fail) := rfl
@[simp] theorem ex_aug {C : Cl} {th : Option (Hand → Cr)} {i} {o} {e} {ρ : Env} {h : Hand} : ex C th (S.aug i o e) ρ h = (match ρ[i]? with
    | some (.sh _) => (ev C e ρ h).td <| .mk fun p ρ h => (match ρ[i]? with
      | some (.sh x) => (match augD o x p.2 with
        | some y => .nx (ρ.set i (.sh y)) h
        | none => .fail)
      | _ => .fail)
    | _ => .fail) := rfl
@[simp] theorem ex_augs {C : Cl} {th : Option (Hand → Cr)} {i} {k} {o} {e} {ρ : Env} {h : Hand} : ex C th (S.augs i k o e) ρ h = ((ofO (getM ρ h i) ρ h).td <| .mk fun _ ρ h => (ev C k ρ h).td <| .mk fun q ρ h => (ofO ((getM ρ h i).bind fun xs => idx (.list xs) q.2) ρ h).td <| .mk fun y ρ h => (ev C e ρ h).td <| .mk fun p ρ h => match augD o y p.2 with
    | some z => (match setSl i q.2 z ρ h with
      | some (ρ', h') => .nx ρ' h'
      | none => .fail)
    | none => .fail) := rfl
@[simp] theorem ex_app {C : Cl} {th : Option (Hand → Cr)} {i} {e} {ρ : Env} {h : Hand} : ex C th (S.app i e) ρ h = (match ρ[i]? with
    | some (.own (.list _)) => (ev C e ρ h).td <| .mk fun p ρ h => (match ρ[i]? with
      | some (.own (.list xs)) => if xs.length < big then .nx (ρ.set i (.own (.list (xs ++ [p.2])))) h else .fail
      | _ => .fail)
    | _ => .fail) := rfl
@[simp] theorem ex_ex {C : Cl} {th : Option (Hand → Cr)} {e} {ρ : Env} {h : Hand} : ex C th (S.ex e) ρ h = (((ev C e ρ h).td <| .mk fun _ ρ h => .nx ρ h)) := rfl
@[simp] theorem ex_ife {C : Cl} {th : Option (Hand → Cr)} {c} {a} {b} {ρ : Env} {h : Hand} : ex C th (S.ife c a b) ρ h = (((asBool (ev C c ρ h)).td <| .mk fun t ρ h => if t then exs C th a ρ h else exs C th b ρ h)) := rfl
@[simp] theorem ex_for_ {C : Cl} {th : Option (Hand → Cr)} {t} {src} {b} {ρ : Env} {h : Hand} : ex C th (S.for_ t src b) ρ h = (((srcF C src ρ h).td <| .mk fun its ρ h => forL t (exs C th b) its ρ h)) := rfl
@[simp] theorem ex_retn {C : Cl} {th : Option (Hand → Cr)} {ρ : Env} {h : Hand} : ex C th (S.retn) ρ h = (.ret false .none h) := rfl
@[simp] theorem ex_rse {C : Cl} {th : Option (Hand → Cr)} {c} {ρ : Env} {h : Hand} : ex C th (S.rse c) ρ h = (.exc c ρ h) := rfl
@[simp] theorem ex_tryth {C : Cl} {th : Option (Hand → Cr)} {r} {c} {i} {sb} {ρ : Env} {h : Hand} : ex C th (S.tryth r c i sb) ρ h = (match th with
    | none => .fail
    | some t => (match t h with
      | .ok _ d h' => (match r with
        | .ex => .nx ρ h'
        | .rt => .ret false d h'
        | .as j => .nx (ρ.set j (.sh d)) h')
      | .exc c' h' => (match C.sub c' c with
        | some true => (exs C none sb (ρ.set i (.exc c')) h').seq (fun ρ h => .nx (ρ.set i .non) h)
        | some false => .exc c' ρ h'
        | none => .fail)
      | .fail => .fail)) := rfl
@[simp] theorem ex_tryx {C : Cl} {th : Option (Hand → Cr)} {u1} {u2} {u3} {u4} {ρ : Env} {h : Hand} : ex C th (S.tryx u1 u2 u3 u4) ρ h = (.fail) := rfl
@[simp] theorem ex_brk {C : Cl} {th : Option (Hand → Cr)} {ρ : Env} {h : Hand} : ex C th (S.brk) ρ h = (.brk ρ h) := rfl
@[simp] theorem ex_cnt {C : Cl} {th : Option (Hand → Cr)} {ρ : Env} {h : Hand} : ex C th (S.cnt) ρ h = (.ct ρ h) := rfl
@[simp] theorem ex_pass {C : Cl} {th : Option (Hand → Cr)} {ρ : Env} {h : Hand} : ex C th (S.pass) ρ h = (.nx ρ h) := rfl
@[simp] theorem ex_ext {C : Cl} {th : Option (Hand → Cr)} {i} {e} {ρ : Env} {h : Hand} : ex C th (S.ext i e) ρ h = (match ρ[i]? with
    | some (.own (.list _)) => (ev C e ρ h).td <| .mk fun p ρ h => (match ρ[i]? with
      | some (.own (.list xs)) => (match p.2 with
        | .list ys => if xs.length + ys.length ≤ big then .nx (ρ.set i (.own (.list (xs ++ ys)))) h else .fail
        | _ => .fail)
      | _ => .fail)
    | _ => .fail) := rfl
@[simp] theorem ex_skip {C : Cl} {th : Option (Hand → Cr)} {ρ : Env} {h : Hand} : ex C th (S.skip) ρ h = (.fail) := rfl
@[simp] theorem ex_asgd {C : Cl} {th : Option (Hand → Cr)} {i} {k} {v} {ρ : Env} {h : Hand} : ex C th (S.asgd i k v) ρ h = ((ev C v ρ h).td <| .mk fun p ρ h => match ρ[i]? with
    | some (.own (.dict _)) => (ev C k ρ h).td <| .mk fun q ρ h => (match keyOf q.2, ρ[i]? with
      | some kk, some (.own (.dict kvs)) => if kvs.length < big then .nx (ρ.set i (.own (.dict (dput kvs kk p.2)))) h else .fail
      | _, _ => .fail)
    | _ => .fail) := rfl
@[simp] theorem ret_int {C : Cl} {th : Option (Hand → Cr)} {ρ : Env} {h : Hand} : ∀ n, ex C th (S.ret (E.int n)) ρ h = ((ev C (E.int n) ρ h).td <| .mk fun p _ h => .ret p.1 p.2 h) := by intros; rfl
@[simp] theorem pre_int {r : M (Bool × PyData)} {ρ : Env} {h : Hand} : ∀ n, preOf (E.int n) r ρ h = ((r ρ h).bd <| .mk fun p ρ h => .ok (.val p.2) ρ h) := by intros; rfl
@[simp] theorem arg_int {r : M (Bool × PyData)} {ρ : Env} {h : Hand} : ∀ n, argOf (E.int n) r ρ h = ((r ρ h).bd <| .mk fun p ρ h => .ok (.val p.2) ρ h) := by intros; rfl
@[simp] theorem ret_str {C : Cl} {th : Option (Hand → Cr)} {ρ : Env} {h : Hand} : ∀ n, ex C th (S.ret (E.str n)) ρ h = ((ev C (E.str n) ρ h).td <| .mk fun p _ h => .ret p.1 p.2 h) := by intros; rfl
@[simp] theorem pre_str {r : M (Bool × PyData)} {ρ : Env} {h : Hand} : ∀ n, preOf (E.str n) r ρ h = ((r ρ h).bd <| .mk fun p ρ h => .ok (.val p.2) ρ h) := by intros; rfl
@[simp] theorem arg_str {r : M (Bool × PyData)} {ρ : Env} {h : Hand} : ∀ n, argOf (E.str n) r ρ h = ((r ρ h).bd <| .mk fun p ρ h => .ok (.val p.2) ρ h) := by intros; rfl
@[simp] theorem ret_bl {C : Cl} {th : Option (Hand → Cr)} {ρ : Env} {h : Hand} : ∀ n, ex C th (S.ret (E.bl n)) ρ h = ((ev C (E.bl n) ρ h).td <| .mk fun p _ h => .ret p.1 p.2 h) := by intros; rfl
@[simp] theorem pre_bl {r : M (Bool × PyData)} {ρ : Env} {h : Hand} : ∀ n, preOf (E.bl n) r ρ h = ((r ρ h).bd <| .mk fun p ρ h => .ok (.val p.2) ρ h) := by intros; rfl
@[simp] theorem arg_bl {r : M (Bool × PyData)} {ρ : Env} {h : Hand} : ∀ n, argOf (E.bl n) r ρ h = ((r ρ h).bd <| .mk fun p ρ h => .ok (.val p.2) ρ h) := by intros; rfl
@[simp] theorem ret_non {C : Cl} {th : Option (Hand → Cr)} {ρ : Env} {h : Hand} : ex C th (S.ret (E.non)) ρ h = ((ev C (E.non) ρ h).td <| .mk fun p _ h => .ret p.1 p.2 h) := by intros; rfl
@[simp] theorem pre_non {r : M (Bool × PyData)} {ρ : Env} {h : Hand} : preOf (E.non) r ρ h = ((r ρ h).bd <| .mk fun p ρ h => .ok (.val p.2) ρ h) := by intros; rfl
@[simp] theorem arg_non {r : M (Bool × PyData)} {ρ : Env} {h : Hand} : argOf (E.non) r ρ h = ((r ρ h).bd <| .mk fun p ρ h => .ok (.val p.2) ρ h) := by intros; rfl
@[simp] theorem ret_glb {C : Cl} {th : Option (Hand → Cr)} {ρ : Env} {h : Hand} : ∀ n, ex C th (S.ret (E.glb n)) ρ h = ((ev C (E.glb n) ρ h).td <| .mk fun p _ h => .ret p.1 p.2 h) := by intros; rfl
@[simp] theorem pre_glb {r : M (Bool × PyData)} {ρ : Env} {h : Hand} : ∀ n, preOf (E.glb n) r ρ h = ((r ρ h).bd <| .mk fun p ρ h => .ok (.val p.2) ρ h) := by intros; rfl
@[simp] theorem arg_glb {r : M (Bool × PyData)} {ρ : Env} {h : Hand} : ∀ n, argOf (E.glb n) r ρ h = ((r ρ h).bd <| .mk fun p ρ h => .ok (.val p.2) ρ h) := by intros; rfl
@[simp] theorem ret_bin {C : Cl} {th : Option (Hand → Cr)} {ρ : Env} {h : Hand} : ∀ n a b, ex C th (S.ret (E.bin n a b)) ρ h = ((ev C (E.bin n a b) ρ h).td <| .mk fun p _ h => .ret p.1 p.2 h) := by intros; rfl
@[simp] theorem pre_bin {r : M (Bool × PyData)} {ρ : Env} {h : Hand} : ∀ n a b, preOf (E.bin n a b) r ρ h = ((r ρ h).bd <| .mk fun p ρ h => .ok (.val p.2) ρ h) := by intros; rfl
@[simp] theorem arg_bin {r : M (Bool × PyData)} {ρ : Env} {h : Hand} : ∀ n a b, argOf (E.bin n a b) r ρ h = ((r ρ h).bd <| .mk fun p ρ h => .ok (.val p.2) ρ h) := by intros; rfl
@[simp] theorem ret_neg {C : Cl} {th : Option (Hand → Cr)} {ρ : Env} {h : Hand} : ∀ a, ex C th (S.ret (E.neg a)) ρ h = ((ev C (E.neg a) ρ h).td <| .mk fun p _ h => .ret p.1 p.2 h) := by intros; rfl
@[simp] theorem pre_neg {r : M (Bool × PyData)} {ρ : Env} {h : Hand} : ∀ a, preOf (E.neg a) r ρ h = ((r ρ h).bd <| .mk fun p ρ h => .ok (.val p.2) ρ h) := by intros; rfl
@[simp] theorem arg_neg {r : M (Bool × PyData)} {ρ : Env} {h : Hand} : ∀ a, argOf (E.neg a) r ρ h = ((r ρ h).bd <| .mk fun p ρ h => .ok (.val p.2) ρ h) := by intros; rfl
@[simp] theorem ret_nt {C : Cl} {th : Option (Hand → Cr)} {ρ : Env} {h : Hand} : ∀ a, ex C th (S.ret (E.nt a)) ρ h = ((ev C (E.nt a) ρ h).td <| .mk fun p _ h => .ret p.1 p.2 h) := by intros; rfl
@[simp] theorem pre_nt {r : M (Bool × PyData)} {ρ : Env} {h : Hand} : ∀ a, preOf (E.nt a) r ρ h = ((r ρ h).bd <| .mk fun p ρ h => .ok (.val p.2) ρ h) := by intros; rfl
@[simp] theorem arg_nt {r : M (Bool × PyData)} {ρ : Env} {h : Hand} : ∀ a, argOf (E.nt a) r ρ h = ((r ρ h).bd <| .mk fun p ρ h => .ok (.val p.2) ρ h) := by intros; rfl
@[simp] theorem ret_and {C : Cl} {th : Option (Hand → Cr)} {ρ : Env} {h : Hand} : ∀ a, ex C th (S.ret (E.and a)) ρ h = ((ev C (E.and a) ρ h).td <| .mk fun p _ h => .ret p.1 p.2 h) := by intros; rfl
@[simp] theorem pre_and {r : M (Bool × PyData)} {ρ : Env} {h : Hand} : ∀ a, preOf (E.and a) r ρ h = ((r ρ h).bd <| .mk fun p ρ h => .ok (.val p.2) ρ h) := by intros; rfl
@[simp] theorem arg_and {r : M (Bool × PyData)} {ρ : Env} {h : Hand} : ∀ a, argOf (E.and a) r ρ h = ((r ρ h).bd <| .mk fun p ρ h => .ok (.val p.2) ρ h) := by intros; rfl
@[simp] theorem ret_or {C : Cl} {th : Option (Hand → Cr)} {ρ : Env} {h : Hand} : ∀ a, ex C th (S.ret (E.or a)) ρ h = ((ev C (E.or a) ρ h).td <| .mk fun p _ h => .ret p.1 p.2 h) := by intros; rfl
@[simp] theorem pre_or {r : M (Bool × PyData)} {ρ : Env} {h : Hand} : ∀ a, preOf (E.or a) r ρ h = ((r ρ h).bd <| .mk fun p ρ h => .ok (.val p.2) ρ h) := by intros; rfl
@[simp] theorem arg_or {r : M (Bool × PyData)} {ρ : Env} {h : Hand} : ∀ a, argOf (E.or a) r ρ h = ((r ρ h).bd <| .mk fun p ρ h => .ok (.val p.2) ρ h) := by intros; rfl
@[simp] theorem ret_cmp {C : Cl} {th : Option (Hand → Cr)} {ρ : Env} {h : Hand} : ∀ n a b, ex C th (S.ret (E.cmp n a b)) ρ h = ((ev C (E.cmp n a b) ρ h).td <| .mk fun p _ h => .ret p.1 p.2 h) := by intros; rfl
@[simp] theorem pre_cmp {r : M (Bool × PyData)} {ρ : Env} {h : Hand} : ∀ n a b, preOf (E.cmp n a b) r ρ h = ((r ρ h).bd <| .mk fun p ρ h => .ok (.val p.2) ρ h) := by intros; rfl
@[simp] theorem arg_cmp {r : M (Bool × PyData)} {ρ : Env} {h : Hand} : ∀ n a b, argOf (E.cmp n a b) r ρ h = ((r ρ h).bd <| .mk fun p ρ h => .ok (.val p.2) ρ h) := by intros; rfl
@[simp] theorem ret_chn {C : Cl} {th : Option (Hand → Cr)} {ρ : Env} {h : Hand} : ∀ n m a b c, ex C th (S.ret (E.chn n m a b c)) ρ h = ((ev C (E.chn n m a b c) ρ h).td <| .mk fun p _ h => .ret p.1 p.2 h) := by intros; rfl
@[simp] theorem pre_chn {r : M (Bool × PyData)} {ρ : Env} {h : Hand} : ∀ n m a b c, preOf (E.chn n m a b c) r ρ h = ((r ρ h).bd <| .mk fun p ρ h => .ok (.val p.2) ρ h) := by intros; rfl
@[simp] theorem arg_chn {r : M (Bool × PyData)} {ρ : Env} {h : Hand} : ∀ n m a b c, argOf (E.chn n m a b c) r ρ h = ((r ρ h).bd <| .mk fun p ρ h => .ok (.val p.2) ρ h) := by intros; rfl
@[simp] theorem ret_isn {C : Cl} {th : Option (Hand → Cr)} {ρ : Env} {h : Hand} : ∀ a, ex C th (S.ret (E.isn a)) ρ h = ((ev C (E.isn a) ρ h).td <| .mk fun p _ h => .ret p.1 p.2 h) := by intros; rfl
@[simp] theorem pre_isn {r : M (Bool × PyData)} {ρ : Env} {h : Hand} : ∀ a, preOf (E.isn a) r ρ h = ((r ρ h).bd <| .mk fun p ρ h => .ok (.val p.2) ρ h) := by intros; rfl
@[simp] theorem arg_isn {r : M (Bool × PyData)} {ρ : Env} {h : Hand} : ∀ a, argOf (E.isn a) r ρ h = ((r ρ h).bd <| .mk fun p ρ h => .ok (.val p.2) ρ h) := by intros; rfl
@[simp] theorem ret_isnn {C : Cl} {th : Option (Hand → Cr)} {ρ : Env} {h : Hand} : ∀ a, ex C th (S.ret (E.isnn a)) ρ h = ((ev C (E.isnn a) ρ h).td <| .mk fun p _ h => .ret p.1 p.2 h) := by intros; rfl
@[simp] theorem pre_isnn {r : M (Bool × PyData)} {ρ : Env} {h : Hand} : ∀ a, preOf (E.isnn a) r ρ h = ((r ρ h).bd <| .mk fun p ρ h => .ok (.val p.2) ρ h) := by intros; rfl
@[simp] theorem arg_isnn {r : M (Bool × PyData)} {ρ : Env} {h : Hand} : ∀ a, argOf (E.isnn a) r ρ h = ((r ρ h).bd <| .mk fun p ρ h => .ok (.val p.2) ρ h) := by intros; rfl
@[simp] theorem ret_isb {C : Cl} {th : Option (Hand → Cr)} {ρ : Env} {h : Hand} : ∀ a n, ex C th (S.ret (E.isb a n)) ρ h = ((ev C (E.isb a n) ρ h).td <| .mk fun p _ h => .ret p.1 p.2 h) := by intros; rfl
@[simp] theorem pre_isb {r : M (Bool × PyData)} {ρ : Env} {h : Hand} : ∀ a n, preOf (E.isb a n) r ρ h = ((r ρ h).bd <| .mk fun p ρ h => .ok (.val p.2) ρ h) := by intros; rfl
@[simp] theorem arg_isb {r : M (Bool × PyData)} {ρ : Env} {h : Hand} : ∀ a n, argOf (E.isb a n) r ρ h = ((r ρ h).bd <| .mk fun p ρ h => .ok (.val p.2) ρ h) := by intros; rfl
@[simp] theorem ret_isnb {C : Cl} {th : Option (Hand → Cr)} {ρ : Env} {h : Hand} : ∀ a n, ex C th (S.ret (E.isnb a n)) ρ h = ((ev C (E.isnb a n) ρ h).td <| .mk fun p _ h => .ret p.1 p.2 h) := by intros; rfl
@[simp] theorem pre_isnb {r : M (Bool × PyData)} {ρ : Env} {h : Hand} : ∀ a n, preOf (E.isnb a n) r ρ h = ((r ρ h).bd <| .mk fun p ρ h => .ok (.val p.2) ρ h) := by intros; rfl
@[simp] theorem arg_isnb {r : M (Bool × PyData)} {ρ : Env} {h : Hand} : ∀ a n, argOf (E.isnb a n) r ρ h = ((r ρ h).bd <| .mk fun p ρ h => .ok (.val p.2) ρ h) := by intros; rfl
@[simp] theorem ret_ife {C : Cl} {th : Option (Hand → Cr)} {ρ : Env} {h : Hand} : ∀ c a b, ex C th (S.ret (E.ife c a b)) ρ h = ((ev C (E.ife c a b) ρ h).td <| .mk fun p _ h => .ret p.1 p.2 h) := by intros; rfl
@[simp] theorem pre_ife {r : M (Bool × PyData)} {ρ : Env} {h : Hand} : ∀ c a b, preOf (E.ife c a b) r ρ h = ((r ρ h).bd <| .mk fun p ρ h => .ok (.val p.2) ρ h) := by intros; rfl
@[simp] theorem arg_ife {r : M (Bool × PyData)} {ρ : Env} {h : Hand} : ∀ c a b, argOf (E.ife c a b) r ρ h = ((r ρ h).bd <| .mk fun p ρ h => .ok (.val p.2) ρ h) := by intros; rfl
@[simp] theorem ret_tup {C : Cl} {th : Option (Hand → Cr)} {ρ : Env} {h : Hand} : ∀ a, ex C th (S.ret (E.tup a)) ρ h = ((ev C (E.tup a) ρ h).td <| .mk fun p _ h => .ret p.1 p.2 h) := by intros; rfl
@[simp] theorem pre_tup {r : M (Bool × PyData)} {ρ : Env} {h : Hand} : ∀ a, preOf (E.tup a) r ρ h = ((r ρ h).bd <| .mk fun p ρ h => .ok (.val p.2) ρ h) := by intros; rfl
@[simp] theorem arg_tup {r : M (Bool × PyData)} {ρ : Env} {h : Hand} : ∀ a, argOf (E.tup a) r ρ h = ((r ρ h).bd <| .mk fun p ρ h => .ok (.val p.2) ρ h) := by intros; rfl
@[simp] theorem ret_lst {C : Cl} {th : Option (Hand → Cr)} {ρ : Env} {h : Hand} : ∀ a, ex C th (S.ret (E.lst a)) ρ h = ((ev C (E.lst a) ρ h).td <| .mk fun p _ h => .ret p.1 p.2 h) := by intros; rfl
@[simp] theorem pre_lst {r : M (Bool × PyData)} {ρ : Env} {h : Hand} : ∀ a, preOf (E.lst a) r ρ h = ((r ρ h).bd <| .mk fun p ρ h => .ok (.val p.2) ρ h) := by intros; rfl
@[simp] theorem arg_lst {r : M (Bool × PyData)} {ρ : Env} {h : Hand} : ∀ a, argOf (E.lst a) r ρ h = ((r ρ h).bd <| .mk fun p ρ h => .ok (.val p.2) ρ h) := by intros; rfl
@[simp] theorem ret_idx {C : Cl} {th : Option (Hand → Cr)} {ρ : Env} {h : Hand} : ∀ a b, ex C th (S.ret (E.idx a b)) ρ h = ((ev C (E.idx a b) ρ h).td <| .mk fun p _ h => .ret p.1 p.2 h) := by intros; rfl
@[simp] theorem pre_idx {r : M (Bool × PyData)} {ρ : Env} {h : Hand} : ∀ a b, preOf (E.idx a b) r ρ h = ((r ρ h).bd <| .mk fun p ρ h => .ok (.val p.2) ρ h) := by intros; rfl
@[simp] theorem arg_idx {r : M (Bool × PyData)} {ρ : Env} {h : Hand} : ∀ a b, argOf (E.idx a b) r ρ h = ((r ρ h).bd <| .mk fun p ρ h => .ok (.val p.2) ρ h) := by intros; rfl
@[simp] theorem ret_slc {C : Cl} {th : Option (Hand → Cr)} {ρ : Env} {h : Hand} : ∀ a b c, ex C th (S.ret (E.slc a b c)) ρ h = ((ev C (E.slc a b c) ρ h).td <| .mk fun p _ h => .ret p.1 p.2 h) := by intros; rfl
@[simp] theorem pre_slc {r : M (Bool × PyData)} {ρ : Env} {h : Hand} : ∀ a b c, preOf (E.slc a b c) r ρ h = ((r ρ h).bd <| .mk fun p ρ h => .ok (.val p.2) ρ h) := by intros; rfl
@[simp] theorem arg_slc {r : M (Bool × PyData)} {ρ : Env} {h : Hand} : ∀ a b c, argOf (E.slc a b c) r ρ h = ((r ρ h).bd <| .mk fun p ρ h => .ok (.val p.2) ρ h) := by intros; rfl
@[simp] theorem ret_call {C : Cl} {th : Option (Hand → Cr)} {ρ : Env} {h : Hand} : ∀ n a, ex C th (S.ret (E.call n a)) ρ h = ((ev C (E.call n a) ρ h).td <| .mk fun p _ h => .ret p.1 p.2 h) := by intros; rfl
@[simp] theorem pre_call {r : M (Bool × PyData)} {ρ : Env} {h : Hand} : ∀ n a, preOf (E.call n a) r ρ h = ((r ρ h).bd <| .mk fun p ρ h => .ok (.val p.2) ρ h) := by intros; rfl
@[simp] theorem arg_call {r : M (Bool × PyData)} {ρ : Env} {h : Hand} : ∀ n a, argOf (E.call n a) r ρ h = ((r ρ h).bd <| .mk fun p ρ h => .ok (.val p.2) ρ h) := by intros; rfl
@[simp] theorem ret_callv {C : Cl} {th : Option (Hand → Cr)} {ρ : Env} {h : Hand} : ∀ n a, ex C th (S.ret (E.callv n a)) ρ h = ((ev C (E.callv n a) ρ h).td <| .mk fun p _ h => .ret p.1 p.2 h) := by intros; rfl
@[simp] theorem pre_callv {r : M (Bool × PyData)} {ρ : Env} {h : Hand} : ∀ n a, preOf (E.callv n a) r ρ h = ((r ρ h).bd <| .mk fun p ρ h => .ok (.val p.2) ρ h) := by intros; rfl
@[simp] theorem arg_callv {r : M (Bool × PyData)} {ρ : Env} {h : Hand} : ∀ n a, argOf (E.callv n a) r ρ h = ((r ρ h).bd <| .mk fun p ρ h => .ok (.val p.2) ρ h) := by intros; rfl
@[simp] theorem ret_bfn {C : Cl} {th : Option (Hand → Cr)} {ρ : Env} {h : Hand} : ∀ n a, ex C th (S.ret (E.bfn n a)) ρ h = ((ev C (E.bfn n a) ρ h).td <| .mk fun p _ h => .ret p.1 p.2 h) := by intros; rfl
@[simp] theorem pre_bfn {r : M (Bool × PyData)} {ρ : Env} {h : Hand} : ∀ n a, preOf (E.bfn n a) r ρ h = ((r ρ h).bd <| .mk fun p ρ h => .ok (.val p.2) ρ h) := by intros; rfl
@[simp] theorem arg_bfn {r : M (Bool × PyData)} {ρ : Env} {h : Hand} : ∀ n a, argOf (E.bfn n a) r ρ h = ((r ρ h).bd <| .mk fun p ρ h => .ok (.val p.2) ρ h) := by intros; rfl
@[simp] theorem ret_isi {C : Cl} {th : Option (Hand → Cr)} {ρ : Env} {h : Hand} : ∀ a n, ex C th (S.ret (E.isi a n)) ρ h = ((ev C (E.isi a n) ρ h).td <| .mk fun p _ h => .ret p.1 p.2 h) := by intros; rfl
@[simp] theorem pre_isi {r : M (Bool × PyData)} {ρ : Env} {h : Hand} : ∀ a n, preOf (E.isi a n) r ρ h = ((r ρ h).bd <| .mk fun p ρ h => .ok (.val p.2) ρ h) := by intros; rfl
@[simp] theorem arg_isi {r : M (Bool × PyData)} {ρ : Env} {h : Hand} : ∀ a n, argOf (E.isi a n) r ρ h = ((r ρ h).bd <| .mk fun p ρ h => .ok (.val p.2) ρ h) := by intros; rfl
@[simp] theorem ret_isx {C : Cl} {th : Option (Hand → Cr)} {ρ : Env} {h : Hand} : ∀ n m, ex C th (S.ret (E.isx n m)) ρ h = ((ev C (E.isx n m) ρ h).td <| .mk fun p _ h => .ret p.1 p.2 h) := by intros; rfl
@[simp] theorem pre_isx {r : M (Bool × PyData)} {ρ : Env} {h : Hand} : ∀ n m, preOf (E.isx n m) r ρ h = ((r ρ h).bd <| .mk fun p ρ h => .ok (.val p.2) ρ h) := by intros; rfl
@[simp] theorem arg_isx {r : M (Bool × PyData)} {ρ : Env} {h : Hand} : ∀ n m, argOf (E.isx n m) r ρ h = ((r ρ h).bd <| .mk fun p ρ h => .ok (.val p.2) ρ h) := by intros; rfl
@[simp] theorem ret_mth1 {C : Cl} {th : Option (Hand → Cr)} {ρ : Env} {h : Hand} : ∀ n a b, ex C th (S.ret (E.mth1 n a b)) ρ h = ((ev C (E.mth1 n a b) ρ h).td <| .mk fun p _ h => .ret p.1 p.2 h) := by intros; rfl
@[simp] theorem pre_mth1 {r : M (Bool × PyData)} {ρ : Env} {h : Hand} : ∀ n a b, preOf (E.mth1 n a b) r ρ h = ((r ρ h).bd <| .mk fun p ρ h => .ok (.val p.2) ρ h) := by intros; rfl
@[simp] theorem arg_mth1 {r : M (Bool × PyData)} {ρ : Env} {h : Hand} : ∀ n a b, argOf (E.mth1 n a b) r ρ h = ((r ρ h).bd <| .mk fun p ρ h => .ok (.val p.2) ρ h) := by intros; rfl
@[simp] theorem ret_dic0 {C : Cl} {th : Option (Hand → Cr)} {ρ : Env} {h : Hand} : ex C th (S.ret (E.dic0)) ρ h = ((ev C (E.dic0) ρ h).td <| .mk fun p _ h => .ret p.1 p.2 h) := by intros; rfl
@[simp] theorem pre_dic0 {r : M (Bool × PyData)} {ρ : Env} {h : Hand} : preOf (E.dic0) r ρ h = ((r ρ h).bd <| .mk fun p ρ h => .ok (.val p.2) ρ h) := by intros; rfl
@[simp] theorem arg_dic0 {r : M (Bool × PyData)} {ρ : Env} {h : Hand} : argOf (E.dic0) r ρ h = ((r ρ h).bd <| .mk fun p ρ h => .ok (.val p.2) ρ h) := by intros; rfl
@[simp] theorem ret_lrg {C : Cl} {th : Option (Hand → Cr)} {ρ : Env} {h : Hand} : ∀ a, ex C th (S.ret (E.lrg a)) ρ h = ((ev C (E.lrg a) ρ h).td <| .mk fun p _ h => .ret p.1 p.2 h) := by intros; rfl
@[simp] theorem pre_lrg {r : M (Bool × PyData)} {ρ : Env} {h : Hand} : ∀ a, preOf (E.lrg a) r ρ h = ((r ρ h).bd <| .mk fun p ρ h => .ok (.val p.2) ρ h) := by intros; rfl
@[simp] theorem arg_lrg {r : M (Bool × PyData)} {ρ : Env} {h : Hand} : ∀ a, argOf (E.lrg a) r ρ h = ((r ρ h).bd <| .mk fun p ρ h => .ok (.val p.2) ρ h) := by intros; rfl
@[simp] theorem ret_pop0 {C : Cl} {th : Option (Hand → Cr)} {ρ : Env} {h : Hand} : ∀ n, ex C th (S.ret (E.pop0 n)) ρ h = ((ev C (E.pop0 n) ρ h).td <| .mk fun p _ h => .ret p.1 p.2 h) := by intros; rfl
@[simp] theorem pre_pop0 {r : M (Bool × PyData)} {ρ : Env} {h : Hand} : ∀ n, preOf (E.pop0 n) r ρ h = ((r ρ h).bd <| .mk fun p ρ h => .ok (.val p.2) ρ h) := by intros; rfl
@[simp] theorem arg_pop0 {r : M (Bool × PyData)} {ρ : Env} {h : Hand} : ∀ n, argOf (E.pop0 n) r ρ h = ((r ρ h).bd <| .mk fun p ρ h => .ok (.val p.2) ρ h) := by intros; rfl
@[simp] theorem ret_pop1 {C : Cl} {th : Option (Hand → Cr)} {ρ : Env} {h : Hand} : ∀ n a, ex C th (S.ret (E.pop1 n a)) ρ h = ((ev C (E.pop1 n a) ρ h).td <| .mk fun p _ h => .ret p.1 p.2 h) := by intros; rfl
@[simp] theorem pre_pop1 {r : M (Bool × PyData)} {ρ : Env} {h : Hand} : ∀ n a, preOf (E.pop1 n a) r ρ h = ((r ρ h).bd <| .mk fun p ρ h => .ok (.val p.2) ρ h) := by intros; rfl
@[simp] theorem arg_pop1 {r : M (Bool × PyData)} {ρ : Env} {h : Hand} : ∀ n a, argOf (E.pop1 n a) r ρ h = ((r ρ h).bd <| .mk fun p ρ h => .ok (.val p.2) ρ h) := by intros; rfl
@[simp] theorem ret_comp {C : Cl} {th : Option (Hand → Cr)} {ρ : Env} {h : Hand} : ∀ n a b c d, ex C th (S.ret (E.comp n a b c d)) ρ h = ((ev C (E.comp n a b c d) ρ h).td <| .mk fun p _ h => .ret p.1 p.2 h) := by intros; rfl
@[simp] theorem pre_comp {r : M (Bool × PyData)} {ρ : Env} {h : Hand} : ∀ n a b c d, preOf (E.comp n a b c d) r ρ h = ((r ρ h).bd <| .mk fun p ρ h => .ok (.val p.2) ρ h) := by intros; rfl
@[simp] theorem arg_comp {r : M (Bool × PyData)} {ρ : Env} {h : Hand} : ∀ n a b c d, argOf (E.comp n a b c d) r ρ h = ((r ρ h).bd <| .mk fun p ρ h => .ok (.val p.2) ρ h) := by intros; rfl
@[simp] theorem ret_rev {C : Cl} {th : Option (Hand → Cr)} {ρ : Env} {h : Hand} : ∀ a, ex C th (S.ret (E.rev a)) ρ h = ((ev C (E.rev a) ρ h).td <| .mk fun p _ h => .ret p.1 p.2 h) := by intros; rfl
@[simp] theorem pre_rev {r : M (Bool × PyData)} {ρ : Env} {h : Hand} : ∀ a, preOf (E.rev a) r ρ h = ((r ρ h).bd <| .mk fun p ρ h => .ok (.val p.2) ρ h) := by intros; rfl
@[simp] theorem arg_rev {r : M (Bool × PyData)} {ρ : Env} {h : Hand} : ∀ a, argOf (E.rev a) r ρ h = ((r ρ h).bd <| .mk fun p ρ h => .ok (.val p.2) ρ h) := by intros; rfl
@[simp] theorem ret_revt {C : Cl} {th : Option (Hand → Cr)} {ρ : Env} {h : Hand} : ∀ a, ex C th (S.ret (E.revt a)) ρ h = ((ev C (E.revt a) ρ h).td <| .mk fun p _ h => .ret p.1 p.2 h) := by intros; rfl
@[simp] theorem pre_revt {r : M (Bool × PyData)} {ρ : Env} {h : Hand} : ∀ a, preOf (E.revt a) r ρ h = ((r ρ h).bd <| .mk fun p ρ h => .ok (.val p.2) ρ h) := by intros; rfl
@[simp] theorem arg_revt {r : M (Bool × PyData)} {ρ : Env} {h : Hand} : ∀ a, argOf (E.revt a) r ρ h = ((r ρ h).bd <| .mk fun p ρ h => .ok (.val p.2) ρ h) := by intros; rfl
@[simp] theorem ret_lamc {C : Cl} {th : Option (Hand → Cr)} {ρ : Env} {h : Hand} : ∀ n a, ex C th (S.ret (E.lamc n a)) ρ h = ((ev C (E.lamc n a) ρ h).td <| .mk fun p _ h => .ret p.1 p.2 h) := by intros; rfl
@[simp] theorem pre_lamc {r : M (Bool × PyData)} {ρ : Env} {h : Hand} : ∀ n a, preOf (E.lamc n a) r ρ h = ((r ρ h).bd <| .mk fun p ρ h => .ok (.val p.2) ρ h) := by intros; rfl
@[simp] theorem arg_lamc {r : M (Bool × PyData)} {ρ : Env} {h : Hand} : ∀ n a, argOf (E.lamc n a) r ρ h = ((r ρ h).bd <| .mk fun p ρ h => .ok (.val p.2) ρ h) := by intros; rfl
@[simp] theorem ret_dgt {C : Cl} {th : Option (Hand → Cr)} {ρ : Env} {h : Hand} : ∀ a b, ex C th (S.ret (E.dgt a b)) ρ h = ((ev C (E.dgt a b) ρ h).td <| .mk fun p _ h => .ret p.1 p.2 h) := by intros; rfl
@[simp] theorem pre_dgt {r : M (Bool × PyData)} {ρ : Env} {h : Hand} : ∀ a b, preOf (E.dgt a b) r ρ h = ((r ρ h).bd <| .mk fun p ρ h => .ok (.val p.2) ρ h) := by intros; rfl
@[simp] theorem arg_dgt {r : M (Bool × PyData)} {ρ : Env} {h : Hand} : ∀ a b, argOf (E.dgt a b) r ρ h = ((r ρ h).bd <| .mk fun p ρ h => .ok (.val p.2) ρ h) := by intros; rfl
@[simp] theorem ret_dcomp {C : Cl} {th : Option (Hand → Cr)} {ρ : Env} {h : Hand} : ∀ n a b c d e, ex C th (S.ret (E.dcomp n a b c d e)) ρ h = ((ev C (E.dcomp n a b c d e) ρ h).td <| .mk fun p _ h => .ret p.1 p.2 h) := by intros; rfl
@[simp] theorem pre_dcomp {r : M (Bool × PyData)} {ρ : Env} {h : Hand} : ∀ n a b c d e, preOf (E.dcomp n a b c d e) r ρ h = ((r ρ h).bd <| .mk fun p ρ h => .ok (.val p.2) ρ h) := by intros; rfl
@[simp] theorem arg_dcomp {r : M (Bool × PyData)} {ρ : Env} {h : Hand} : ∀ n a b c d e, argOf (E.dcomp n a b c d e) r ρ h = ((r ρ h).bd <| .mk fun p ρ h => .ok (.val p.2) ρ h) := by intros; rfl
@[simp] theorem ret_dic1 {C : Cl} {th : Option (Hand → Cr)} {ρ : Env} {h : Hand} : ∀ a b, ex C th (S.ret (E.dic1 a b)) ρ h = ((ev C (E.dic1 a b) ρ h).td <| .mk fun p _ h => .ret p.1 p.2 h) := by intros; rfl
@[simp] theorem pre_dic1 {r : M (Bool × PyData)} {ρ : Env} {h : Hand} : ∀ a b, preOf (E.dic1 a b) r ρ h = ((r ρ h).bd <| .mk fun p ρ h => .ok (.val p.2) ρ h) := by intros; rfl
@[simp] theorem arg_dic1 {r : M (Bool × PyData)} {ρ : Env} {h : Hand} : ∀ a b, argOf (E.dic1 a b) r ρ h = ((r ρ h).bd <| .mk fun p ρ h => .ok (.val p.2) ρ h) := by intros; rfl
@[simp] theorem ret_trg {C : Cl} {th : Option (Hand → Cr)} {ρ : Env} {h : Hand} : ∀ a, ex C th (S.ret (E.trg a)) ρ h = ((ev C (E.trg a) ρ h).td <| .mk fun p _ h => .ret p.1 p.2 h) := by intros; rfl
@[simp] theorem pre_trg {r : M (Bool × PyData)} {ρ : Env} {h : Hand} : ∀ a, preOf (E.trg a) r ρ h = ((r ρ h).bd <| .mk fun p ρ h => .ok (.val p.2) ρ h) := by intros; rfl
@[simp] theorem arg_trg {r : M (Bool × PyData)} {ρ : Env} {h : Hand} : ∀ a, argOf (E.trg a) r ρ h = ((r ρ h).bd <| .mk fun p ρ h => .ok (.val p.2) ρ h) := by intros; rfl
@[simp] theorem pre_var {i : Nat} {r : M (Bool × PyData)} {ρ : Env} {h : Hand} : preOf (.var i) r ρ h = slR (.sl i) i ρ h := rfl
@[simp] theorem arg_var {i : Nat} {r : M (Bool × PyData)} {ρ : Env} {h : Hand} : argOf (.var i) r ρ h = slR (.sl i) i ρ h := rfl
@[simp] theorem arg_fnv {i : Nat} {r : M (Bool × PyData)} {ρ : Env} {h : Hand} : argOf (.fnv i) r ρ h = .ok (.fn i) ρ h := rfl
@[simp] theorem ex_ret_var {C : Cl} {th : Option (Hand → Cr)} {i : Nat} {ρ : Env} {h : Hand} : ex C th (S.ret (.var i)) ρ h = (match ρ[i]? with
      | some (.own d) => .ret true d h
      | some (.sh d) => .ret false d h
      | _ => .fail) := rfl
@[simp] theorem ex_whl {C : Cl} {th : Option (Hand → Cr)} {c : E} {b : Ss} {ρ : Env} {h : Hand} : ex C th (S.whl c b) ρ h = whlL (fun ρ h => asBool (ev C c ρ h)) (exs C th b) fuel ρ h := rfl
theorem run_unf {P : Pg} {n k : Nat} {th : Option (Hand → Cr)} {as : List Arg} {h : Hand} {f : Fd} (hf : P.fd k = some f) : run P (n + 1) k th as h = if isRest f = true then (match fixA f as with
      | some as2 => rtC h (exs (cl P n) th f.body (envR f as2) h)
      | none => .fail) else if as.length ≤ f.np ∧ f.np ≤ as.length + f.dfl.length then rtC h (exs (cl P n) th f.body (env0 f as) h) else .fail := by
  have e : run P (n + 1) k th as h = (match P.fd k with
    | none => .fail
    | some f => if isRest f = true then (match fixA f as with
      | some as2 => rtC h (exs (cl P n) th f.body (envR f as2) h)
      | none => .fail) else if as.length ≤ f.np ∧ f.np ≤ as.length + f.dfl.length then rtC h (exs (cl P n) th f.body (env0 f as) h) else .fail) := rfl
  rw [e, hf]
theorem run_eq {P : Pg} {n k : Nat} {th : Option (Hand → Cr)} {as : List Arg} {h : Hand} {f : Fd} (hf : P.fd k = some f) (h1 : as.length = f.np) (h2 : f.dfl = []) : run P (n + 1) k th as h = rtC h (exs (cl P n) th f.body (as.map argS ++ List.replicate (f.ns - f.np) .non) h) := by
  rw [run_unf hf, if_neg (by unfold isRest; rw [h2]; simp), if_pos ⟨by omega, by omega⟩]
  unfold env0
  rw [h2]
  simp
theorem run_eqR {P : Pg} {n k : Nat} {th : Option (Hand → Cr)} {as as2 : List Arg} {h : Hand} {f : Fd} (hf : P.fd k = some f) (hr : isRest f = true) (e : fixA f as = some as2) : run P (n + 1) k th as h = rtC h (exs (cl P n) th f.body (as2.map argS ++ List.replicate (f.ns - f.np) .non) h) := by
  rw [run_unf hf, if_pos hr, e]
  rfl
@[simp] theorem cl_fn {P : Pg} {n k : Nat} {as : List Arg} {h : Hand} : (cl P n).fn k as h = run P n k none as h := rfl
end PyD
namespace PyD
open PySem (PyData Str)
@[simp] theorem asBool_ok {f : Bool} {b : Bool} {ρ : Env} {h : Hand} : asBool (.ok (f, .bool b) ρ h) = .ok b ρ h := rfl
@[simp] theorem asInt_ok {f : Bool} {b : Int} {ρ : Env} {h : Hand} : asIntR (.ok (f, .int b) ρ h) = .ok b ρ h := rfl
@[simp] theorem slR_ok {α : Type} {a : α} {i : Nat} {ρ : Env} {h : Hand} : slR a i ρ h = (match ρ[i]? with
  | some s => if live s then .ok a ρ h else .fail
  | none => .fail) := rfl
@[simp] theorem live_sh {d : PyData} : live (.sh d) = true := rfl
@[simp] theorem live_own {d : PyData} : live (.own d) = true := rfl
@[simp] theorem live_bor {d : PyData} : live (.bor d) = true := rfl
@[simp] theorem live_hnd : live .hnd = true := rfl
@[simp] theorem live_fn {k : Nat} : live (.fn k) = true := rfl
@[simp] theorem live_scr {k : List PyData} : live (.scr k) = true := rfl
@[simp] theorem getP_val {ρ : Env} {h : Hand} {d : PyData} : getP ρ h (.val d) = some d := rfl
@[simp] theorem getP_sl {ρ : Env} {h : Hand} {i : Nat} : getP ρ h (.sl i) = (match ρ[i]? with
    | some (.sh d) => some d
    | some (.own d) => some d
    | some (.bor d) => some d
    | some .hnd => h.map .list
    | _ => none) := rfl
@[simp] theorem getPs_nil {ρ : Env} {h : Hand} : getPs ρ h [] = some [] := rfl
@[simp] theorem getPs_cons {ρ : Env} {h : Hand} {p : Pre} {r : List Pre} : getPs ρ h (p :: r) = (match getP ρ h p, getPs ρ h r with
    | some d, some ds => some (d :: ds)
    | _, _ => none) := rfl
theorem atI_nat {α : Type} {xs : List α} {i : Int} (h : 0 ≤ i) (h2 : i.toNat < xs.length) : L2.atI xs i = xs[i.toNat]? := by
  unfold L2.atI L2.ixN
  rw [if_pos h, if_pos (by omega)]
  rfl
@[simp] theorem atI_0 {α : Type} {x : α} {xs : List α} : L2.atI (x :: xs) 0 = some x := by
  rw [atI_nat (by omega) (by simp)]; rfl
@[simp] theorem atI_1 {α : Type} {x y : α} {xs : List α} : L2.atI (x :: y :: xs) 1 = some y := by
  rw [atI_nat (by omega) (by simp)]; rfl
@[simp] theorem atI_2 {α : Type} {x y z : α} {xs : List α} : L2.atI (x :: y :: z :: xs) 2 = some z := by
  rw [atI_nat (by omega) (by simp)]; rfl
@[simp] theorem atI_3 {α : Type} {x y z u : α} {xs : List α} : L2.atI (x :: y :: z :: u :: xs) 3 = some u := by
  rw [atI_nat (by omega) (by simp)]; rfl
@[simp] theorem atI_4 {α : Type} {x y z u v : α} {xs : List α} : L2.atI (x :: y :: z :: u :: v :: xs) 4 = some v := by
  rw [atI_nat (by omega) (by simp)]; rfl
@[simp] theorem idx_list {xs : List PyData} {i : Int} : idx (.list xs) (.int i) = L2.atI xs i := rfl
@[simp] theorem idx_tup {xs : List PyData} {i : Int} : idx (.tuple xs) (.int i) = L2.atI xs i := rfl
theorem eqOk_int {i j : Int} : eqOk (.int i) (.int j) = true := by
  rfl
@[simp] theorem cop_eq_int {i j : Int} : cop .eq (.int i) (.int j) = some (decide (i = j)) := by
  show (if eqOk (.int i) (.int j) then some (PyData.eqv (.int i) (.int j)) else none) = _
  rw [eqOk_int]
  simp [PyData.eqv]
  try rfl
@[simp] theorem cop_ne_int {i j : Int} : cop .ne (.int i) (.int j) = some (decide (i ≠ j)) := by
  show (if eqOk (.int i) (.int j) then some (!PyData.eqv (.int i) (.int j)) else none) = _
  rw [eqOk_int]
  simp [PyData.eqv]
  try rfl
@[simp] theorem cop_lt_int {i j : Int} : cop .lt (.int i) (.int j) = some (decide (i < j)) := rfl
@[simp] theorem cop_le_int {i j : Int} : cop .le (.int i) (.int j) = some (decide (i ≤ j)) := rfl
@[simp] theorem cop_gt_int {i j : Int} : cop .gt (.int i) (.int j) = some (decide (j < i)) := rfl
@[simp] theorem cop_ge_int {i j : Int} : cop .ge (.int i) (.int j) = some (decide (j ≤ i)) := rfl
@[simp] theorem bop_add_int {i j : Int} : bop .add (.int i) (.int j) = some (false, .int (i + j)) := rfl
@[simp] theorem bop_sub_int {i j : Int} : bop .sub (.int i) (.int j) = some (false, .int (i - j)) := rfl
theorem bop_mul_int {i j : Int} (h : mulOk i j = true) : bop .mul (.int i) (.int j) = some (false, .int (i * j)) := if_pos h
theorem bop_mod_int {i j : Int} (h : 0 < j) : bop .mod (.int i) (.int j) = some (false, .int (i % j)) := if_pos h
theorem bop_div_intW {i j : Int} (h : 0 < j ∧ j < 1606938044258990275541962092341162602522202993782792835301376) : bop .fdiv (.int i) (.int j) = some (false, .int (i / j)) := if_pos h
theorem bop_div_int {i j : Int} (h : 0 < j ∧ j < 1073741824) : bop .fdiv (.int i) (.int j) = some (false, .int (i / j)) := bop_div_intW ⟨h.1, by omega⟩
@[simp] theorem bfn_len_list {xs : List PyData} : bfn .len [.list xs] = some (false, .int xs.length) := rfl
@[simp] theorem bfn_len_tup {xs : List PyData} : bfn .len [.tuple xs] = some (false, .int xs.length) := rfl
@[simp] theorem bfn_int_int {i : Int} : bfn .int [.int i] = some (false, .int i) := rfl
@[simp] theorem bfn_abs {i : Int} : bfn .abs [.int i] = some (false, .int (if i < 0 then -i else i)) := rfl
@[simp] theorem and_ok {a : Prop} [Decidable a] {b : Bool} {ρ : Env} {h : Hand} : (if a then Rs.ok (false, PyData.bool b) ρ h else Rs.ok (false, .bool false) ρ h) = Rs.ok (false, .bool (decide a && b)) ρ h := by split <;> simp [*]
@[simp] theorem or_ok {a : Prop} [Decidable a] {b : Bool} {ρ : Env} {h : Hand} : (if a then Rs.ok (false, PyData.bool true) ρ h else Rs.ok (false, .bool b) ρ h) = Rs.ok (false, .bool (decide a || b)) ρ h := by split <;> simp [*]
@[simp] theorem slotOf_eq {p : Bool × PyData} : slotOf p = if p.1 then .own p.2 else .sh p.2 := rfl
@[simp] theorem asgT_nm {i : Nat} {p : Bool × PyData} {ρ : Env} : asgT (.nm i) p ρ = some (ρ.set i (slotOf p)) := rfl
@[simp] theorem getM_eq {ρ : Env} {h : Hand} {i : Nat} : getM ρ h i = (match ρ[i]? with
  | some (.own (.list xs)) => some xs
  | some .hnd => h
  | _ => none) := rfl
@[simp] theorem setSl_eq {i : Nat} {j : Int} {v : PyData} {ρ : Env} {h : Hand} : setSl i (.int j) v ρ h = (match ρ[i]? with
  | some (.own (.list xs)) => (setAt xs j v).map fun ys => (ρ.set i (.own (.list ys)), h)
  | some .hnd => (match h with
    | some xs => (setAt xs j v).map fun ys => (ρ, some ys)
    | none => none)
  | _ => none) := by
  unfold setSl
  generalize ρ[i]? = o
  cases o with
  | none => rfl
  | some s => cases s <;> first | rfl | (rename_i d; cases d <;> rfl)
@[simp] theorem ret_seq' {fr : Bool} {d : PyData} {h : Hand} {f : Env → Hand → Rt} : (Rt.ret fr d h).seq f = .ret fr d h := rfl
theorem ite_seq {c : Prop} [Decidable c] {a b : Rt} {f : Env → Hand → Rt} : (if c then a else b).seq f = if c then a.seq f else b.seq f := by split <;> rfl
def mkH (cs : List Int) (a b c d : Int) : List PyData := [.list (cs.map .int), .int a, .int b, .int c, .int d]
end PyD

/-! PyP3: the helpers that all laws share. -/
namespace PyD
open PySem (PyData Str)
def drawHead (B C D F G : Int) : S := (.ife (.and (.cons (.cmp .eq (.idx (.var 0) (.int 2)) (.int 0)) (.cons (.cmp .lt (.idx (.var 0) (.int 1)) (.bfn .len (.cons (.idx (.var 0) (.int 0)) .nil))) .nil))) (.cons (.asg (.nm 2) (.idx (.idx (.var 0) (.int 0)) (.idx (.var 0) (.int 1)))) (.cons (.asgs 0 (.int 1) (.bin .add (.idx (.var 0) (.int 1)) (.int 1))) (.cons (.asgs 0 (.int 3) (.bin .mod (.bfn .int (.cons (.bin .add (.bin .add (.bin .mul (.idx (.var 0) (.int 3)) (.int 69621)) (.bin .mul (.var 2) (.int B))) (.int C)) .nil)) (.int 2147483629))) (.cons (.ife (.cmp .ge (.var 2) (.bin .pow (.int 10) (.int 18))) (.cons (.asgs 0 (.int 2) (.var 2)) .nil) .nil) .nil)))) .nil)
def drawTail (B C D F G : Int) : Ss := (.cons (.ife (.cmp .gt (.idx (.var 0) (.int 2)) (.int 0)) (.cons (.asg (.nm 3) (.bin .mod (.bfn .int (.cons (.idx (.var 0) (.int 2)) .nil)) (.var 1))) (.cons (.asgs 0 (.int 2) (.bin .fdiv (.idx (.var 0) (.int 2)) (.var 1))) (.cons (.ret (.var 3)) .nil))) .nil) (.cons (.asgs 0 (.int 4) (.bin .add (.idx (.var 0) (.int 4)) (.int 1))) (.cons (.asg (.nm 4) (.bin .mod (.bfn .int (.cons (.bin .mul (.bfn .int (.cons (.bin .add (.idx (.var 0) (.int 3)) (.bin .mul (.int 7919) (.idx (.var 0) (.int 4)))) .nil)) (.int D)) .nil)) (.int 2147483647))) (.cons (.asg (.nm 4) (.bin .mod (.bfn .int (.cons (.bin .mul (.var 4) (.bin .add (.bin .fdiv (.var 4) (.int 1009)) (.int 69621))) .nil)) (.int 2147483647))) (.cons (.asg (.nm 4) (.bin .mod (.bfn .int (.cons (.bin .mul (.var 4) (.bin .add (.bin .fdiv (.var 4) (.int 2003)) (.int F))) .nil)) (.int G))) (.cons (.ret (.bin .mod (.bfn .int (.cons (.bin .fdiv (.var 4) (.int 16)) .nil)) (.var 1))) .nil))))))
def fDrawG (B C D F G : Int) : Fd := ⟨2, 5, .cons (drawHead B C D F G) (drawTail B C D F G), []⟩
def drawK (B C D F G : Int) : Bool := decide (B.natAbs < 18446744073709551616) && decide (D.natAbs < 18446744073709551616) && decide (0 < G)
structure DrawK (B D G : Int) : Prop where
  hB : B.natAbs < 18446744073709551616
  hD : D.natAbs < 18446744073709551616
  hG : 0 < G
structure HdOk (cs : List Int) (a b c d : Int) : Prop where
  cs : ∀ c ∈ cs, 0 ≤ c
  a : 0 ≤ a
  b : 0 ≤ b
theorem mulOk_r {i j : Int} (h : j.natAbs < 2 ^ 64) : mulOk i j = true := by unfold mulOk; simp [h]
theorem mulOk_l {i j : Int} (h : i.natAbs < 2 ^ 64) : mulOk i j = true := by unfold mulOk; simp [h]
theorem mulOk_mod {x m y : Int} (h : 0 < m ∧ m < 18446744073709551616) : mulOk (x % m) y = true := by
  have := Int.emod_nonneg x (by omega : m ≠ 0)
  have := Int.emod_lt_of_pos x h.1
  exact mulOk_l (by omega)
theorem bop_pow_int {i j : Int} (h : 0 ≤ j ∧ j ≤ 1000000 ∧ i.natAbs < 2 ^ 64) : bop .pow (.int i) (.int j) = some (false, .int (i ^ j.toNat)) := if_pos h
theorem draw_tail {C : Cl} {B C' D F G : Int} (kk : DrawK B D G) {cs : List Int} {a b c d m : Int} {s2 : Sl} (k : HdOk cs a b c d) (hm : 0 < m) (hm2 : m < 1606938044258990275541962092341162602522202993782792835301376) :
    ∃ r a' b' c' d', rtC (some (mkH cs a b c d)) (exs C none (drawTail B C' D F G) [.hnd, .sh (.int m), s2, .non, .non] (some (mkH cs a b c d))) = .ok false (.int r) (some (mkH cs a' b' c' d')) ∧ 0 ≤ r ∧ r < m ∧ HdOk cs a' b' c' d' := by
  have ha := k.a
  have hB := kk.hB
  have hD := kk.hD
  have hG := kk.hG
  by_cases h1 : 0 < b
  · simp [drawTail, mkH, h1, setAt, L2.ixN, bop_mod_int, bop_div_intW, hm, hm2]
    exact ⟨b % m, a, b / m, c, d, rfl, Int.emod_nonneg _ (by omega), Int.emod_lt_of_pos _ hm, ⟨k.cs, ha, Int.ediv_nonneg k.b (by omega)⟩⟩
  · simp [drawTail, mkH, h1, setAt, L2.ixN, bop_mod_int, bop_div_intW, bop_mul_int, mulOk_r, mulOk_l, mulOk_mod, hm, hm2, hD, hG]
    exact ⟨_, a, b, c, d + 1, rfl, Int.emod_nonneg _ (by omega), Int.emod_lt_of_pos _ hm, ⟨k.cs, ha, k.b⟩⟩
theorem draw_ok {C : Cl} {B C' D F G : Int} (kk : DrawK B D G) {cs : List Int} {a b c d m : Int} (k : HdOk cs a b c d) (hm : 0 < m) (hm2 : m < 1606938044258990275541962092341162602522202993782792835301376) :
    ∃ r a' b' c' d', rtC (some (mkH cs a b c d)) (exs C none (fDrawG B C' D F G).body [.hnd, .sh (.int m), .non, .non, .non] (some (mkH cs a b c d))) = .ok false (.int r) (some (mkH cs a' b' c' d')) ∧ 0 ≤ r ∧ r < m ∧ HdOk cs a' b' c' d' := by
  have ha := k.a
  have hB := kk.hB
  have hD := kk.hD
  have hG := kk.hG
  have e : exs C none (fDrawG B C' D F G).body [.hnd, .sh (.int m), .non, .non, .non] (some (mkH cs a b c d)) = (ex C none (drawHead B C' D F G) [.hnd, .sh (.int m), .non, .non, .non] (some (mkH cs a b c d))).seq (exs C none (drawTail B C' D F G)) := rfl
  rw [e]
  by_cases h1 : b = 0 ∧ a < cs.length
  · obtain ⟨rfl, h1⟩ := h1
    obtain ⟨x, e1, hx⟩ : ∃ x, L2.atI (cs.map PyData.int) a = some (.int x) ∧ 0 ≤ x := by
      have hl : a.toNat < cs.length := by omega
      refine ⟨cs[a.toNat], ?_, k.cs _ (List.getElem_mem hl)⟩
      rw [atI_nat k.a (by simpa using hl)]
      simp [hl]
    by_cases h2 : (1000000000000000000 : Int) ≤ x
    · have := draw_tail (C := C) (B := B) (C' := C') (D := D) (F := F) (G := G) kk (cs := cs) (a := a + 1) (b := x) (c := (c * 69621 + x * B + C') % 2147483629) (d := d) (s2 := .sh (.int x)) ⟨k.cs, by omega, hx⟩ hm hm2
      simp [drawHead, mkH, h1, e1, setAt, L2.ixN, bop_mod_int, bop_mul_int, bop_pow_int, mulOk_r, h2, hB] at this ⊢
      exact this
    · have := draw_tail (C := C) (B := B) (C' := C') (D := D) (F := F) (G := G) kk (cs := cs) (a := a + 1) (b := 0) (c := (c * 69621 + x * B + C') % 2147483629) (d := d) (s2 := .sh (.int x)) ⟨k.cs, by omega, by omega⟩ hm hm2
      simp [drawHead, mkH, h1, e1, setAt, L2.ixN, bop_mod_int, bop_mul_int, bop_pow_int, mulOk_r, h2, hB] at this ⊢
      exact this
  · have := draw_tail (C := C) (B := B) (C' := C') (D := D) (F := F) (G := G) kk (s2 := .non) k hm hm2
    simp [drawHead, mkH, h1] at this ⊢
    exact this
def drawHead1 (C : Int) : S := (.ife (.and (.cons (.cmp .eq (.idx (.var 0) (.int 2)) (.int 0)) (.cons (.cmp .lt (.idx (.var 0) (.int 1)) (.bfn .len (.cons (.idx (.var 0) (.int 0)) .nil))) .nil))) (.cons (.asg (.nm 2) (.idx (.idx (.var 0) (.int 0)) (.idx (.var 0) (.int 1)))) (.cons (.asgs 0 (.int 1) (.bin .add (.idx (.var 0) (.int 1)) (.int 1))) (.cons (.asgs 0 (.int 3) (.bin .mod (.bfn .int (.cons (.bin .add (.bin .add (.bin .mul (.idx (.var 0) (.int 3)) (.int 69621)) (.var 2)) (.int C)) .nil)) (.int 2147483629))) (.cons (.ife (.cmp .ge (.var 2) (.bin .pow (.int 10) (.int 18))) (.cons (.asgs 0 (.int 2) (.var 2)) .nil) .nil) .nil)))) .nil)
def fDraw1 (C D F G : Int) : Fd := ⟨2, 5, .cons (drawHead1 C) (drawTail 0 C D F G), []⟩
theorem draw_ok1 {C : Cl} {C' D F G : Int} (kk : DrawK 0 D G) {cs : List Int} {a b c d m : Int} (k : HdOk cs a b c d) (hm : 0 < m) (hm2 : m < 1606938044258990275541962092341162602522202993782792835301376) :
    ∃ r a' b' c' d', rtC (some (mkH cs a b c d)) (exs C none (fDraw1 C' D F G).body [.hnd, .sh (.int m), .non, .non, .non] (some (mkH cs a b c d))) = .ok false (.int r) (some (mkH cs a' b' c' d')) ∧ 0 ≤ r ∧ r < m ∧ HdOk cs a' b' c' d' := by
  have ha := k.a
  have hD := kk.hD
  have hG := kk.hG
  have e : exs C none (fDraw1 C' D F G).body [.hnd, .sh (.int m), .non, .non, .non] (some (mkH cs a b c d)) = (ex C none (drawHead1 C') [.hnd, .sh (.int m), .non, .non, .non] (some (mkH cs a b c d))).seq (exs C none (drawTail 0 C' D F G)) := rfl
  rw [e]
  by_cases h1 : b = 0 ∧ a < cs.length
  · obtain ⟨rfl, h1⟩ := h1
    obtain ⟨x, e1, hx⟩ : ∃ x, L2.atI (cs.map PyData.int) a = some (.int x) ∧ 0 ≤ x := by
      have hl : a.toNat < cs.length := by omega
      refine ⟨cs[a.toNat], ?_, k.cs _ (List.getElem_mem hl)⟩
      rw [atI_nat k.a (by simpa using hl)]
      simp [hl]
    by_cases h2 : (1000000000000000000 : Int) ≤ x
    · have := draw_tail (C := C) (B := 0) (C' := C') (D := D) (F := F) (G := G) kk (cs := cs) (a := a + 1) (b := x) (c := (c * 69621 + x + C') % 2147483629) (d := d) (s2 := .sh (.int x)) ⟨k.cs, by omega, hx⟩ hm hm2
      simp [drawHead1, mkH, h1, e1, setAt, L2.ixN, bop_mod_int, bop_mul_int, bop_pow_int, mulOk_r, h2] at this ⊢
      exact this
    · have := draw_tail (C := C) (B := 0) (C' := C') (D := D) (F := F) (G := G) kk (cs := cs) (a := a + 1) (b := 0) (c := (c * 69621 + x + C') % 2147483629) (d := d) (s2 := .sh (.int x)) ⟨k.cs, by omega, by omega⟩ hm hm2
      simp [drawHead1, mkH, h1, e1, setAt, L2.ixN, bop_mod_int, bop_mul_int, bop_pow_int, mulOk_r, h2] at this ⊢
      exact this
  · have := draw_tail (C := C) (B := 0) (C' := C') (D := D) (F := F) (G := G) kk (s2 := .non) k hm hm2
    simp [drawHead1, mkH, h1] at this ⊢
    exact this
end PyD

/-! PyP4: comprehensions, loops; _law_hand, _law_any, _law_shuffled. -/
namespace PyD
open PySem (PyData Str)
def Rs.is {α : Type} (r : Rs α) (a : α) (h : Hand) : Prop := match r with
  | .ok a' _ h' => a' = a ∧ h' = h
  | _ => False
@[simp] theorem is_ok {α : Type} {a a' : α} {ρ : Env} {h h' : Hand} : (Rs.ok a' ρ h').is a h ↔ a' = a ∧ h' = h := Iff.rfl
/-- one turn of a comprehension -/
def stp (ρ0 : Env) (t : Tg) (c : M Bool) (e : M (Bool × PyData)) (x : PyData) (h : Hand) : Rs (Option PyData) := match bindT t x ρ0 with
  | none => .fail
  | some ρ1 => (c ρ1 h).bd (.mk fun b ρ h => if b then (e ρ h).bd (.mk fun p ρ h => .ok (some p.2) ρ h) else .ok none ρ h)
theorem is_of {α : Type} {r : Rs α} {a : α} {h : Hand} (e : r.is a h) : ∃ ρ, r = .ok a ρ h := by
  cases r with
  | ok a' ρ h' => exact ⟨ρ, by obtain ⟨rfl, rfl⟩ := e; rfl⟩
  | exc c ρ h => exact e.elim
  | fail => exact e.elim
def consO {α : Type} : Option α → List α → List α
  | some d, r => d :: r
  | none, r => r
theorem compL_stp {ρ0 : Env} {t : Tg} {c : M Bool} {e : M (Bool × PyData)} {x : PyData} {xs : List PyData} {h h' : Hand} {o : Option PyData} (s : (stp ρ0 t c e x h).is o h') :
    compL ρ0 t c e (x :: xs) h = (compL ρ0 t c e xs h').map fun q => (consO o q.1, q.2) := by
  obtain ⟨ρ, s⟩ := is_of s
  unfold stp at s
  conv => lhs; unfold compL
  cases q : bindT t x ρ0 with
  | none => rw [q] at s; cases s
  | some ρ1 =>
    rw [q] at s
    dsimp only at s ⊢
    cases q2 : c ρ1 h with
    | exc k ρ h => rw [q2] at s; cases s
    | fail => rw [q2] at s; cases s
    | ok b ρ2 h2 =>
      rw [q2] at s
      cases b with
      | false =>
        cases s
        have this : ∀ o : Option (List PyData × Hand), o = o.map (fun q => (consO none q.1, q.2)) := fun o => by cases o <;> rfl
        exact this _
      | true =>
        have s : (e ρ2 h2).bd (.mk fun p ρ h => .ok (some p.2) ρ h) = .ok o ρ h' := s
        dsimp only
        cases q3 : e ρ2 h2 with
        | exc k ρ h => rw [q3] at s; cases s
        | fail => rw [q3] at s; cases s
        | ok p ρ3 h3 =>
          rw [q3] at s
          cases s
          rfl
/-- a comprehension that leaves the hand -/
theorem compL_fm {ρ0 : Env} {t : Tg} {c : M Bool} {e : M (Bool × PyData)} {h : Hand} (g : PyData → Option PyData) : ∀ {xs : List PyData}, (∀ x ∈ xs, (stp ρ0 t c e x h).is (g x) h) → compL ρ0 t c e xs h = some (xs.filterMap g, h)
  | [], _ => rfl
  | x :: xs, s => by
    rw [compL_stp (s x (List.mem_cons_self ..)), compL_fm g fun y hy => s y (List.mem_cons_of_mem _ hy), List.filterMap_cons]
    cases g x <;> rfl
theorem compL_mf {α : Type} {ρ0 : Env} {t : Tg} {c : M Bool} {e : M (Bool × PyData)} {h : Hand} (f : α → PyData) (g : α → Option PyData) : ∀ {xs : List α}, (∀ x ∈ xs, (stp ρ0 t c e (f x) h).is (g x) h) → compL ρ0 t c e (xs.map f) h = some (xs.filterMap g, h)
  | [], _ => rfl
  | x :: xs, s => by
    rw [List.map_cons, compL_stp (s x (List.mem_cons_self ..)), compL_mf f g fun y hy => s y (List.mem_cons_of_mem _ hy), List.filterMap_cons]
    cases g x <;> rfl
theorem compL_mm {α : Type} {ρ0 : Env} {t : Tg} {c : M Bool} {e : M (Bool × PyData)} {h : Hand} (f g : α → PyData) {xs : List α} (s : ∀ x ∈ xs, (stp ρ0 t c e (f x) h).is (some (g x)) h) : compL ρ0 t c e (xs.map f) h = some (xs.map g, h) := by
  rw [compL_mf f (fun x => some (g x)) s, List.filterMap_eq_map']
/-- two lists, one by one -/
inductive F2 {α β : Type} (R : α → β → Prop) : List α → List β → Prop
  | nil : F2 R [] []
  | cons {a : α} {b : β} {as : List α} {bs : List β} : R a b → F2 R as bs → F2 R (a :: as) (b :: bs)
theorem F2.len {α β : Type} {R : α → β → Prop} {as : List α} {bs : List β} (f : F2 R as bs) : as.length = bs.length := by
  induction f with
  | nil => rfl
  | cons _ _ ih => simp [ih]
/-- .. that draws from it -/
theorem compL_st {ρ0 : Env} {t : Tg} {c : M Bool} {e : M (Bool × PyData)} (I : Hand → Prop) (R : PyData → PyData → Prop) : ∀ {xs : List PyData} {h : Hand}, I h → (∀ x ∈ xs, ∀ h, I h → ∃ d h', (stp ρ0 t c e x h).is (some d) h' ∧ I h' ∧ R x d) → ∃ ds h', compL ρ0 t c e xs h = some (ds, h') ∧ I h' ∧ F2 R xs ds
  | [], h, i, _ => ⟨[], h, rfl, i, .nil⟩
  | x :: xs, h, i, s => by
    obtain ⟨d, h1, s1, i1, r1⟩ := s x (List.mem_cons_self ..) h i
    obtain ⟨ds, h2, e2, i2, r2⟩ := compL_st I R i1 fun y hy => s y (List.mem_cons_of_mem _ hy)
    refine ⟨d :: ds, h2, ?_, i2, .cons r1 r2⟩
    rw [compL_stp s1, e2]
    rfl
@[simp] theorem lend_nil : lend [] = [] := rfl
@[simp] theorem lend_cons {s : Sl} {ρ : Env} : lend (s :: ρ) = lendS s :: lend ρ := rfl
@[simp] theorem lendS_sh {d : PyData} : lendS (.sh d) = .sh d := rfl
@[simp] theorem lendS_own {d : PyData} : lendS (.own d) = .bor d := rfl
@[simp] theorem lendS_bor {d : PyData} : lendS (.bor d) = .bor d := rfl
@[simp] theorem lendS_non : lendS .non = .non := rfl
@[simp] theorem lendS_hnd : lendS .hnd = .hnd := rfl
@[simp] theorem lendS_fn {k : Nat} : lendS (.fn k) = .fn k := rfl
@[simp] theorem lendS_scr {k : List PyData} : lendS (.scr k) = .scr k := rfl
@[simp] theorem lendS_exc {k : Nat} : lendS (.exc k) = .exc k := rfl
@[simp] theorem wipe_nil {ρ : Env} : wipeE ρ [] = ρ := rfl
@[simp] theorem wipe_cons {ρ : Env} {i : Nat} {r : List Nat} : wipeE ρ (i :: r) = wipeE (ρ.set i .non) r := rfl
@[simp] theorem bindT_nm {i : Nat} {d : PyData} {ρ : Env} : bindT (.nm i) d ρ = some (ρ.set i (.sh d)) := by unfold bindT; rfl
@[simp] theorem bindT_tp {ts : Tgs} {ds : List PyData} {ρ : Env} : bindT (.tp ts) (.tuple ds) ρ = bindTs ts ds ρ := by unfold bindT; rfl
@[simp] theorem bindTs_nil {ρ : Env} : bindTs .nil [] ρ = some ρ := by unfold bindTs; rfl
@[simp] theorem bindTs_cons {t : Tg} {r : Tgs} {d : PyData} {ds : List PyData} {ρ : Env} : bindTs (.cons t r) (d :: ds) ρ = (bindT t d ρ).bind (bindTs r ds) := by rw [bindTs]
@[simp] theorem getC_val {ρ : Env} {h : Hand} {d : PyData} : getC ρ h (.val d) = some d := rfl
@[simp] theorem getC_sl {ρ : Env} {h : Hand} {i : Nat} : getC ρ h (.sl i) = (match ρ[i]? with
    | some (.scr ds) => some (.list ds)
    | _ => getP ρ h (.sl i)) := rfl
@[simp] theorem getI_val {o : Bool} {ρ : Env} {d : PyData} : getI o ρ (.val d) = some d := rfl
@[simp] theorem getI_sl {o : Bool} {ρ : Env} {i : Nat} : getI o ρ (.sl i) = (match ρ[i]? with
    | some (.sh d) => some d
    | some (.own d) => if o then some d else none
    | some (.bor d) => some d
    | _ => none) := rfl
@[simp] theorem items_list {xs : List PyData} : items (.list xs) = some xs := rfl
@[simp] theorem items_tup {xs : List PyData} : items (.tuple xs) = some xs := rfl
@[simp] theorem slc_list {xs : List PyData} {a b : Option Int} : slc (.list xs) a b = some (true, .list (cut xs a b)) := rfl
@[simp] theorem slc_tup {xs : List PyData} {a b : Option Int} : slc (.tuple xs) a b = some (false, .tuple (cut xs a b)) := rfl
@[simp] theorem crE_ok {ρ : Env} {fr : Bool} {d : PyData} {h : Hand} : crE ρ (.ok fr d h) = .ok (fr, d) ρ h := rfl
@[simp] theorem crE_exc {ρ : Env} {c : Nat} {h : Hand} : crE ρ (.exc c h) = .exc c ρ h := rfl
@[simp] theorem getAs_nil {ρ : Env} : getAs ρ [] = some [] := rfl
@[simp] theorem getAs_cons {ρ : Env} {p : PreA} {r : List PreA} : getAs ρ (p :: r) = (match getA ρ p, getAs ρ r with
    | some d, some ds => some (d :: ds)
    | _, _ => none) := rfl
@[simp] theorem getA_val {ρ : Env} {d : PyData} : getA ρ (.val d) = some (.sh d) := rfl
@[simp] theorem getA_fn {ρ : Env} {k : Nat} : getA ρ (.fn k) = some (.fn k) := rfl
@[simp] theorem getA_sl {ρ : Env} {i : Nat} : getA ρ (.sl i) = (match ρ[i]? with
    | some (.sh d) => some (.sh d)
    | some (.own d) => some (.bor d)
    | some (.bor d) => some (.bor d)
    | some (.fn k) => some (.fn k)
    | some .hnd => some .hnd
    | some (.scr ds) => some (.scr ds)
    | _ => none) := rfl
@[simp] theorem argS_sh {d : PyData} : argS (.sh d) = .sh d := rfl
@[simp] theorem argS_bor {d : PyData} : argS (.bor d) = .bor d := rfl
@[simp] theorem argS_fn {d : Nat} : argS (.fn d) = .fn d := rfl
@[simp] theorem argS_hnd : argS .hnd = .hnd := rfl
@[simp] theorem argS_scr {d : List PyData} : argS (.scr d) = .scr d := rfl
/-- the hand -/
def Hd (h : List PyData) : Prop := ∃ cs a b c d, h = mkH cs a b c d ∧ HdOk cs a b c d
/-- def k of the program draws -/
def DrawAt (P : Pg) (k : Nat) : Prop := ∀ (n : Nat) (h : List PyData) (m : Int), Hd h → 0 < m → m < 1606938044258990275541962092341162602522202993782792835301376 → ∃ r h', run P (n + 1) k none [.hnd, .sh (.int m)] (some h) = .ok false (.int r) (some h') ∧ 0 ≤ r ∧ r < m ∧ Hd h'
theorem drawAt_of {P : Pg} {k : Nat} {B C D F G : Int} (hf : P.fd k = some (fDrawG B C D F G)) (kk : DrawK B D G) : DrawAt P k := fun n h m hh hm hm2 => by
  obtain ⟨cs, a, b, c, d, rfl, k1⟩ := hh
  obtain ⟨r, a', b', c', d', e, h1, h2, k2⟩ := draw_ok (C := cl P n) (C' := C) (F := F) kk k1 hm hm2
  exact ⟨r, _, by rw [run_eq hf rfl rfl]; exact e, h1, h2, _, _, _, _, _, rfl, k2⟩
theorem drawAt_of1 {P : Pg} {k : Nat} {C D F G : Int} (hf : P.fd k = some (fDraw1 C D F G)) (kk : DrawK 0 D G) : DrawAt P k := fun n h m hh hm hm2 => by
  obtain ⟨cs, a, b, c, d, rfl, k1⟩ := hh
  obtain ⟨r, a', b', c', d', e, h1, h2, k2⟩ := draw_ok1 (C := cl P n) (C' := C) (F := F) kk k1 hm hm2
  exact ⟨r, _, by rw [run_eq hf rfl rfl]; exact e, h1, h2, _, _, _, _, _, rfl, k2⟩
theorem draw_runW {P : Pg} {n k : Nat} {h : List PyData} {m : Int} (hf : DrawAt P k) (hh : Hd h) (hm : 0 < m) (hm2 : m < 1606938044258990275541962092341162602522202993782792835301376) : ∃ r h', run P (n + 1) k none [.hnd, .sh (.int m)] (some h) = .ok false (.int r) (some h') ∧ 0 ≤ r ∧ r < m ∧ Hd h' := hf n h m hh hm hm2
theorem draw_run {P : Pg} {n k : Nat} {h : List PyData} {m : Int} (hf : DrawAt P k) (hh : Hd h) (hm : 0 < m) (hm2 : m < 1073741824) : ∃ r h', run P (n + 1) k none [.hnd, .sh (.int m)] (some h) = .ok false (.int r) (some h') ∧ 0 ≤ r ∧ r < m ∧ Hd h' := hf n h m hh hm (by omega)
def fHandG (A B : Int) : Fd := ⟨1, 3, (.cons (.asg (.nm 1) (.comp [2] (.nm 2) (.val (.slc (.var 0) .no (.so (.int 63)))) .no (.bfn .abs (.cons (.bfn .int (.cons (.var 2) .nil)) .nil)))) (.cons (.ret (.lst (.cons (.var 1) (.cons (.int 0) (.cons (.int 0) (.cons (.bin .add (.int A) (.bin .mul (.int B) (.bfn .len (.cons (.var 1) .nil)))) (.cons (.int 0) .nil))))))) .nil)), []⟩
theorem cut_map {α β : Type} {f : α → β} {xs : List α} {a b : Option Int} : cut (xs.map f) a b = (cut xs a b).map f := by
  unfold cut
  simp [List.map_take, List.map_drop]
theorem hand_of {P : Pg} {n k : Nat} {A B : Int} (hB : B.natAbs < 18446744073709551616) {ns : List Int} (hf : P.fd k = some (fHandG A B)) : ∃ h, run P (n + 1) k none [.scr (ns.map .int)] none = .ok true (.list h) none ∧ Hd h := by
  rw [run_eq hf rfl rfl]
  simp [fHandG]
  rw [cut_map, compL_mm (f := PyData.int) (g := fun i => .int (if i < 0 then -i else i)) fun i _ => by simp [stp]]
  simp [bop_mul_int, mulOk_l, hB]
  refine ⟨_, rfl, (cut ns none (some 63)).map (fun i => if i < 0 then -i else i), 0, 0, A + B * ((cut ns none (some 63)).length : Int), 0, ?_, ?_, by omega, by omega⟩
  · unfold mkH
    rw [List.map_map]
    rfl
  · intro c hc
    obtain ⟨i, _, rfl⟩ := List.mem_map.mp hc
    split <;> omega
/-- .. rests of the cells -/
def fHandM (A B M N : Int) : Fd := ⟨1, 3, (.cons (.asg (.nm 1) (.comp [2] (.nm 2) (.val (.slc (.var 0) .no (.so (.int 63)))) .no (.bin .mod (.bfn .int (.cons (.bfn .abs (.cons (.bfn .int (.cons (.var 2) .nil)) .nil)) .nil)) (.bin .pow (.int M) (.int N))))) (.cons (.ret (.lst (.cons (.var 1) (.cons (.int 0) (.cons (.int 0) (.cons (.bin .add (.int A) (.bin .mul (.int B) (.bfn .len (.cons (.var 1) .nil)))) (.cons (.int 0) .nil))))))) .nil)), []⟩
theorem hand_ofM {P : Pg} {n k : Nat} {A B M N : Int} (hB : B.natAbs < 18446744073709551616) (hM : 0 ≤ N ∧ N ≤ 1000000 ∧ M.natAbs < 18446744073709551616) (hP : 0 < M ^ N.toNat) {ns : List Int} (hf : P.fd k = some (fHandM A B M N)) : ∃ h, run P (n + 1) k none [.scr (ns.map .int)] none = .ok true (.list h) none ∧ Hd h := by
  rw [run_eq hf rfl rfl]
  have bp : bop .pow (.int M) (.int N) = some (false, .int (M ^ N.toNat)) := bop_pow_int (by simpa using hM)
  have bm := fun i => bop_mod_int (i := i) hP
  simp [fHandM]
  rw [cut_map, compL_mm (f := PyData.int) (g := fun i => .int ((if i < 0 then -i else i) % (M ^ N.toNat))) fun i _ => by simp [stp, bp, bm]]
  simp [bop_mul_int, mulOk_l, hB]
  refine ⟨_, rfl, (cut ns none (some 63)).map (fun i => (if i < 0 then -i else i) % (M ^ N.toNat)), 0, 0, A + B * ((cut ns none (some 63)).length : Int), 0, ?_, ?_, by omega, by omega⟩
  · unfold mkH
    rw [List.map_map]
    rfl
  · intro c hc
    obtain ⟨i, _, rfl⟩ := List.mem_map.mp hc
    exact Int.emod_nonneg _ (by omega)
def HandAt (P : Pg) (k : Nat) : Prop := ∀ (n : Nat) (ns : List Int), ∃ h, run P (n + 1) k none [.scr (ns.map .int)] none = .ok true (.list h) none ∧ Hd h
theorem hand_run {P : Pg} {n k : Nat} {ns : List Int} (hf : HandAt P k) : ∃ h, run P (n + 1) k none [.scr (ns.map .int)] none = .ok true (.list h) none ∧ Hd h := hf n ns
end PyD

/-! PyP5: _law_any, _law_shuffled. -/
namespace PyD
open PySem (PyData Str)
/-- a list that is handed over -/
def Lent (a : Arg) (d : PyData) : Prop := a = .sh d ∨ (a = .bor d ∧ scalar d = false)
theorem Lent.sh {d : PyData} : Lent (.sh d) d := .inl rfl
theorem Lent.borL {ds : List PyData} : Lent (.bor (.list ds)) (.list ds) := .inr ⟨rfl, rfl⟩
theorem atI_ok {α : Type} {xs : List α} {r : Int} (h : 0 ≤ r) (h2 : r < xs.length) : ∃ x, L2.atI xs r = some x ∧ x ∈ xs := by
  have hl : r.toNat < xs.length := by omega
  exact ⟨xs[r.toNat], by rw [atI_nat h hl]; simp [hl], List.getElem_mem hl⟩
def fAny (kd : Nat) : Fd := ⟨2, 2, (.cons (.ret (.idx (.var 1) (.call kd (.cons (.var 0) (.cons (.bfn .len (.cons (.var 1) .nil)) .nil))))) .nil), []⟩
theorem any_run {P : Pg} {n k kd : Nat} {h : List PyData} {a : Arg} {ds : List PyData} (hf : P.fd k = some (fAny kd)) (hd : DrawAt P kd) (hh : Hd h) (ha : Lent a (.list ds)) (h0 : 0 < ds.length) (h1 : ds.length < 1073741824) :
    ∃ x h', run P (n + 2) k none [.hnd, a] (some h) = .ok false x (some h') ∧ x ∈ ds ∧ Hd h' := by
  obtain ⟨r, h', e, r0, r1, hh'⟩ := draw_run (n := n) (m := ds.length) hd hh (by omega) (by omega)
  obtain ⟨x, ex, hx⟩ := atI_ok r0 r1
  refine ⟨x, h', ?_, hx, hh'⟩
  rw [run_eq hf rfl rfl]
  rcases ha with rfl | ⟨rfl, _⟩ <;> (simp [fAny, e, ex]; rfl)
def fShuf (kd : Nat) : Fd := ⟨2, 4, (.cons (.par [2, 3] (.cons (.bfn .list (.cons (.var 1) .nil)) (.cons (.lst .nil) .nil))) (.cons (.whl (.cmp .gt (.bfn .len (.cons (.var 2) .nil)) (.int 0)) (.cons (.app 3 (.pop1 2 (.call kd (.cons (.var 0) (.cons (.bfn .len (.cons (.var 2) .nil)) .nil))))) .nil)) (.cons (.ret (.var 3)) .nil))), []⟩
/-- a while loop that ends after at most m turns -/
theorem whlL_ok {c : M Bool} {b : MS} (I : Nat → Env → Hand → Prop) (Q : Env → Hand → Prop) (s : ∀ m ρ h, I m ρ h → (∃ ρ' h', c ρ h = .ok false ρ' h' ∧ Q ρ' h') ∨ ∃ m' ρ' h' ρ2 h2, m = m' + 1 ∧ c ρ h = .ok true ρ' h' ∧ b ρ' h' = .nx ρ2 h2 ∧ I m' ρ2 h2) :
    ∀ (N m : Nat) (ρ : Env) (h : Hand), m < N → I m ρ h → ∃ ρ' h', whlL c b N ρ h = .nx ρ' h' ∧ Q ρ' h'
  | 0, _, _, _, hN, _ => absurd hN (by omega)
  | N + 1, m, ρ, h, hN, hI => by
    rcases s m ρ h hI with ⟨ρ', h', e, q⟩ | ⟨m', ρ', h', ρ2, h2, rfl, e1, e2, hI2⟩
    · exact ⟨ρ', h', by unfold whlL; rw [e]; rfl, q⟩
    · obtain ⟨ρ3, h3, e3, q⟩ := whlL_ok I Q s N m' ρ2 h2 (by omega) hI2
      refine ⟨ρ3, h3, ?_, q⟩
      unfold whlL
      rw [e1]
      show (match b ρ' h' with
        | .nx ρ2 h2 => whlL c b N ρ2 h2
        | .ct ρ2 h2 => whlL c b N ρ2 h2
        | .brk ρ2 h2 => .nx ρ2 h2
        | r => r) = _
      rw [e2]
      exact e3
@[simp] theorem bfn_list_list {xs : List PyData} : bfn .list [.list xs] = some (true, .list xs) := rfl
@[simp] theorem bfn_list_tup {xs : List PyData} : bfn .list [.tuple xs] = some (true, .list xs) := rfl
@[simp] theorem bfn_tup_list {xs : List PyData} : bfn .tuple [.list xs] = some (false, .tuple xs) := rfl
@[simp] theorem bfn_tup_tup {xs : List PyData} : bfn .tuple [.tuple xs] = some (false, .tuple xs) := rfl
@[simp] theorem putAll_nil {ρ : Env} : putAll [] [] ρ = some ρ := rfl
@[simp] theorem putAll_cons {i : Nat} {is : List Nat} {p : Bool × PyData} {ps : List (Bool × PyData)} {ρ : Env} : putAll (i :: is) (p :: ps) ρ = putAll is ps (ρ.set i (slotOf p)) := rfl
theorem perm_erase {α : Type} : ∀ {xs : List α} {k : Nat} {y : α}, xs[k]? = some y → (y :: xs.eraseIdx k).Perm xs
  | [], k, y, h => by simp at h
  | x :: xs, 0, y, h => by
    simp at h
    subst h
    exact .refl _
  | x :: xs, k + 1, y, h => by
    have ih := perm_erase (xs := xs) (k := k) (y := y) (by simpa using h)
    rw [List.eraseIdx_cons_succ]
    exact (List.Perm.swap x y _).trans (.cons x ih)
theorem shuf_run {P : Pg} {n k kd : Nat} {h : List PyData} {a : Arg} {ds : List PyData} (hf : P.fd k = some (fShuf kd)) (hd : DrawAt P kd) (hh : Hd h) (ha : Lent a (.list ds)) (h1 : ds.length < 1000000) :
    ∃ xs h', run P (n + 2) k none [.hnd, a] (some h) = .ok true (.list xs) (some h') ∧ xs.Perm ds ∧ Hd h' := by
  rw [run_eq hf rfl rfl]
  have key : ∃ ρ' h', whlL (fun ρ h => asBool (ev (cl P (n + 1)) (.cmp .gt (.bfn .len (.cons (.var 2) .nil)) (.int 0)) ρ h)) (exs (cl P (n + 1)) none (.cons (.app 3 (.pop1 2 (.call kd (.cons (.var 0) (.cons (.bfn .len (.cons (.var 2) .nil)) .nil))))) .nil)) fuel [.hnd, argS a, .own (.list ds), .own (.list [])] (some h) = .nx ρ' h' ∧ ∃ xs h2, ρ' = [.hnd, argS a, .own (.list []), .own (.list xs)] ∧ h' = some h2 ∧ xs.Perm ds ∧ Hd h2 := by
    refine whlL_ok (fun m ρ h => ∃ xs ys h2, ρ = [.hnd, argS a, .own (.list xs), .own (.list ys)] ∧ h = some h2 ∧ m = xs.length ∧ (ys ++ xs).Perm ds ∧ Hd h2) (fun ρ' h' => ∃ xs h2, ρ' = [.hnd, argS a, .own (.list []), .own (.list xs)] ∧ h' = some h2 ∧ xs.Perm ds ∧ Hd h2) ?_ fuel ds.length _ _ (by unfold fuel; omega) ⟨ds, [], h, rfl, rfl, rfl, .refl _, hh⟩
    rintro m ρ h ⟨xs, ys, h2, rfl, rfl, rfl, pm, hh⟩
    cases xs with
    | nil => exact .inl ⟨_, _, by simp, ys, h2, rfl, rfl, by simpa using pm, hh⟩
    | cons x xs =>
      have pl := pm.length_eq
      simp at pl
      obtain ⟨r, h3, e, r0, r1, hh3⟩ := draw_run (n := n) (m := (xs.length : Int) + 1) hd hh (by omega) (by omega)
      have hl : r.toNat < (x :: xs).length := by rw [List.length_cons]; omega
      have e1 : PySem.seqIndex? r (x :: xs).length = some r.toNat := by
        unfold PySem.seqIndex?
        simp
        omega
      have e2 : rngOk r = true := by unfold rngOk; simp; omega
      have e3 := List.getElem?_eq_getElem hl
      have e4 : ys.length < big := by unfold big; omega
      refine .inr ⟨xs.length, _, _, [.hnd, argS a, .own (.list ((x :: xs).eraseIdx r.toNat)), .own (.list (ys ++ [(x :: xs)[r.toNat]]))], some h3, rfl, by simp; exact ⟨rfl, rfl⟩, ?_, _, _, h3, rfl, rfl, ?_, ?_, hh3⟩
      · simp only [List.length_cons] at e1
        simp [e, e1, e2, e4, e3]
      · rw [List.length_eraseIdx]
        simp [hl]
        omega
      · have := perm_erase (xs := x :: xs) (k := r.toNat) (List.getElem?_eq_getElem hl)
        refine List.Perm.trans ?_ pm
        rw [List.append_assoc]
        exact (List.Perm.append_left ys this)
  obtain ⟨ρ', h', e, xs, h2, rfl, rfl, pm, hh2⟩ := key
  refine ⟨xs, h2, ?_, pm, hh2⟩
  rcases ha with rfl | ⟨rfl, _⟩ <;> (simp [fShuf] at e ⊢; rw [e]; rfl)
end PyD

/-! PyP6: is_integer, is_within, is_row, is_some. -/
namespace PyD
open PySem (PyData Str)
@[simp] theorem backH_same {h : Hand} : backH h h = h := by cases h <;> rfl
@[simp] theorem backH_some {a : List PyData} {h : Hand} : backH (some a) h = h := rfl
@[simp] theorem backH_none {h : Hand} : backH none h = none := rfl
@[simp] theorem rtC_ret {h0 h : Hand} {fr : Bool} {d : PyData} : rtC h0 (.ret fr d h) = .ok fr d (backH h0 h) := rfl
@[simp] theorem rtC_nx {h0 h : Hand} {ρ : Env} : rtC h0 (.nx ρ h) = .ok false .none (backH h0 h) := rfl
@[simp] theorem rtC_exc {h0 h : Hand} {ρ : Env} {c : Nat} : rtC h0 (.exc c ρ h) = .exc c (backH h0 h) := rfl
def isI : PyData → Bool
  | .int _ => true
  | _ => false
def isW (lo hi : Int) : PyData → Bool
  | .int i => decide (lo ≤ i) && decide (i ≤ hi)
  | _ => false
def fIsInt : Fd := ⟨1, 1, (.cons (.ret (.and (.cons (.isi (.var 0) .int) (.cons (.nt (.isi (.var 0) .bool)) .nil)))) .nil), []⟩
def fWithin (kI : Nat) : Fd := ⟨3, 3, (.cons (.ret (.and (.cons (.call kI (.cons (.var 0) .nil)) (.cons (.chn .le .le (.var 1) (.var 0) (.var 2)) .nil)))) .nil), []⟩
def fRow (kW : Nat) : Fd := ⟨4, 5, (.cons (.ife (.or (.cons (.nt (.isi (.var 0) .tuple)) (.cons (.cmp .ne (.bfn .len (.cons (.var 0) .nil)) (.var 1)) .nil))) (.cons (.ret (.bl false)) .nil) .nil) (.cons (.ret (.bfn .all (.cons (.comp [4] (.nm 4) (.val (.var 0)) .no (.call kW (.cons (.var 4) (.cons (.var 2) (.cons (.var 3) .nil))))) .nil))) .nil)), []⟩
def fSome (kR : Nat) : Fd := ⟨5, 5, (.cons (.ret (.and (.cons (.isi (.var 0) .tuple) (.cons (.chn .le .le (.var 1) (.bfn .len (.cons (.var 0) .nil)) (.var 2)) (.cons (.call kR (.cons (.var 0) (.cons (.bfn .len (.cons (.var 0) .nil)) (.cons (.var 3) (.cons (.var 4) .nil))))) .nil))))) .nil), []⟩
theorem isInt_run {P : Pg} {n k : Nat} {h : Hand} {a : Arg} {d : PyData} (hf : P.fd k = some fIsInt) (ha : Lent a d) : run P (n + 1) k none [a] h = .ok false (.bool (isI d)) h := by
  rw [run_eq hf rfl rfl]
  rcases ha with rfl | ⟨rfl, _⟩ <;> cases d <;> simp [fIsInt, isTy, isI]
theorem within_run {P : Pg} {n k kI : Nat} {h : Hand} {a : Arg} {d : PyData} {lo hi : Int} (hf : P.fd k = some (fWithin kI)) (hI : P.fd kI = some fIsInt) (ha : Lent a d) : run P (n + 2) k none [a, .sh (.int lo), .sh (.int hi)] h = .ok false (.bool (isW lo hi d)) h := by
  rw [run_eq hf rfl rfl]
  have e := isInt_run (n := n) (h := h) hI ha
  rcases ha with rfl | ⟨rfl, hs⟩ <;> cases d <;> first | (cases hs; done) | (simp [fWithin, isW, isI] at e ⊢ <;> simp [e])
theorem dBools_map {α : Type} {f : α → Bool} : ∀ {xs : List α}, dBools (xs.map fun x => .bool (f x)) = some (xs.map f)
  | [] => rfl
  | x :: xs => by rw [List.map_cons, dBools, dBools_map]; rfl
theorem bfn_all {α : Type} {f : α → Bool} {xs : List α} : bfn .all [.list (xs.map fun x => .bool (f x))] = some (false, .bool (xs.all f)) := by
  show (dBools _).map _ = _
  rw [dBools_map]
  simp [List.all_map]
theorem bfn_any {α : Type} {f : α → Bool} {xs : List α} : bfn .any [.list (xs.map fun x => .bool (f x))] = some (false, .bool (xs.any f)) := by
  show (dBools _).map _ = _
  rw [dBools_map]
  simp [List.any_map]
def isRow (m lo hi : Int) : PyData → Bool
  | .tuple ds => decide ((ds.length : Int) = m) && ds.all (isW lo hi)
  | _ => false
theorem map_id_list {xs : List PyData} : xs = xs.map (fun x => x) := by simp
theorem row_run {P : Pg} {n k kW kI : Nat} {h : Hand} {a : Arg} {d : PyData} {m lo hi : Int} (hf : P.fd k = some (fRow kW)) (hW : P.fd kW = some (fWithin kI)) (hI : P.fd kI = some fIsInt) (ha : Lent a d) : run P (n + 3) k none [a, .sh (.int m), .sh (.int lo), .sh (.int hi)] h = .ok false (.bool (isRow m lo hi d)) h := by
  rw [run_eq hf rfl rfl]
  have comp : ∀ (ds : List PyData) (s1 s2 : Sl), compL [s1, s2, .sh (.int lo), .sh (.int hi), .non] (.nm 4) (evc (cl P (n + 2)) .no) (ev (cl P (n + 2)) (.call kW (.cons (.var 4) (.cons (.var 2) (.cons (.var 3) .nil))))) ds h = some (ds.map fun x => .bool (isW lo hi x), h) := fun ds s1 s2 => by
    rw [show ds = ds.map (fun x => x) by simp, compL_mm (f := fun x => x) (g := fun x => .bool (isW lo hi x)) fun x _ => by
      have e := within_run (n := n) (h := h) (lo := lo) (hi := hi) hW hI (Lent.sh (d := x))
      simp [stp, e]]
    simp
  rcases ha with rfl | ⟨rfl, hs⟩
  · cases d <;> try (simp [fRow, isRow, isTy]; done)
    rename_i ds
    by_cases hm : (ds.length : Int) = m
    · simp [fRow, isRow, isTy, hm, comp, bfn_all]
    · simp [fRow, isRow, isTy, hm, comp, bfn_all]
  · cases d <;> try (simp [fRow, isRow, isTy]; done)
    rename_i ds
    by_cases hm : (ds.length : Int) = m
    · simp [fRow, isRow, isTy, hm, comp, bfn_all]
    · simp [fRow, isRow, isTy, hm, comp, bfn_all]
def isSome (f m lo hi : Int) : PyData → Bool
  | .tuple ds => decide (f ≤ (ds.length : Int)) && decide ((ds.length : Int) ≤ m) && ds.all (isW lo hi)
  | _ => false
theorem some_run {P : Pg} {n k kR kW kI : Nat} {h : Hand} {a : Arg} {d : PyData} {f m lo hi : Int} (hf : P.fd k = some (fSome kR)) (hR : P.fd kR = some (fRow kW)) (hW : P.fd kW = some (fWithin kI)) (hI : P.fd kI = some fIsInt) (ha : Lent a d) :
    run P (n + 4) k none [a, .sh (.int f), .sh (.int m), .sh (.int lo), .sh (.int hi)] h = .ok false (.bool (isSome f m lo hi d)) h := by
  rw [run_eq hf rfl rfl]
  have e : ∀ ds : List PyData, d = .tuple ds → run P (n + 3) kR none [a, .sh (.int ds.length), .sh (.int lo), .sh (.int hi)] h = .ok false (.bool (ds.all (isW lo hi))) h := fun ds q => by
    rw [row_run (n := n) hR hW hI ha, q]
    simp [isRow]
  rcases ha with rfl | ⟨rfl, hs⟩ <;> cases d <;> try (simp [fSome, isSome, isTy]; done)
  all_goals
    rename_i ds
    have e := e ds rfl
    by_cases h1 : f ≤ (ds.length : Int) <;> by_cases h2 : (ds.length : Int) ≤ m <;> simp [fSome, isSome, isTy, h1, h2, e]
/-! ### cuts, ends -/
theorem cut_1 {α : Type} {xs : List α} : cut xs (some 1) none = xs.drop 1 := by
  unfold cut _root_.HT.sIx
  simp
  cases xs with
  | nil => rfl
  | cons x xs => simp
theorem atI_neg1 {α : Type} {xs : List α} : L2.atI xs (-1) = xs[xs.length - 1]? := by
  unfold L2.atI L2.ixN
  cases xs with
  | nil => simp
  | cons x xs =>
    have h1 : ¬ (0 : Int) ≤ -1 := by omega
    have h2 : -(((x :: xs).length : Nat) : Int) ≤ -1 := by rw [List.length_cons]; omega
    have h3 : (-1 + (((x :: xs).length : Nat) : Int)).toNat = (x :: xs).length - 1 := by rw [List.length_cons]; omega
    rw [if_neg h1, if_pos h2]
    show (x :: xs)[(-1 + (((x :: xs).length : Nat) : Int)).toNat]? = _
    rw [h3]
/-! ### loops over things -/
@[simp] theorem srcF_eq {C : Cl} {s : Src} {ρ : Env} {h : Hand} : srcF C s ρ h = evSrc C false s (frzS s ρ) h := rfl
@[simp] theorem frzS_val {e : E} {ρ : Env} : frzS (.val e) ρ = frzE e ρ := rfl
@[simp] theorem frzS_zip {a b : E} {ρ : Env} : frzS (.zip a b) ρ = frzE a (frzE b ρ) := rfl
@[simp] theorem frzS_enm {a : E} {ρ : Env} : frzS (.enm a) ρ = frzE a ρ := rfl
@[simp] theorem frzS_enz {a b : E} {ρ : Env} : frzS (.enz a b) ρ = frzE a (frzE b ρ) := rfl
@[simp] theorem frzS_rng1 {a : E} {ρ : Env} : frzS (.rng1 a) ρ = ρ := rfl
@[simp] theorem frzS_rng2 {a b : E} {ρ : Env} : frzS (.rng2 a b) ρ = ρ := rfl
@[simp] theorem frzE_var {i : Nat} {ρ : Env} : frzE (.var i) ρ = (match ρ[i]? with
    | some (.own d) => ρ.set i (.sh d)
    | _ => ρ) := rfl
@[simp] theorem frzE_glb {ρ : Env} : ∀ n, frzE (E.glb n) ρ = ρ := by intros; rfl
@[simp] theorem frzE_bin {ρ : Env} : ∀ n a b, frzE (E.bin n a b) ρ = ρ := by intros; rfl
@[simp] theorem frzE_tup {ρ : Env} : ∀ a, frzE (E.tup a) ρ = ρ := by intros; rfl
@[simp] theorem frzE_lst {ρ : Env} : ∀ a, frzE (E.lst a) ρ = ρ := by intros; rfl
@[simp] theorem frzE_idx {ρ : Env} : ∀ a b, frzE (E.idx a b) ρ = ρ := by intros; rfl
@[simp] theorem frzE_slc {ρ : Env} : ∀ a b c, frzE (E.slc a b c) ρ = ρ := by intros; rfl
@[simp] theorem frzE_call {ρ : Env} : ∀ n a, frzE (E.call n a) ρ = ρ := by intros; rfl
@[simp] theorem frzE_callv {ρ : Env} : ∀ n a, frzE (E.callv n a) ρ = ρ := by intros; rfl
@[simp] theorem frzE_bfn {ρ : Env} : ∀ n a, frzE (E.bfn n a) ρ = ρ := by intros; rfl
@[simp] theorem frzE_ife {ρ : Env} : ∀ c a b, frzE (E.ife c a b) ρ = ρ := by intros; rfl
@[simp] theorem frzE_comp {ρ : Env} : ∀ n a b c d, frzE (E.comp n a b c d) ρ = ρ := by intros; rfl
@[simp] theorem frzE_lrg {ρ : Env} : ∀ a, frzE (E.lrg a) ρ = ρ := by intros; rfl
@[simp] theorem frzE_pop0 {ρ : Env} : ∀ n, frzE (E.pop0 n) ρ = ρ := by intros; rfl
@[simp] theorem frzE_pop1 {ρ : Env} : ∀ n a, frzE (E.pop1 n a) ρ = ρ := by intros; rfl
@[simp] theorem frzE_mth1 {ρ : Env} : ∀ n a b, frzE (E.mth1 n a b) ρ = ρ := by intros; rfl
/-- one turn of a loop -/
def turn (t : Tg) (b : MS) (x : PyData) (ρ : Env) (h : Hand) : Rt := match bindT t x ρ with
  | none => .fail
  | some ρ1 => b ρ1 h
/-- a loop whose turns go on or raise -/
theorem forL_chk {t : Tg} {b : MS} {h : Hand} {c : Nat} (I : Env → Prop) (good : PyData → Bool) (s : ∀ x ρ, I ρ → (good x = true → ∃ ρ', turn t b x ρ h = .nx ρ' h ∧ I ρ') ∧ (good x = false → ∃ ρ', turn t b x ρ h = .exc c ρ' h)) :
    ∀ (xs : List PyData) (ρ : Env), I ρ → (xs.all good = true → ∃ ρ', forL t b xs ρ h = .nx ρ' h ∧ I ρ') ∧ (xs.all good = false → ∃ ρ', forL t b xs ρ h = .exc c ρ' h)
  | [], ρ, i => ⟨fun _ => ⟨ρ, rfl, i⟩, fun z => by cases z⟩
  | x :: xs, ρ, i => by
    obtain ⟨s1, s2⟩ := s x ρ i
    have e : forL t b (x :: xs) ρ h = (match turn t b x ρ h with
      | .nx ρ2 h2 => forL t b xs ρ2 h2
      | .ct ρ2 h2 => forL t b xs ρ2 h2
      | .brk ρ2 h2 => .nx ρ2 h2
      | r => r) := by
      conv => lhs; unfold forL
      unfold turn
      cases bindT t x ρ <;> rfl
    rw [e]
    cases q : good x with
    | true =>
      obtain ⟨ρ', e1, i1⟩ := s1 q
      rw [e1]
      have := forL_chk I good s xs ρ' i1
      simpa [q] using this
    | false =>
      obtain ⟨ρ', e1⟩ := s2 q
      rw [e1]
      exact ⟨fun z => by simp [q] at z, fun _ => ⟨ρ', rfl⟩⟩
/-- a loop whose turns all go on, with the hand -/
theorem forL_inv {t : Tg} {b : MS} (I : List PyData → Env → Hand → Prop) (s : ∀ x xs ρ h, I (x :: xs) ρ h → ∃ ρ' h', turn t b x ρ h = .nx ρ' h' ∧ I xs ρ' h') :
    ∀ (xs : List PyData) (ρ : Env) (h : Hand), I xs ρ h → ∃ ρ' h', forL t b xs ρ h = .nx ρ' h' ∧ I [] ρ' h'
  | [], ρ, h, i => ⟨ρ, h, rfl, i⟩
  | x :: xs, ρ, h, i => by
    obtain ⟨ρ1, h1, e1, i1⟩ := s x xs ρ h i
    obtain ⟨ρ2, h2, e2, i2⟩ := forL_inv I s xs ρ1 h1 i1
    refine ⟨ρ2, h2, ?_, i2⟩
    have e : forL t b (x :: xs) ρ h = (match turn t b x ρ h with
      | .nx ρ2 h2 => forL t b xs ρ2 h2
      | .ct ρ2 h2 => forL t b xs ρ2 h2
      | .brk ρ2 h2 => .nx ρ2 h2
      | r => r) := by
      conv => lhs; unfold forL
      unfold turn
      cases bindT t x ρ <;> rfl
    rw [e, e1]
    exact e2
theorem zipD_map {α β : Type} {f : α → PyData} {g : β → PyData} : ∀ {xs : List α} {ys : List β}, zipD (xs.map f) (ys.map g) = (xs.zip ys).map fun p => .tuple [f p.1, g p.2]
  | [], ys => by cases ys <;> rfl
  | x :: xs, [] => rfl
  | x :: xs, y :: ys => by
    show _ :: zipD (xs.map f) (ys.map g) = _
    rw [zipD_map]
    rfl
end PyD

/-! PyP7: sorted. -/
namespace PyD
open PySem (PyData Str)
theorem perm_map_inv {α β : Type} {f : α → β} {g : β → α} (hg : ∀ a, g (f a) = a) {xs : List β} {l : List α} (p : xs.Perm (l.map f)) : ∃ l' : List α, xs = l'.map f ∧ l'.Perm l := by
  refine ⟨xs.map g, ?_, ?_⟩
  · rw [List.map_map]
    refine (List.map_id xs).symm.trans (List.map_congr_left fun x hx => ?_)
    obtain ⟨a, _, rfl⟩ := List.mem_map.mp (p.mem_iff.mp hx)
    show f a = f (g (f a))
    rw [hg]
  · have := p.map g
    rw [List.map_map] at this
    refine this.trans (.of_eq ?_)
    refine (List.map_congr_left fun x _ => ?_).trans (List.map_id l)
    exact hg x
theorem sortD_int {xs : List Int} : sortD (xs.map .int) = (xs.mergeSort (fun a b => decide (a ≤ b))).map PyData.int := by
  unfold sortD
  rw [List.map_mergeSort (s := PySem.W.dataLe false id)]
  intro a _ b _
  have := congrFun (congrFun (PySem.W.dataLe_int (β := Int) id) a) b
  exact this.symm
theorem sortOk_int {xs : List Int} : sortOk (xs.map .int) = true := by
  unfold sortOk alikeB shapedB
  simp only [Bool.and_eq_true, Bool.or_eq_true, List.all_eq_true, List.mem_map]
  refine ⟨⟨?_, .inr ?_⟩, ?_⟩
  · rintro _ ⟨p, _, rfl⟩ _ ⟨q, _, rfl⟩
    rfl
  · rintro _ ⟨p, _, rfl⟩
    rfl
  · rintro _ ⟨p, _, rfl⟩
    rfl
theorem bfn_sorted_int {xs : List Int} : bfn .sorted [.list (xs.map .int)] = some (true, .list ((xs.mergeSort (fun a b => decide (a ≤ b))).map PyData.int)) := by
  show (if sortOk (xs.map .int) then some (true, PyData.list (sortD (xs.map .int))) else none) = _
  rw [sortOk_int, sortD_int]
  rfl
theorem sort_int_le {xs : List Int} : (xs.mergeSort (fun a b => decide (a ≤ b))).Pairwise (· ≤ ·) := by
  have := List.pairwise_mergeSort (le := fun a b : Int => decide (a ≤ b)) (fun a b c h1 h2 => by simp at *; omega) (fun a b => by simp; omega) xs
  exact this.imp (fun h => of_decide_eq_true h)
end PyD

/-! PyP8: pairs sorted, enumerate. -/
namespace PyD
open PySem (PyData Str)
/-- a pair of ints -/
def pD (p : Int × Int) : PyData := .tuple [.int p.1, .int p.2]
def pLe (p q : Int × Int) : Bool := decide (p.1 < q.1 ∨ (p.1 = q.1 ∧ p.2 ≤ q.2))
theorem sortD_pD {xs : List (Int × Int)} : sortD (xs.map pD) = (xs.mergeSort pLe).map pD := by
  unfold sortD
  rw [List.map_mergeSort (s := PySem.W.dataLe false id)]
  intro a _ b _
  have := congrFun (congrFun (PySem.W.dataLe_ii (β := Int × Int) (·.1) (·.2)) a) b
  exact this.symm
theorem sortOk_pD {xs : List (Int × Int)} : sortOk (xs.map pD) = true := by
  unfold sortOk alikeB shapedB
  simp only [Bool.and_eq_true, Bool.or_eq_true, List.all_eq_true, List.mem_map]
  refine ⟨⟨?_, .inl ?_⟩, ?_⟩
  · rintro _ ⟨p, _, rfl⟩ _ ⟨q, _, rfl⟩
    rfl
  · rintro _ ⟨p, _, rfl⟩
    rfl
  · rintro _ ⟨p, _, rfl⟩
    rfl
theorem bfn_sorted_pD {xs : List (Int × Int)} : bfn .sorted [.list (xs.map pD)] = some (true, .list ((xs.mergeSort pLe).map pD)) := by
  show (if sortOk (xs.map pD) then some (true, PyData.list (sortD (xs.map pD))) else none) = _
  rw [sortOk_pD, sortD_pD]
  rfl
theorem enumD_eq {α : Type} {f : α → PyData} : ∀ {xs : List α} {s : Nat}, enumD s (xs.map f) = (xs.zipIdx s).map fun p => .tuple [.int p.2, f p.1]
  | [], _ => rfl
  | x :: xs, s => by
    rw [List.map_cons, List.zipIdx_cons, List.map_cons, ← enumD_eq]
    rfl
theorem dInts_map {α : Type} {f : α → Int} : ∀ {xs : List α}, dInts (xs.map fun x => .int (f x)) = some (xs.map f)
  | [] => rfl
  | x :: xs => by rw [List.map_cons, dInts, dInts_map]; rfl
theorem bfn_sum_list {xs : List Int} : bfn .sum [.list (xs.map .int)] = some (false, .int xs.sum) := by
  show (dInts _).map _ = _
  rw [dInts_map (f := fun x => x)]
  simp
theorem bfn_sum_tup {xs : List Int} : bfn .sum [.tuple (xs.map .int)] = some (false, .int xs.sum) := by
  show (dInts _).map _ = _
  rw [dInts_map (f := fun x => x)]
  simp
end PyD

/-! PyP9: what == is told of. -/
namespace PyD
open PySem (PyData Str)
/-- can be compared; at most n deep -/
def Lv (n : Nat) (d : PyData) : Prop := d.canLay0 = true ∧ d.depth ≤ n
theorem Lv.int {i : Int} : Lv 0 (.int i) := ⟨rfl, Nat.le_refl _⟩
theorem Lv.bool {i : Bool} : Lv 0 (.bool i) := ⟨rfl, Nat.le_refl _⟩
theorem Lv.none : Lv 0 .none := ⟨rfl, Nat.le_refl _⟩
theorem Lv.str {s : Str} (h : (PyData.str s).canLay0 = true) : Lv 0 (.str s) := ⟨h, Nat.le_refl _⟩
theorem Lv.mono {n m : Nat} {d : PyData} (h : Lv n d) (l : n ≤ m) : Lv m d := ⟨h.1, Nat.le_trans h.2 l⟩
theorem Lv.all {n : Nat} : ∀ {ds : List PyData}, (∀ d ∈ ds, Lv n d) → PyData.canLayAll0 ds = true ∧ PyData.depthAll ds ≤ n
  | [], _ => ⟨rfl, Nat.zero_le _⟩
  | d :: ds, h => by
    obtain ⟨h1, h2⟩ := h d (List.mem_cons_self ..)
    obtain ⟨h3, h4⟩ := Lv.all (ds := ds) fun e he => h e (List.mem_cons_of_mem _ he)
    refine ⟨?_, ?_⟩
    · show (d.canLay0 && PyData.canLayAll0 ds) = true
      rw [h1, h3]; rfl
    · show max d.depth (PyData.depthAll ds) ≤ n
      omega
theorem Lv.list {n : Nat} {ds : List PyData} (h : ∀ d ∈ ds, Lv n d) : Lv (n + 1) (.list ds) := ⟨(Lv.all h).1, Nat.succ_le_succ (Lv.all h).2⟩
theorem Lv.tup {n : Nat} {ds : List PyData} (h : ∀ d ∈ ds, Lv n d) : Lv (n + 1) (.tuple ds) := ⟨(Lv.all h).1, Nat.succ_le_succ (Lv.all h).2⟩
theorem Lv.shaped {n : Nat} {d : PyData} (h : Lv n d) (l : n ≤ 64) : PySem.SeqAt.shaped d = true := by
  unfold PySem.SeqAt.shaped
  rw [h.1]
  simp
  exact Nat.le_trans h.2 l
theorem eqOk_lv {n m : Nat} {d e : PyData} (h : Lv n d) (k : Lv m e) (l : n ≤ 64) (l2 : m ≤ 64) : eqOk d e = true := by
  unfold eqOk
  rw [h.shaped l, k.shaped l2]
  rfl
end PyD

/-! PyP10: tellers. -/
namespace PyD
open PySem (PyData Str)
@[simp] theorem cl_sub {P : Pg} {n a b : Nat} : (cl P n).sub a b = P.sub a b := rfl
@[simp] theorem crOf_ok {p : Bool × PyData} {ρ : Env} {h : Hand} : crOf (.ok p ρ h) = .ok false p.2 h := rfl
@[simp] theorem crOf_exc {c : Nat} {ρ : Env} {h : Hand} : crOf (.exc c ρ h) = .exc c h := rfl
@[simp] theorem noX_ok {fr : Bool} {d : PyData} {h : Hand} : noX (.ok fr d h) = .ok fr d h := rfl
/-- a teller told what its call comes to -/
def saidC (P : Pg) (n k : Nat) (h : Hand) (c : Cr) : Cr := run P n k (some fun _ => c) [] h
theorem tell_at {C : Cl} {th : Hand → Cr} {r : Bool} {c i : Nat} {sb : Ss} {b : Ss} {ρ : Env} {h : Hand} (hb : ∀ ρ h, exs C (some th) b ρ h = exs C (some fun _ => th h) b ρ h) : True := trivial
@[simp] theorem cl_ft {P : Pg} {n k : Nat} {th : Hand → Cr} {h : Hand} : (cl P n).ft k th h = run P n k (some th) [] h := rfl
end PyD

/-! PyP11: _law_deep. -/
namespace PyD
open PySem (PyData Str)
def fDeep (ka kd : Nat) : Fd := ⟨1, 3, (.cons (.asg (.nm 1) (.call ka (.cons (.var 0) (.cons (.lst (.cons (.str "?") (.cons (.str "X x") .nil))) .nil)))) (.cons (.for_ (.nm 2) (.rng1 (.bin .add (.int 5) (.call kd (.cons (.var 0) (.cons (.int 20) .nil))))) (.cons (.asg (.nm 1) (.ife (.cmp .eq (.call kd (.cons (.var 0) (.cons (.int 2) .nil))) (.int 0)) (.lst (.cons (.var 1) .nil)) (.tup (.cons (.var 1) .nil)))) .nil)) (.cons (.ret (.var 1)) .nil))), []⟩
/-- what is told of a deep thing: B of texts, of what stands in a list, in a tuple -/
theorem deepP_run {P : Pg} {n k ka kd : Nat} {h : List PyData} (B : PyData → Prop) (b1 : ∀ s, B (.str s)) (b2 : ∀ d, B (.list [d])) (b3 : ∀ d, B d → B (.tuple [d])) (hf : P.fd k = some (fDeep ka kd)) (ha : P.fd ka = some (fAny kd)) (hd : DrawAt P kd) (hh : Hd h) : ∃ fr d h', run P (n + 3) k none [.hnd] (some h) = .ok fr d (some h') ∧ B d ∧ Hd h' := by
  obtain ⟨x, h1, e1, hx, hh1⟩ := any_run (n := n) (a := .sh (.list [.str "?", .str "X x"])) ha hd hh .sh (by simp) (by simp)
  have bx : B x := by
    simp at hx
    rcases hx with rfl | rfl <;> exact b1 _
  obtain ⟨r, h2, e2, r0, r1, hh2⟩ := draw_run (n := n + 1) (m := 20) hd hh1 (by omega) (by omega)
  have key := forL_inv (t := .nm 2) (b := exs (cl P (n + 2)) none (.cons (.asg (.nm 1) (.ife (.cmp .eq (.call kd (.cons (.var 0) (.cons (.int 2) .nil))) (.int 0)) (.lst (.cons (.var 1) .nil)) (.tup (.cons (.var 1) .nil)))) .nil))
    (fun _ ρ h => ∃ d s2 h', (ρ = [.hnd, .sh d, s2] ∨ ρ = [.hnd, .own d, s2]) ∧ h = some h' ∧ B d ∧ Hd h') (fun y ys ρ h i => by
      obtain ⟨d, s2, h', hρ, rfl, bd, hh⟩ := i
      obtain ⟨r, h2, e2, r0, r1, hh2⟩ := draw_run (n := n + 1) (m := 2) hd hh (by omega) (by omega)
      by_cases q : r = 0
      · rcases hρ with rfl | rfl
        · exact ⟨[.hnd, .own (.list [d]), .sh y], some h2, by simp [turn, e2, q], _, _, h2, .inr rfl, rfl, b2 _, hh2⟩
        · exact ⟨[.hnd, .own (.list [d]), .sh y], some h2, by simp [turn, e2, q], _, _, h2, .inr rfl, rfl, b2 _, hh2⟩
      · rcases hρ with rfl | rfl
        · exact ⟨[.hnd, .sh (.tuple [d]), .sh y], some h2, by simp [turn, e2, q], _, _, h2, .inl rfl, rfl, b3 _ bd, hh2⟩
        · exact ⟨[.hnd, .sh (.tuple [d]), .sh y], some h2, by simp [turn, e2, q], _, _, h2, .inl rfl, rfl, b3 _ bd, hh2⟩)
    (rangeD 0 1 (5 + r).toNat) [.hnd, .sh x, .non] (some h2) ⟨x, .non, h2, .inl rfl, rfl, bx, hh2⟩
  obtain ⟨ρ', h3, e3, d, s2, h4, hρ, rfl, bd, hh4⟩ := key
  have g : rngOk (5 + r) = true := by unfold rngOk; simp; omega
  have g2 : 5 + r ≤ 16777216 := by omega
  rw [run_eq hf rfl rfl]
  rcases hρ with rfl | rfl
  · exact ⟨false, d, h4, by simp [fDeep, e1, e2, g, g2, e3], bd, hh4⟩
  · exact ⟨true, d, h4, by simp [fDeep, e1, e2, g, g2, e3], bd, hh4⟩
/-- no number, no tuple of numbers -/
def NoI (d : PyData) : Prop := (∀ lo hi, isW lo hi d = false) ∧ ∀ f m lo hi, isSome f m lo hi d = false
theorem NoI.str (s : Str) : NoI (.str s) := ⟨fun _ _ => rfl, fun _ _ _ _ => rfl⟩
theorem NoI.list (xs : List PyData) : NoI (.list xs) := ⟨fun _ _ => rfl, fun _ _ _ _ => rfl⟩
theorem NoI.tup (d : PyData) (h : NoI d) : NoI (.tuple [d]) := ⟨fun _ _ => rfl, fun f m lo hi => by
  show (_ && (isW lo hi d && true)) = false
  rw [h.1]
  simp⟩
theorem deep_run {P : Pg} {n k ka kd : Nat} {h : List PyData} (hf : P.fd k = some (fDeep ka kd)) (ha : P.fd ka = some (fAny kd)) (hd : DrawAt P kd) (hh : Hd h) : ∃ fr d h', run P (n + 3) k none [.hnd] (some h) = .ok fr d (some h') ∧ NoI d ∧ Hd h' := deepP_run NoI NoI.str (fun _ => NoI.list _) NoI.tup hf ha hd hh
end PyD

/-! PyP12: what the plain proofs of laws share. -/
namespace PyD
open PySem (PyData Str)
@[simp] theorem bfn_max2 {i j : Int} : bfn .max [.int i, .int j] = some (false, .int (if j > i then j else i)) := rfl
@[simp] theorem bfn_min2 {i j : Int} : bfn .min [.int i, .int j] = some (false, .int (if j < i then j else i)) := rfl
theorem isW_int {lo hi : Int} {d : PyData} (h : isW lo hi d = true) : ∃ i, d = .int i ∧ lo ≤ i ∧ i ≤ hi := by
  cases d <;> first | (cases h; done) | skip
  rename_i i
  unfold isW at h
  simp at h
  exact ⟨i, rfl, h⟩
theorem all_ints {lo hi : Int} : ∀ {ds : List PyData}, ds.all (isW lo hi) = true → ∃ is : List Int, ds = is.map .int ∧ ∀ i ∈ is, lo ≤ i ∧ i ≤ hi
  | [], _ => ⟨[], rfl, fun _ h => by cases h⟩
  | d :: ds, h => by
    rw [List.all_cons, Bool.and_eq_true] at h
    obtain ⟨i, rfl, hi⟩ := isW_int h.1
    obtain ⟨is, rfl, hr⟩ := all_ints h.2
    refine ⟨i :: is, rfl, fun j hj => ?_⟩
    rcases List.mem_cons.mp hj with rfl | hj
    · exact hi
    · exact hr j hj
theorem ints_all {lo hi : Int} {is : List Int} (h : ∀ i ∈ is, lo ≤ i ∧ i ≤ hi) : (is.map PyData.int).all (isW lo hi) = true := by
  rw [List.all_map, List.all_eq_true]
  intro i hi'
  have := h i hi'
  show (decide (lo ≤ i) && decide (i ≤ hi)) = true
  simp [this]
theorem isSome_ints {f m lo hi : Int} {is : List Int} (h1 : f ≤ is.length) (h2 : (is.length : Int) ≤ m) (h : ∀ i ∈ is, lo ≤ i ∧ i ≤ hi) : isSome f m lo hi (.tuple (is.map .int)) = true := by
  show (decide (f ≤ ((is.map PyData.int).length : Int)) && decide (((is.map PyData.int).length : Int) ≤ m) && (is.map PyData.int).all (isW lo hi)) = true
  rw [ints_all h]
  simp [h1, h2]
theorem sum_le {m : Int} : ∀ {is : List Int}, (∀ i ∈ is, 0 ≤ i ∧ i ≤ m) → 0 ≤ is.sum ∧ is.sum ≤ m * (is.length : Int)
  | [], _ => by simp
  | k :: ks, h => by
    have h1 := h k (List.mem_cons_self ..)
    obtain ⟨h2, h3⟩ := sum_le (is := ks) fun j hj => h j (List.mem_cons_of_mem _ hj)
    rw [List.sum_cons, List.length_cons]
    have e : m * ((ks.length + 1 : Nat) : Int) = m * (ks.length : Int) + m := by rw [Int.natCast_add, Int.mul_add]; simp
    omega
theorem isW_ok {lo hi i : Int} (h1 : lo ≤ i) (h2 : i ≤ hi) : isW lo hi (.int i) = true := by simp [isW, h1, h2]
theorem forL_find {α : Type} {t : Tg} {b : MS} {h : Hand} (f : α → PyData) (good : α → Bool) (v : α → PyData) (I : Env → Prop) : ∀ (xs : List α) (s : ∀ x ∈ xs, ∀ ρ, I ρ → (good x = true → turn t b (f x) ρ h = .ret false (v x) h) ∧ (good x = false → ∃ ρ', turn t b (f x) ρ h = .nx ρ' h ∧ I ρ')) (ρ : Env), I ρ →
    (∀ x, xs.find? good = some x → forL t b (xs.map f) ρ h = .ret false (v x) h) ∧ (xs.find? good = none → ∃ ρ', forL t b (xs.map f) ρ h = .nx ρ' h ∧ I ρ')
  | [], _, ρ, i => ⟨fun x z => by simp at z, fun _ => ⟨ρ, rfl, i⟩⟩
  | x :: xs, s, ρ, i => by
    obtain ⟨s1, s2⟩ := s x (List.mem_cons_self ..) ρ i
    have e : forL t b ((x :: xs).map f) ρ h = (match turn t b (f x) ρ h with
      | .nx ρ2 h2 => forL t b (xs.map f) ρ2 h2
      | .ct ρ2 h2 => forL t b (xs.map f) ρ2 h2
      | .brk ρ2 h2 => .nx ρ2 h2
      | r => r) := by
      rw [List.map_cons]
      conv => lhs; unfold forL
      unfold turn
      cases bindT t (f x) ρ <;> rfl
    rw [e, List.find?_cons]
    cases q : good x with
    | true =>
      rw [s1 q]
      exact ⟨fun y hy => by cases hy; rfl, fun z => by cases z⟩
    | false =>
      obtain ⟨ρ', e1, i1⟩ := s2 q
      rw [e1]
      exact forL_find f good v I xs (fun y hy => s y (List.mem_cons_of_mem _ hy)) ρ' i1
theorem rangeD_eq : ∀ (k : Nat) (lo : Int), rangeD lo 1 k = (List.range k).map fun (j : Nat) => PyData.int (lo + j)
  | 0, _ => rfl
  | k + 1, lo => by
    unfold rangeD
    rw [rangeD_eq k, List.range_succ_eq_map, List.map_cons, List.map_map]
    congr 1
    · simp
    · refine List.map_congr_left fun j _ => ?_
      show PyData.int (lo + 1 + (j : Int)) = PyData.int (lo + ((j + 1 : Nat) : Int))
      congr 1
      omega
theorem rangeD_0 (k : Nat) : rangeD 0 1 k = (List.range k).map fun (j : Nat) => PyData.int (j : Int) := by
  rw [rangeD_eq]
  exact List.map_congr_left fun j _ => by simp
theorem fm_filter {α β : Type} {p : α → Bool} {g : α → β} : ∀ {xs : List α}, (xs.filterMap fun x => if p x then some (g x) else none) = (xs.filter p).map g
  | [] => rfl
  | x :: xs => by
    rw [List.filterMap_cons, List.filter_cons, fm_filter]
    cases p x <;> rfl
theorem filterMap_int {α : Type} {c : α → Bool} {f : α → Int} {xs : List α} : (xs.filterMap fun x => if c x then some (PyData.int (f x)) else none) = (xs.filterMap fun x => if c x then some (f x) else none).map PyData.int := by
  induction xs with
  | nil => rfl
  | cons x xs ih => cases q : c x <;> simp [List.filterMap_cons, q, ih]
theorem find_filter {α : Type} {p : α → Bool} : ∀ {xs : List α}, xs.find? p = (xs.filter p)[0]?
  | [] => rfl
  | x :: xs => by
    rw [List.find?_cons, List.filter_cons]
    cases q : p x with
    | true => rfl
    | false => exact find_filter
theorem ne_same {n : Nat} {d : PyData} (h : Lv n d) (l : n ≤ 64) : cop .ne d d = some false := by
  show (if eqOk d d then some (!PyData.eqv d d) else none) = _
  rw [eqOk_lv h h l l, PySem.SeqAt.eqv_refl d h.1]
  rfl
theorem eq_same {n : Nat} {d : PyData} (h : Lv n d) (l : n ≤ 64) : cop .eq d d = some true := by
  show (if eqOk d d then some (PyData.eqv d d) else none) = _
  rw [eqOk_lv h h l l, PySem.SeqAt.eqv_refl d h.1]
  rfl
theorem eq_shown {d : PyData} (h : reprOk d = true) : cop .eq (.str d.shown) (.str d.shown) = some true := by
  unfold reprOk at h
  rw [Bool.and_eq_true] at h
  exact eq_same (n := 0) (Lv.str h.2) (by omega)
theorem bfn_repr {d : PyData} (h : reprOk d = true) : bfn .repr [d] = some (false, .str d.shown) := if_pos h
theorem lv_ints {is : List Int} : Lv 1 (.list (is.map .int)) := Lv.list fun d hd => by obtain ⟨i, _, rfl⟩ := List.mem_map.mp hd; exact Lv.int
theorem lv_intsT {is : List Int} : Lv 1 (.tuple (is.map .int)) := Lv.tup fun d hd => by obtain ⟨i, _, rfl⟩ := List.mem_map.mp hd; exact Lv.int
theorem lv_two {n : Nat} {d : PyData} (h : Lv n d) : Lv (n + 1) (.list [d, d]) := Lv.list fun e he => by simp at he; rw [he]; exact h
theorem ne_tupint {is : List Int} {i : Int} : cop .ne (.tuple (is.map .int)) (.int i) = some true := by
  show (if eqOk _ _ then some (!PyData.eqv _ _) else none) = _
  rw [eqOk_lv lv_intsT Lv.int (by omega) (by omega)]
  rfl
theorem cut_take {α : Type} {xs : List α} {r : Int} (h : 0 ≤ r) : cut xs none (some r) = xs.take r.toNat := by
  unfold cut _root_.HT.sIx
  have h1 : ¬ r < 0 := by omega
  simp [h1]
@[simp] theorem revD_list {xs : List PyData} : revD (.list xs) = some (true, .list xs.reverse) := rfl
@[simp] theorem isNoneD_none : isNoneD .none = true := rfl
@[simp] theorem isNoneD_int {i : Int} : isNoneD (.int i) = false := rfl
theorem mc1 : mop .count (.list [.bool true, .bool false]) (.bool true) = some (.int 1) := by rfl
theorem mc2 : mop .count (.list [.bool false, .bool true]) (.bool true) = some (.int 1) := by rfl
theorem mi1 : mop .index (.list [.bool true, .bool false]) (.bool true) = some (.int 0) := by rfl
theorem mi2 : mop .index (.list [.bool false, .bool true]) (.bool true) = some (.int 1) := by rfl
theorem f2_ints {lo hi : Int} {xs ds : List PyData} (f : F2 (fun _ d => ∃ i, d = .int i ∧ lo ≤ i ∧ i ≤ hi) xs ds) : ∃ is : List Int, ds = is.map .int ∧ is.length = xs.length ∧ ∀ i ∈ is, lo ≤ i ∧ i ≤ hi := by
  induction f with
  | nil => exact ⟨[], rfl, rfl, fun _ h => by cases h⟩
  | cons r _ ih =>
    obtain ⟨i, rfl, h⟩ := r
    obtain ⟨is, rfl, hl, hr⟩ := ih
    refine ⟨i :: is, rfl, by simp [hl], fun j hj => ?_⟩
    rcases List.mem_cons.mp hj with rfl | hj
    · exact h
    · exact hr j hj
@[simp] theorem revD_tup {xs : List PyData} : revD (.tuple xs) = some (false, .tuple xs.reverse) := rfl
theorem any2_run {P : Pg} {n k kd : Nat} {h : List PyData} {x y : Int} (hf : P.fd k = some (fAny kd)) (hd : DrawAt P kd) (hh : Hd h) : ∃ m h', run P (n + 2) k none [.hnd, .sh (.list [.int x, .int y])] (some h) = .ok false (.int m) (some h') ∧ (m = x ∨ m = y) ∧ Hd h' := by
  obtain ⟨d, h', e, hd, hh'⟩ := any_run (n := n) (a := .sh (.list [.int x, .int y])) hf hd hh .sh (by simp) (by simp)
  simp at hd
  rcases hd with rfl | rfl
  · exact ⟨x, h', e, .inl rfl, hh'⟩
  · exact ⟨y, h', e, .inr rfl, hh'⟩
theorem forL_nx {t : Tg} {b : MS} {x : PyData} {xs : List PyData} {ρ ρ' : Env} {h h' : Hand} (e : turn t b x ρ h = .nx ρ' h') : forL t b (x :: xs) ρ h = forL t b xs ρ' h' := by
  have e0 : forL t b (x :: xs) ρ h = (match turn t b x ρ h with
    | .nx ρ2 h2 => forL t b xs ρ2 h2
    | .ct ρ2 h2 => forL t b xs ρ2 h2
    | .brk ρ2 h2 => .nx ρ2 h2
    | r => r) := by
    conv => lhs; unfold forL
    unfold turn
    cases bindT t x ρ <;> rfl
  rw [e0, e]
theorem forL_ret {t : Tg} {b : MS} {x : PyData} {xs : List PyData} {ρ : Env} {h h' : Hand} {fr : Bool} {d : PyData} (e : turn t b x ρ h = .ret fr d h') : forL t b (x :: xs) ρ h = .ret fr d h' := by
  have e0 : forL t b (x :: xs) ρ h = (match turn t b x ρ h with
    | .nx ρ2 h2 => forL t b xs ρ2 h2
    | .ct ρ2 h2 => forL t b xs ρ2 h2
    | .brk ρ2 h2 => .nx ρ2 h2
    | r => r) := by
    conv => lhs; unfold forL
    unfold turn
    cases bindT t x ρ <;> rfl
  rw [e0, e]
theorem seq3 {C : Cl} {s : S} {r : Ss} {ρ ρ' : Env} {h h' : Hand} (e : ex C none s ρ h = .nx ρ' h') : exs C none (.cons s r) ρ h = exs C none r ρ' h' := by
  show (ex C none s ρ h).seq (exs C none r) = _
  rw [e]
  rfl
@[simp] theorem asgT_tp {ts : Tgs} {p : Bool × PyData} {ρ : Env} : asgT (.tp ts) p ρ = bindT (.tp ts) p.2 ρ := rfl
@[simp] theorem augD_add {i j : Int} : augD .add (.int i) (.int j) = some (.int (i + j)) := rfl
@[simp] theorem augD_sub {i j : Int} : augD .sub (.int i) (.int j) = some (.int (i - j)) := rfl
@[simp] theorem cl_gl {P : Pg} {n k : Nat} : (cl P n).gl k = P.gl k := rfl
theorem src_rng1_nat {C : Cl} {o : Bool} {a : E} {ρ ρ' : Env} {h h' : Hand} {m : Nat} (e : asIntR (ev C a ρ h) = .ok (m : Int) ρ' h') (hm : m ≤ 10000000) : evSrc C o (.rng1 a) ρ h = .ok (rangeD 0 1 m) ρ' h' := by
  have g : (rngOk (m : Int) && decide ((m : Int) ≤ 16777216)) = true := by
    rw [Bool.and_eq_true]
    refine ⟨?_, decide_eq_true (by omega)⟩
    unfold rngOk
    rw [Bool.and_eq_true]
    exact ⟨decide_eq_true (by omega), decide_eq_true (by omega)⟩
  rw [src_rng1, e, bd_ok, if_pos g]
  rfl
end PyD

/-! PyN1: greatest common divisors, least common multiples, numbers with given rests. -/
namespace PyD
theorem gcd_lcm_dvd (a c b : Nat) (hb : 0 < b) : Nat.gcd (Nat.lcm a c) b ∣ Nat.lcm (Nat.gcd a b) (Nat.gcd c b) := by
  have hd1 : Nat.gcd (Nat.lcm a c) b ∣ Nat.lcm a c := Nat.gcd_dvd_left _ _
  have hd2 : Nat.gcd (Nat.lcm a c) b ∣ b := Nat.gcd_dvd_right _ _
  have hd0 : 0 < Nat.gcd (Nat.lcm a c) b := Nat.gcd_pos_of_pos_right _ hb
  generalize hd : Nat.gcd (Nat.lcm a c) b = d at *
  have hg0 : 0 < Nat.gcd a d := Nat.gcd_pos_of_pos_right _ hd0
  have hh0 : 0 < Nat.gcd c d := Nat.gcd_pos_of_pos_right _ hd0
  have k1 := Nat.coprime_div_gcd_div_gcd hg0
  have k2 := Nat.coprime_div_gcd_div_gcd hh0
  have g1 : Nat.gcd a d ∣ Nat.gcd a b := Nat.dvd_gcd (Nat.gcd_dvd_left _ _) (Nat.dvd_trans (Nat.gcd_dvd_right _ _) hd2)
  have g2 : Nat.gcd c d ∣ Nat.gcd c b := Nat.dvd_gcd (Nat.gcd_dvd_left _ _) (Nat.dvd_trans (Nat.gcd_dvd_right _ _) hd2)
  have ga := Nat.gcd_dvd_left a d
  have gd := Nat.gcd_dvd_right a d
  have ha := Nat.gcd_dvd_left c d
  have hd' := Nat.gcd_dvd_right c d
  generalize hg : Nat.gcd a d = g at *
  generalize hh : Nat.gcd c d = h at *
  have hM : Nat.lcm g h ∣ d := Nat.lcm_dvd gd hd'
  have gM := Nat.dvd_lcm_left g h
  have hM' := Nat.dvd_lcm_right g h
  have hM0 : 0 < Nat.lcm g h := Nat.lcm_pos hg0 hh0
  refine Nat.dvd_trans ?_ (Nat.lcm_dvd (Nat.dvd_trans g1 (Nat.dvd_lcm_left _ _)) (Nat.dvd_trans g2 (Nat.dvd_lcm_right _ _)) : Nat.lcm g h ∣ _)
  generalize Nat.lcm g h = M at *
  obtain ⟨e, rfl⟩ := hM
  obtain ⟨a', rfl⟩ := ga
  obtain ⟨c', rfl⟩ := ha
  have l1 : Nat.lcm (g * a') (h * c') ∣ M * (a' * c') := Nat.lcm_dvd (Nat.mul_dvd_mul gM (Nat.dvd_mul_right a' c')) (Nat.mul_dvd_mul hM' (Nat.dvd_mul_left c' a'))
  have l2 : e ∣ a' * c' := Nat.dvd_of_mul_dvd_mul_left hM0 (Nat.dvd_trans hd1 l1)
  have e1 : e ∣ M * e / g := by
    obtain ⟨q, rfl⟩ := gM
    rw [Nat.mul_assoc, Nat.mul_div_cancel_left _ hg0]
    exact Nat.dvd_mul_left _ _
  have e2 : e ∣ M * e / h := by
    obtain ⟨q, rfl⟩ := hM'
    rw [Nat.mul_assoc, Nat.mul_div_cancel_left _ hh0]
    exact Nat.dvd_mul_left _ _
  rw [Nat.mul_div_cancel_left _ hg0] at k1
  rw [Nat.mul_div_cancel_left _ hh0] at k2
  have c1 : Nat.Coprime e a' := (k1.coprime_dvd_right e1).symm
  have c2 : Nat.Coprime e c' := (k2.coprime_dvd_right e2).symm
  have l3 : e ∣ c' := c1.dvd_of_dvd_mul_left l2
  have : e = 1 := c2.eq_one_of_dvd l3
  subst this
  rw [Nat.mul_one]
  exact Nat.dvd_refl _
/-- the greatest number that divides both -/
def gI (a b : Int) : Int := (Int.gcd a b : Int)
theorem gI_l (a b : Int) : gI a b ∣ a := Int.gcd_dvd_left a b
theorem gI_r (a b : Int) : gI a b ∣ b := Int.gcd_dvd_right a b
theorem gI_comm (a b : Int) : gI a b = gI b a := by unfold gI; rw [Int.gcd_comm]
theorem dvd_gI {a b c : Int} (h1 : c ∣ a) (h2 : c ∣ b) : c ∣ gI a b := Int.dvd_coe_gcd h1 h2
theorem gI_pos {a b : Int} (h : 0 < b) : 0 < gI a b := by
  have := Int.gcd_pos_of_ne_zero_right a (b := b) (by omega)
  unfold gI; omega
theorem gI_nn (a b : Int) : 0 ≤ gI a b := by unfold gI; omega
/-- found * teeth // shared(found, teeth) -/
def lI (a b : Int) : Int := a * b / gI a b
theorem lI_eq {a b : Int} (ha : 0 < a) (hb : 0 < b) : lI a b = (Int.lcm a b : Int) := by
  have h := Int.gcd_mul_lcm a b
  have h2 : ((Int.gcd a b * Int.lcm a b : Nat) : Int) = a * b := by
    rw [h, Int.natCast_mul, Int.natAbs_of_nonneg (by omega), Int.natAbs_of_nonneg (by omega)]
  unfold lI
  rw [← h2, Int.natCast_mul]
  exact Int.mul_ediv_cancel_left _ (by have := gI_pos (a := a) hb; unfold gI at this; omega)
theorem lI_pos {a b : Int} (ha : 0 < a) (hb : 0 < b) : 0 < lI a b := by
  rw [lI_eq ha hb]
  have := Int.lcm_pos (m := a) (n := b) (by omega) (by omega)
  omega
theorem lI_l {a b : Int} (ha : 0 < a) (hb : 0 < b) : a ∣ lI a b := by rw [lI_eq ha hb]; exact Int.dvd_lcm_left a b
theorem lI_r {a b : Int} (ha : 0 < a) (hb : 0 < b) : b ∣ lI a b := by rw [lI_eq ha hb]; exact Int.dvd_lcm_right a b
theorem lI_dvd {a b x : Int} (ha : 0 < a) (hb : 0 < b) (h1 : a ∣ x) (h2 : b ∣ x) : lI a b ∣ x := by rw [lI_eq ha hb]; exact Int.coe_lcm_dvd h1 h2
theorem lI_le {a b : Int} (ha : 0 < a) (hb : 0 < b) : lI a b ≤ a * b := by
  exact Int.le_of_dvd (Int.mul_pos ha hb) (lI_dvd ha hb (Int.dvd_mul_right a b) (Int.dvd_mul_left a b))
theorem gI_lI {a c b x : Int} (ha : 0 < a) (hc : 0 < c) (hb : 0 < b) (h1 : gI a b ∣ x) (h2 : gI c b ∣ x) : gI (lI a c) b ∣ x := by
  have h := gcd_lcm_dvd a.natAbs c.natAbs b.natAbs (by omega)
  rw [lI_eq ha hc]
  have e1 : gI (Int.lcm a c : Int) b = ((Nat.gcd (Nat.lcm a.natAbs c.natAbs) b.natAbs : Nat) : Int) := rfl
  rw [e1]
  refine Int.dvd_trans (Int.natCast_dvd_natCast.mpr h) ?_
  have e2 : ((Nat.lcm (Nat.gcd a.natAbs b.natAbs) (Nat.gcd c.natAbs b.natAbs) : Nat) : Int) = (Int.lcm (gI a b) (gI c b) : Int) := rfl
  rw [e2]
  exact Int.coe_lcm_dvd h1 h2
theorem bezN : ∀ a b : Nat, ∃ x y : Int, (a : Int) * x + b * y = (Nat.gcd a b : Int) := fun a b => by
  induction a, b using Nat.gcd.induction with
  | H0 n => exact ⟨0, 1, by simp⟩
  | H1 m n hm ih =>
    obtain ⟨x, y, h⟩ := ih
    rw [Nat.gcd_rec]
    refine ⟨y - (n / m : Nat) * x, x, ?_⟩
    rw [← h]
    have : (n : Int) = m * (n / m : Nat) + (n % m : Nat) := by
      have := Nat.div_add_mod n m
      exact_mod_cast this.symm
    have e := this
    generalize hq : ((n / m : Nat) : Int) = q at *
    generalize hr : ((n % m : Nat) : Int) = r at *
    rw [e]
    rw [Int.mul_sub, Int.add_mul, Int.mul_assoc]
    omega
theorem bez {a b : Int} (ha : 0 < a) (hb : 0 < b) : ∃ x y : Int, a * x + b * y = gI a b := by
  obtain ⟨x, y, h⟩ := bezN a.natAbs b.natAbs
  rw [Int.natAbs_of_nonneg (by omega), Int.natAbs_of_nonneg (by omega)] at h
  exact ⟨x, y, h⟩
/-- some step leads to the rest -/
theorem reach {x s b m : Int} (hs : 0 < s) (hb : 0 < b) (hm : 0 ≤ m ∧ m < b) (h : gI s b ∣ m - x) : ∃ t, 0 ≤ t ∧ t < b ∧ (x + t * s) % b = m := by
  obtain ⟨u, v, e⟩ := bez hs hb
  obtain ⟨k, hk⟩ := h
  refine ⟨(u * k) % b, Int.emod_nonneg _ (by omega), Int.emod_lt_of_pos _ hb, ?_⟩
  have e1 : (x + u * k % b * s) % b = (x + u * k * s) % b := by
    rw [Int.add_emod, Int.mul_emod, Int.emod_emod, ← Int.mul_emod, ← Int.add_emod]
  rw [e1]
  have e2 : x + u * k * s = m + b * (-(v * k)) := by
    have : m = x + (s * u + b * v) * k := by rw [e]; omega
    rw [this, Int.add_mul, Int.mul_neg, Int.mul_assoc, Int.mul_assoc, Int.mul_assoc, Int.mul_comm s (u * k), Int.mul_assoc]
    omega
  rw [e2, Int.add_mul_emod_self_left, Int.emod_eq_of_lt hm.1 hm.2]
theorem same_rest {x y b : Int} (h : x % b = y % b) : b ∣ x - y := by
  have e1 := Int.mul_ediv_add_emod x b
  have e2 := Int.mul_ediv_add_emod y b
  exact ⟨x / b - y / b, by rw [Int.mul_sub]; omega⟩
theorem sub_rest {x b m : Int} (h : x % b = m) : b ∣ x - m := by
  have e := Int.mul_ediv_add_emod x b
  exact ⟨x / b, by omega⟩
theorem rest_same {x y b : Int} (h : b ∣ x - y) : x % b = y % b := by
  obtain ⟨k, hk⟩ := h
  have : x = y + b * k := by omega
  rw [this, Int.add_mul_emod_self_left]
/-- the round of all -/
def rnd (bs : List Int) : Int := bs.foldl lI 1
theorem rnd_snoc (bs : List Int) (b : Int) : rnd (bs ++ [b]) = lI (rnd bs) b := by simp [rnd]
theorem fl_pos : ∀ (bs : List Int) (s : Int), 0 < s → (∀ b ∈ bs, 0 < b) → 0 < bs.foldl lI s
  | [], s, h, _ => h
  | b :: bs, s, h, hb => fl_pos bs _ (lI_pos h (hb b (by simp))) fun c hc => hb c (by simp [hc])
theorem rnd_pos {bs : List Int} (hb : ∀ b ∈ bs, 0 < b) : 0 < rnd bs := fl_pos bs 1 (by omega) hb
theorem fl_dvd : ∀ (bs : List Int) (s : Int), 0 < s → (∀ b ∈ bs, 0 < b) → s ∣ bs.foldl lI s ∧ ∀ b ∈ bs, b ∣ bs.foldl lI s
  | [], s, _, _ => ⟨Int.dvd_refl _, by simp⟩
  | b :: bs, s, h, hb => by
    have hb0 := hb b (by simp)
    obtain ⟨h1, h2⟩ := fl_dvd bs (lI s b) (lI_pos h hb0) fun c hc => hb c (by simp [hc])
    refine ⟨Int.dvd_trans (lI_l h hb0) h1, fun c hc => ?_⟩
    rcases List.mem_cons.mp hc with rfl | hc
    · exact Int.dvd_trans (lI_r h hb0) h1
    · exact h2 c hc
theorem dvd_rnd {bs : List Int} (hb : ∀ b ∈ bs, 0 < b) {b : Int} (h : b ∈ bs) : b ∣ rnd bs := (fl_dvd bs 1 (by omega) hb).2 b h
theorem dvd_fl : ∀ (bs : List Int) (s x : Int), 0 < s → (∀ b ∈ bs, 0 < b) → s ∣ x → (∀ b ∈ bs, b ∣ x) → bs.foldl lI s ∣ x
  | [], s, x, _, _, h, _ => h
  | b :: bs, s, x, h, hb, h1, h2 => dvd_fl bs _ x (lI_pos h (hb b (by simp))) (fun c hc => hb c (by simp [hc])) (lI_dvd h (hb b (by simp)) h1 (h2 b (by simp))) fun c hc => h2 c (by simp [hc])
theorem rnd_dvd {bs : List Int} (hb : ∀ b ∈ bs, 0 < b) {x : Int} (h : ∀ b ∈ bs, b ∣ x) : rnd bs ∣ x := dvd_fl bs 1 x (by omega) hb (Int.one_dvd x) h
theorem gI_fl {c z : Int} (hc : 0 < c) : ∀ (bs : List Int) (s : Int), 0 < s → (∀ b ∈ bs, 0 < b) → gI s c ∣ z → (∀ b ∈ bs, gI b c ∣ z) → gI (bs.foldl lI s) c ∣ z
  | [], s, _, _, h, _ => h
  | b :: bs, s, h, hb, h1, h2 => gI_fl hc bs _ (lI_pos h (hb b (by simp))) (fun c hc => hb c (by simp [hc])) (gI_lI h (hb b (by simp)) hc h1 (h2 b (by simp))) fun c hc => h2 c (by simp [hc])
theorem gI_one (c : Int) : gI 1 c = 1 := by simp [gI]
theorem gI_rnd {c z : Int} (hc : 0 < c) {bs : List Int} (hb : ∀ b ∈ bs, 0 < b) (h : ∀ b ∈ bs, gI b c ∣ z) : gI (rnd bs) c ∣ z := gI_fl hc bs 1 (by omega) hb (by rw [gI_one]; exact Int.one_dvd z) h
/-- x has the rests -/
def Sol (ps : List (Int × Int)) (x : Int) : Prop := ∀ p ∈ ps, x % p.1 = p.2
structure PsOk (ps : List (Int × Int)) : Prop where
  ok : ∀ p ∈ ps, 0 < p.1 ∧ 0 ≤ p.2 ∧ p.2 < p.1
abbrev rp (ps : List (Int × Int)) : Int := rnd (ps.map Prod.fst)
theorem PsOk.pos {ps : List (Int × Int)} (h : PsOk ps) : ∀ b ∈ ps.map Prod.fst, 0 < b := fun b hb => by
  obtain ⟨p, hp, rfl⟩ := List.mem_map.mp hb
  exact (h.ok p hp).1
theorem rp_pos {ps : List (Int × Int)} (h : PsOk ps) : 0 < rp ps := rnd_pos h.pos
theorem rp_snoc {ps : List (Int × Int)} {b m : Int} : rp (ps ++ [(b, m)]) = lI (rp ps) b := by unfold rp; rw [List.map_append]; exact rnd_snoc _ _
theorem sol_uniq {ps : List (Int × Int)} (h : PsOk ps) {x y : Int} (hx : Sol ps x) (hy : Sol ps y) : rp ps ∣ x - y := rnd_dvd h.pos fun b hb => by
  obtain ⟨p, hp, rfl⟩ := List.mem_map.mp hb
  exact same_rest (by rw [hx p hp, hy p hp])
theorem sol_on {ps : List (Int × Int)} (h : PsOk ps) {x y : Int} (hx : Sol ps x) (hd : rp ps ∣ y - x) : Sol ps y := fun p hp => by
  rw [← hx p hp]
  exact rest_same (Int.dvd_trans (dvd_rnd h.pos (List.mem_map.mpr ⟨p, hp, rfl⟩)) hd)
structure Lst (ps : List (Int × Int)) (c x : Int) : Prop where
  le : c ≤ x
  sol : Sol ps x
  least : ∀ y, c ≤ y → Sol ps y → x ≤ y
theorem lst_nil (c : Int) : Lst [] c c := ⟨Int.le_refl _, (fun p hp => by cases hp), fun y h _ => h⟩
theorem Lst.uniq {ps : List (Int × Int)} {c x y : Int} (h1 : Lst ps c x) (h2 : Lst ps c y) : x = y := Int.le_antisymm (h1.least y h2.le h2.sol) (h2.least x h1.le h1.sol)
theorem Lst.lt {ps : List (Int × Int)} (h : PsOk ps) {c x : Int} (l : Lst ps c x) : x < c + rp ps := by
  apply Int.lt_of_not_ge
  intro hn
  have hp := rp_pos h
  have := l.least (x - rp ps) (by omega) (sol_on h l.sol ⟨-1, by omega⟩)
  omega
theorem sol_snoc {ps : List (Int × Int)} {b m x : Int} : Sol (ps ++ [(b, m)]) x ↔ Sol ps x ∧ x % b = m := by
  unfold Sol
  constructor
  · intro h
    exact ⟨fun p hp => h p (by simp [hp]), h (b, m) (by simp)⟩
  · rintro ⟨h1, h2⟩ p hp
    rcases List.mem_append.mp hp with hp | hp
    · exact h1 p hp
    · rw [List.mem_singleton.mp hp]; exact h2
theorem step_mul {s d : Int} (hs : 0 < s) (h : s ∣ d) (hd : 0 ≤ d) : ∃ t, 0 ≤ t ∧ d = t * s := by
  obtain ⟨k, rfl⟩ := h
  refine ⟨k, ?_, Int.mul_comm _ _⟩
  apply Int.le_of_not_gt
  intro hk
  have := Int.mul_neg_of_pos_of_neg hs hk
  omega
theorem Lst.snoc {ps : List (Int × Int)} (h : PsOk ps) {c x t b m : Int} (l : Lst ps c x) (ht : 0 ≤ t) (e : (x + t * rp ps) % b = m) (hf : ∀ t', 0 ≤ t' → t' < t → (x + t' * rp ps) % b ≠ m) : Lst (ps ++ [(b, m)]) c (x + t * rp ps) := by
  have hp := rp_pos h
  have h0 : 0 ≤ t * rp ps := Int.mul_nonneg ht (by omega)
  refine ⟨by have := l.le; omega, sol_snoc.mpr ⟨sol_on h l.sol ⟨t, by rw [Int.mul_comm]; omega⟩, e⟩, fun y hy hs => ?_⟩
  obtain ⟨s1, s2⟩ := sol_snoc.mp hs
  have hxy := l.least y hy s1
  obtain ⟨t', ht', e'⟩ := step_mul hp (sol_uniq h s1 l.sol) (by omega)
  have hy' : y = x + t' * rp ps := by omega
  have : t ≤ t' := by
    apply Int.le_of_not_gt
    intro hlt
    exact hf t' ht' hlt (by rw [← hy']; exact s2)
  have := Int.mul_le_mul_of_nonneg_right this (by omega : 0 ≤ rp ps)
  omega
theorem Lst.none {ps : List (Int × Int)} (h : PsOk ps) {c x b m : Int} (hb : 0 < b) (l : Lst ps c x) (hf : ∀ t', 0 ≤ t' → t' < b → (x + t' * rp ps) % b ≠ m) : ∀ y, ¬ Sol (ps ++ [(b, m)]) y := fun y hs => by
  obtain ⟨s1, s2⟩ := sol_snoc.mp hs
  obtain ⟨k, hk⟩ := sol_uniq h s1 l.sol
  refine hf (k % b) (Int.emod_nonneg _ (by omega)) (Int.emod_lt_of_pos _ hb) ?_
  rw [← s2]
  have : y = x + k * rp ps := by rw [Int.mul_comm]; omega
  rw [this, Int.add_emod, Int.mul_emod, Int.emod_emod, ← Int.mul_emod, ← Int.add_emod]
/-- each two can stand together -/
def Agree (ps : List (Int × Int)) : Prop := ∀ p ∈ ps, ∀ q ∈ ps, gI p.1 q.1 ∣ p.2 - q.2
theorem sol_agree {ps : List (Int × Int)} {x : Int} (hx : Sol ps x) : Agree ps := fun p hp q hq => by
  have h1 : p.1 ∣ x - p.2 := sub_rest (hx p hp)
  have h2 : q.1 ∣ x - q.2 := sub_rest (hx q hq)
  have := Int.dvd_sub (Int.dvd_trans (gI_r p.1 q.1) h2) (Int.dvd_trans (gI_l p.1 q.1) h1)
  have e : x - q.2 - (x - p.2) = p.2 - q.2 := by omega
  rwa [e] at this
theorem reach_snoc {ps : List (Int × Int)} {b m x : Int} (h : PsOk (ps ++ [(b, m)])) (ha : Agree (ps ++ [(b, m)])) (hx : Sol ps x) : ∃ t, 0 ≤ t ∧ t < b ∧ (x + t * rp ps) % b = m := by
  have h1 : PsOk ps := ⟨fun p hp => h.ok p (by simp [hp])⟩
  obtain ⟨hb, hm⟩ := h.ok (b, m) (by simp)
  refine reach (rp_pos h1) hb hm (gI_rnd hb h1.pos fun c hc => ?_)
  obtain ⟨p, hp, rfl⟩ := List.mem_map.mp hc
  have e1 : p.1 ∣ x - p.2 := sub_rest (hx p hp)
  have e2 := ha p (by simp [hp]) (b, m) (by simp)
  have := Int.dvd_add e2 (Int.dvd_trans (gI_l p.1 b) e1)
  have e : p.2 - m + (x - p.2) = x - m := by omega
  rw [e] at this
  have := Int.dvd_neg.mpr this
  have e : -(x - m) = m - x := by omega
  rwa [e] at this
end PyD

/-! PyN2: lemmas that several laws share; the greatest common divisor as programs count it -/
namespace PyD
open PySem (PyData Str)
theorem eqv_int {i j : Int} : PyData.eqv (.int i) (.int j) = decide (i = j) := by
  simp [PyData.eqv]
  try rfl
theorem in_int {f : Int} {l : List Int} : cop .inn (.int f) (.list (l.map .int)) = some (decide (f ∈ l)) := by
  show (if eqOk (.int f) (.list (l.map .int)) then some ((l.map PyData.int).any fun z => PyData.eqv z (.int f)) else none) = _
  rw [eqOk_lv Lv.int lv_ints (by omega) (by omega), if_pos rfl, List.any_map]
  congr 1
  induction l with
  | nil => rfl
  | cons x l ih =>
    rw [List.any_cons, ih]
    show (PyData.eqv (.int x) (.int f) || _) = _
    rw [eqv_int]
    by_cases g : x = f
    · simp [g]
    · have g' : ¬ f = x := fun z => g z.symm
      simp [g, g']
theorem at_int {acc : List Int} {i : Int} (h0 : 0 ≤ i) (h1 : i < acc.length) : L2.atI (acc.map PyData.int) i = some (.int (acc.getD i.toNat 0)) := by
  have hl : i.toNat < acc.length := by omega
  rw [atI_nat h0 (by simpa using hl), List.getElem?_map, List.getElem?_eq_getElem hl, List.getD_eq_getElem?_getD, List.getElem?_eq_getElem hl]
  rfl
theorem big_ge {m : Nat} (hm : m ≤ 1000) : m ≤ big := by unfold big; omega
theorem bop_rep {xs : List PyData} {k : Int} (h : k < 1000000 ∧ -1000000 < k ∧ xs.length * k.toNat ≤ big) : bop .mul (.list xs) (.int k) = some (true, .list (rep xs k)) := if_pos h
theorem minOk_int {xs : List Int} : minOk (xs.map .int) = true := by
  unfold minOk alikeB shapedB
  simp only [Bool.and_eq_true, List.all_eq_true, List.mem_map]
  refine ⟨⟨?_, ?_⟩, ?_⟩
  · rintro _ ⟨p, _, rfl⟩ _ ⟨q, _, rfl⟩
    rfl
  · rintro _ ⟨p, _, rfl⟩
    rfl
  · rintro _ ⟨p, _, rfl⟩
    rfl
theorem bfn_min_int {x : Int} {xs : List Int} : bfn .min [.list (.int x :: xs.map .int)] = some (false, .int (xs.foldl min x)) := by
  show (if minOk ((x :: xs).map .int) then some (false, PySem.W.minD (.int x) (xs.map .int)) else none) = _
  rw [minOk_int, PySem.W.minD_ints]
  rfl
theorem bfn_max_int {x : Int} {xs : List Int} : bfn .max [.list (.int x :: xs.map .int)] = some (false, .int (xs.foldl max x)) := by
  show (if minOk ((x :: xs).map .int) then some (false, PySem.W.maxD (.int x) (xs.map .int)) else none) = _
  rw [minOk_int, PySem.W.maxD_ints]
  rfl
theorem fold_mem : ∀ (xs : List Int) (x : Int), xs.foldl max x ∈ x :: xs
  | [], x => by simp
  | y :: ys, x => by
    rw [List.foldl_cons]
    have := fold_mem ys (max x y)
    rcases List.mem_cons.mp this with h | h
    · rw [h]
      by_cases g : x ≤ y
      · rw [show max x y = y by omega]; simp
      · rw [show max x y = x by omega]; simp
    · simp [h]
theorem src_rng2_nat {C : Cl} {o : Bool} {a b : E} {ρ ρ' ρ2 : Env} {h h' h2 : Hand} {m : Nat} (ea : asIntR (ev C a ρ h) = .ok 1 ρ' h') (eb : asIntR (ev C b ρ' h') = .ok (m : Int) ρ2 h2) (hm : m ≤ 10000000) : evSrc C o (.rng2 a b) ρ h = .ok (rangeD 1 1 (m - 1)) ρ2 h2 := by
  have g : (rngOk 1 && rngOk (m : Int) && decide ((m : Int) - 1 ≤ 16777216)) = true := by
    rw [Bool.and_eq_true, Bool.and_eq_true]
    refine ⟨⟨rfl, ?_⟩, decide_eq_true (by omega)⟩
    unfold rngOk
    rw [Bool.and_eq_true]
    exact ⟨decide_eq_true (by omega), decide_eq_true (by omega)⟩
  have e3 : ((m : Int) - 1).toNat = m - 1 := by omega
  rw [src_rng2, ea, bd_ok, eb, bd_ok, if_pos g, e3]
theorem cut_drop {α : Type} {xs : List α} {r : Int} (h : 0 ≤ r) : cut xs (some r) none = xs.drop r.toNat := by
  unfold cut _root_.HT.sIx
  have h1 : ¬ r < 0 := by omega
  simp [h1]
  by_cases g : r.toNat ≤ xs.length
  · rw [Nat.min_eq_left g]
    exact List.take_of_length_le (by rw [List.length_drop]; omega)
  · rw [Nat.min_eq_right (by omega), List.drop_eq_nil_of_le (Nat.le_refl _), List.drop_eq_nil_of_le (by omega)]
    simp
theorem bop_tup {xs ys : List PyData} (h : xs.length + ys.length ≤ 1000) : bop .add (.tuple xs) (.tuple ys) = some (false, .tuple (xs ++ ys)) := if_pos (big_ge h)
theorem bop_lst {xs ys : List PyData} (h : xs.length + ys.length ≤ 1000) : bop .add (.list xs) (.list ys) = some (true, .list (xs ++ ys)) := if_pos (big_ge h)
theorem bne_tt : cop .ne (.bool true) (.bool true) = some false := ne_same Lv.bool (by omega)
theorem bne_ff : cop .ne (.bool false) (.bool false) = some false := ne_same Lv.bool (by omega)
theorem beq_ff : cop .eq (.bool false) (.bool false) = some true := eq_same Lv.bool (by omega)
theorem beq_tt : cop .eq (.bool true) (.bool true) = some true := eq_same Lv.bool (by omega)
theorem nin_int {f : Int} {l : List Int} : cop .nin (.int f) (.list (l.map .int)) = some (!decide (f ∈ l)) := by
  have e := in_int (f := f) (l := l)
  have e2 : cop .inn (.int f) (.list (l.map .int)) = (if eqOk (.int f) (.list (l.map .int)) then some ((l.map PyData.int).any fun z => PyData.eqv z (.int f)) else none) := rfl
  have e3 : cop .nin (.int f) (.list (l.map .int)) = (if eqOk (.int f) (.list (l.map .int)) then some (!(l.map PyData.int).any fun z => PyData.eqv z (.int f)) else none) := rfl
  rw [e2, if_pos (eqOk_lv Lv.int lv_ints (by omega) (by omega))] at e
  rw [e3, if_pos (eqOk_lv Lv.int lv_ints (by omega) (by omega)), Option.some.inj e]
theorem in_intT {f : Int} {l : List Int} : cop .inn (.int f) (.tuple (l.map .int)) = some (decide (f ∈ l)) := by
  show (if eqOk (.int f) (.tuple (l.map .int)) then some ((l.map PyData.int).any fun z => PyData.eqv z (.int f)) else none) = _
  have e := in_int (f := f) (l := l)
  have e2 : cop .inn (.int f) (.list (l.map .int)) = (if eqOk (.int f) (.list (l.map .int)) then some ((l.map PyData.int).any fun z => PyData.eqv z (.int f)) else none) := rfl
  rw [e2, if_pos (eqOk_lv Lv.int lv_ints (by omega) (by omega))] at e
  rw [if_pos (eqOk_lv Lv.int lv_intsT (by omega) (by omega))]
  exact e
theorem last_app {F : List PyData} {d : PyData} : L2.atI (F ++ [d]) (-1) = some d := by
  rw [atI_neg1]
  simp
/-- whole numbers of places -/
def nI (l : List Nat) : List PyData := l.map fun (j : Nat) => PyData.int (j : Int)
def lotD (x : List Nat) : PyData := .tuple (nI x)
def zI (x : List Nat) : List Int := x.map fun (a : Nat) => (a : Int)
theorem nI_zI (x : List Nat) : nI x = (zI x).map .int := by
  unfold nI zI
  rw [List.map_map]
  rfl
theorem zI_inj : ∀ {x y : List Nat}, zI x = zI y → x = y
  | [], [], _ => rfl
  | [], _ :: _, h => by cases h
  | _ :: _, [], h => by cases h
  | a :: x, b :: y, h => by
    unfold zI at h
    rw [List.map_cons, List.map_cons] at h
    injection h with h1 h2
    rw [zI_inj (x := x) (y := y) h2, show a = b by omega]
theorem lv_lot (x : List Nat) : Lv 1 (lotD x) := by
  unfold lotD
  rw [nI_zI]
  exact lv_intsT
theorem nin_lot {a : Nat} {x : List Nat} : cop .nin (.int (a : Int)) (lotD x) = some (!decide (a ∈ x)) := by
  unfold lotD
  rw [nI_zI]
  have e := in_intT (f := (a : Int)) (l := zI x)
  have e2 : cop .inn (.int (a : Int)) (.tuple ((zI x).map .int)) = (if eqOk (.int (a : Int)) (.tuple ((zI x).map .int)) then some (((zI x).map PyData.int).any fun z => PyData.eqv z (.int (a : Int))) else none) := rfl
  have e3 : cop .nin (.int (a : Int)) (.tuple ((zI x).map .int)) = (if eqOk (.int (a : Int)) (.tuple ((zI x).map .int)) then some (!((zI x).map PyData.int).any fun z => PyData.eqv z (.int (a : Int))) else none) := rfl
  have eo : eqOk (.int (a : Int)) (.tuple ((zI x).map .int)) = true := eqOk_lv Lv.int lv_intsT (by omega) (by omega)
  rw [e2, eo, if_pos rfl] at e
  rw [e3, eo, if_pos rfl, Option.some.inj e]
  have : decide ((a : Int) ∈ zI x) = decide (a ∈ x) := by
    rw [decide_eq_decide]
    unfold zI
    rw [List.mem_map]
    constructor
    · rintro ⟨b, hb, e⟩
      rw [show a = b by omega]
      exact hb
    · intro h
      exact ⟨a, h, rfl⟩
  rw [this]
theorem len_lot {x : List Nat} : bfn .len [lotD x] = some (false, .int (x.length : Int)) := by
  unfold lotD nI
  rw [bfn_len_tup, List.length_map]
theorem exc3 {C : Cl} {s : S} {r : Ss} {ρ ρ' : Env} {h h' : Hand} {c : Nat} (e : ex C none s ρ h = .exc c ρ' h') : exs C none (.cons s r) ρ h = .exc c ρ' h' := by
  show (ex C none s ρ h).seq _ = _
  rw [e]
  rfl
theorem ret3 {C : Cl} {s : S} {r : Ss} {ρ : Env} {h h' : Hand} {fr : Bool} {d : PyData} (e : ex C none s ρ h = .ret fr d h') : exs C none (.cons s r) ρ h = .ret fr d h' := by
  show (ex C none s ρ h).seq _ = _
  rw [e]
  rfl
theorem row_lot {x : List Nat} {m : Nat} (hx : ∀ a ∈ x, a < m) : isRow (x.length : Int) 0 ((m : Int) - 1) (.tuple (nI x)) = true := by
  show (decide (((nI x).length : Int) = (x.length : Int)) && (nI x).all (isW 0 ((m : Int) - 1))) = true
  rw [show (nI x).length = x.length by unfold nI; rw [List.length_map], decide_eq_true rfl, Bool.true_and, List.all_eq_true]
  intro d hd
  obtain ⟨a, ha, rfl⟩ := List.mem_map.mp hd
  have := hx a ha
  exact isW_ok (by omega) (by omega)
theorem len_nI {x : List Nat} : bfn .len [.tuple (nI x)] = some (false, .int (x.length : Int)) := len_lot (x := x)
theorem eq_nil {l : List Int} : cop .eq (.list (l.map .int)) (.list []) = some l.isEmpty := by
  show (if eqOk (.list (l.map .int)) (.list []) then some (PyData.eqv (.list (l.map .int)) (.list [])) else none) = _
  have eo : eqOk (.list (l.map .int)) (.list []) = true := eqOk_lv lv_ints (Lv.list (n := 0) fun d hd => (by cases hd)) (by omega) (by omega)
  rw [eo, if_pos rfl]
  cases l <;> simp [PyData.eqv, PyData.eqvAll]
theorem run_v {x y : Int} : PyData.int x = PyData.int y ↔ x = y := ⟨fun h => (by injection h), fun h => (by rw [h])⟩
theorem gI_step {a b : Int} (hb : 0 < b) : gI b (a % b) = gI a b := by
  unfold gI
  have : Int.gcd b (a % b) = Int.gcd a b := by
    have e := Int.mul_ediv_add_emod a b
    have := Int.gcd_add_mul_left_right b (a % b) (a / b)
    rw [Int.add_comm, e] at this
    rw [← this, Int.gcd_comm]
  rw [this]
theorem gI_zero {a : Int} (ha : 0 ≤ a) : gI a 0 = a := by unfold gI; rw [Int.gcd_zero]; omega
theorem gI_abs (a b : Int) : gI (if a < 0 then -a else a) (if b < 0 then -b else b) = gI a b := by
  unfold gI
  by_cases h1 : a < 0 <;> by_cases h2 : b < 0 <;> simp [h1, h2]
def fShared : Fd := ⟨2, 2, (.cons (.par [0, 1] (.cons (.bfn .abs (.cons (.var 0) .nil)) (.cons (.bfn .abs (.cons (.var 1) .nil)) .nil))) (.cons (.whl (.cmp .gt (.var 1) (.int 0)) (.cons (.par [0, 1] (.cons (.var 1) (.cons (.bin .mod (.var 0) (.var 1)) .nil))) .nil)) (.cons (.ret (.var 0)) .nil))), []⟩
def gcdC : E := (.cmp .gt (.var 1) (.int 0))
def gcdB : Ss := (.cons (.par [0, 1] (.cons (.var 1) (.cons (.bin .mod (.var 0) (.var 1)) .nil))) .nil)
theorem gcd_loop {C : Cl} {h0 : Hand} {a b : Int} (ha : 0 ≤ a) (hb : 0 ≤ b) (hb1 : b < 1000000) : whlL (fun ρ h => asBool (ev C gcdC ρ h)) (exs C none gcdB) fuel [.sh (.int a), .sh (.int b)] h0 = .nx [.sh (.int (gI a b)), .sh (.int 0)] h0 := by
  have key : ∃ ρ' h', whlL (fun ρ h => asBool (ev C gcdC ρ h)) (exs C none gcdB) fuel [.sh (.int a), .sh (.int b)] h0 = .nx ρ' h' ∧ ρ' = [.sh (.int (gI a b)), .sh (.int 0)] ∧ h' = h0 := by
    refine whlL_ok (fun m ρ h => ∃ x y : Int, ρ = [.sh (.int x), .sh (.int y)] ∧ h = h0 ∧ 0 ≤ x ∧ 0 ≤ y ∧ gI x y = gI a b ∧ y.toNat ≤ m) (fun ρ' h' => ρ' = [.sh (.int (gI a b)), .sh (.int 0)] ∧ h' = h0) ?_ fuel b.toNat _ _ (by unfold fuel; omega) ⟨a, b, rfl, rfl, ha, hb, rfl, Nat.le_refl _⟩
    rintro m ρ h ⟨x, y, rfl, rfl, hx, hy, hg, hm⟩
    by_cases g : 0 < y
    · right
      have h1 := Int.emod_nonneg x (by omega : y ≠ 0)
      have h2 := Int.emod_lt_of_pos x g
      refine ⟨m - 1, _, _, [.sh (.int y), .sh (.int (x % y))], h, by omega, by simp [gcdC, g]; exact ⟨rfl, rfl⟩, by simp [gcdB, bop_mod_int, g], ?_⟩
      exact ⟨y, x % y, rfl, rfl, hy, h1, by rw [gI_step g, hg], by omega⟩
    · left
      have : y = 0 := by omega
      subst this
      exact ⟨[.sh (.int x), .sh (.int 0)], h, by simp [gcdC], by rw [← hg, gI_zero hx], rfl⟩
  obtain ⟨ρ', h', e, rfl, rfl⟩ := key
  exact e
theorem shared_run {P : Pg} {n k : Nat} {h : Hand} {a b : Int} (hf : P.fd k = some fShared) (hb : -1000000 < b ∧ b < 1000000) : run P (n + 1) k none [.sh (.int a), .sh (.int b)] h = .ok false (.int (gI a b)) h := by
  rw [run_eq hf rfl rfl]
  have e := gcd_loop (C := cl P n) (h0 := h) (a := if a < 0 then -a else a) (b := if b < 0 then -b else b) (by split <;> omega) (by split <;> omega) (by split <;> omega)
  rw [gI_abs] at e
  have z0 : ex (cl P n) none (.par [0, 1] (.cons (.bfn .abs (.cons (.var 0) .nil)) (.cons (.bfn .abs (.cons (.var 1) .nil)) .nil))) [.sh (.int a), .sh (.int b)] h = .nx [.sh (.int (if a < 0 then -a else a)), .sh (.int (if b < 0 then -b else b))] h := by simp
  have zW : ex (cl P n) none (.whl gcdC gcdB) [.sh (.int (if a < 0 then -a else a)), .sh (.int (if b < 0 then -b else b))] h = .nx [.sh (.int (gI a b)), .sh (.int 0)] h := e
  have zR : ex (cl P n) none (.ret (.var 0)) [.sh (.int (gI a b)), .sh (.int 0)] h = .ret false (.int (gI a b)) h := by simp
  show rtC h (exs (cl P n) none (.cons (.par [0, 1] (.cons (.bfn .abs (.cons (.var 0) .nil)) (.cons (.bfn .abs (.cons (.var 1) .nil)) .nil))) (.cons (.whl gcdC gcdB) (.cons (.ret (.var 0)) .nil))) [.sh (.int a), .sh (.int b)] h) = _
  rw [seq3 z0, seq3 zW, ret3 zR]
  simp
def fPart : Fd := ⟨2, 2, (.cons (.whl (.cmp .gt (.var 1) (.int 0)) (.cons (.par [0, 1] (.cons (.var 1) (.cons (.bin .mod (.bfn .int (.cons (.var 0) .nil)) (.var 1)) .nil))) .nil)) (.cons (.ret (.var 0)) .nil)), []⟩
def prtB : Ss := (.cons (.par [0, 1] (.cons (.var 1) (.cons (.bin .mod (.bfn .int (.cons (.var 0) .nil)) (.var 1)) .nil))) .nil)
theorem prt_loop {C : Cl} {h0 : Hand} {a b : Int} (ha : 0 ≤ a) (hb : 0 ≤ b) (hb1 : b < 1000000) : whlL (fun ρ h => asBool (ev C gcdC ρ h)) (exs C none prtB) fuel [.sh (.int a), .sh (.int b)] h0 = .nx [.sh (.int (gI a b)), .sh (.int 0)] h0 := by
  have key : ∃ ρ' h', whlL (fun ρ h => asBool (ev C gcdC ρ h)) (exs C none prtB) fuel [.sh (.int a), .sh (.int b)] h0 = .nx ρ' h' ∧ ρ' = [.sh (.int (gI a b)), .sh (.int 0)] ∧ h' = h0 := by
    refine whlL_ok (fun m ρ h => ∃ x y : Int, ρ = [.sh (.int x), .sh (.int y)] ∧ h = h0 ∧ 0 ≤ x ∧ 0 ≤ y ∧ gI x y = gI a b ∧ y.toNat ≤ m) (fun ρ' h' => ρ' = [.sh (.int (gI a b)), .sh (.int 0)] ∧ h' = h0) ?_ fuel b.toNat _ _ (by unfold fuel; omega) ⟨a, b, rfl, rfl, ha, hb, rfl, Nat.le_refl _⟩
    rintro m ρ h ⟨x, y, rfl, rfl, hx, hy, hg, hm⟩
    by_cases g : 0 < y
    · right
      have h1 := Int.emod_nonneg x (by omega : y ≠ 0)
      have h2 := Int.emod_lt_of_pos x g
      refine ⟨m - 1, _, _, [.sh (.int y), .sh (.int (x % y))], h, by omega, by simp [gcdC, g]; exact ⟨rfl, rfl⟩, by simp [prtB, bop_mod_int, g], ?_⟩
      exact ⟨y, x % y, rfl, rfl, hy, h1, by rw [gI_step g, hg], by omega⟩
    · left
      have : y = 0 := by omega
      subst this
      exact ⟨[.sh (.int x), .sh (.int 0)], h, by simp [gcdC], by rw [← hg, gI_zero hx], rfl⟩
  obtain ⟨ρ', h', e, rfl, rfl⟩ := key
  exact e
theorem part_run {P : Pg} {n k : Nat} {h : Hand} {a b : Int} (hf : P.fd k = some fPart) (ha : 0 ≤ a) (hb : 0 ≤ b ∧ b < 1000000) : run P (n + 1) k none [.sh (.int a), .sh (.int b)] h = .ok false (.int (gI a b)) h := by
  rw [run_eq hf rfl rfl]
  have e := prt_loop (C := cl P n) (h0 := h) ha hb.1 hb.2
  have zW : ex (cl P n) none (.whl gcdC prtB) [.sh (.int a), .sh (.int b)] h = .nx [.sh (.int (gI a b)), .sh (.int 0)] h := e
  have zR : ex (cl P n) none (.ret (.var 0)) [.sh (.int (gI a b)), .sh (.int 0)] h = .ret false (.int (gI a b)) h := by simp
  show rtC h (exs (cl P n) none (.cons (.whl gcdC prtB) (.cons (.ret (.var 0)) .nil)) [.sh (.int a), .sh (.int b)] h) = _
  rw [seq3 zW, ret3 zR]
  simp
end PyD

/-! PyN3: groups, pairs (number, group): the least, sorted -/
namespace PyD
open PySem (PyData Str)
def lots : Nat → List (List Nat)
  | 0 => [[]]
  | k + 1 => lots k ++ (lots k).map (· ++ [k])
theorem lots_rg : ∀ (k : Nat) (x : List Nat), x ∈ lots k → (∀ a ∈ x, a < k) ∧ x.length ≤ k ∧ x.Pairwise (· < ·)
  | 0, x, h => by
    simp [lots] at h
    rw [h]
    exact ⟨fun a ha => (by cases ha), Nat.le_refl _, List.Pairwise.nil⟩
  | k + 1, x, h => by
    rcases List.mem_append.mp h with h | h
    · obtain ⟨h1, h2, h3⟩ := lots_rg k x h
      exact ⟨fun a ha => by have := h1 a ha; omega, by omega, h3⟩
    · obtain ⟨y, hy, rfl⟩ := List.mem_map.mp h
      obtain ⟨h1, h2, h3⟩ := lots_rg k y hy
      refine ⟨fun a ha => ?_, by rw [List.length_append, List.length_singleton]; omega, List.pairwise_append.mpr ⟨h3, List.pairwise_singleton .., fun a ha b hb => ?_⟩⟩
      · rcases List.mem_append.mp ha with ha | ha
        · have := h1 a ha
          omega
        · simp at ha
          omega
      · simp at hb
        have := h1 a ha
        omega
theorem lots_len : ∀ k : Nat, (lots k).length = 2 ^ k
  | 0 => rfl
  | k + 1 => by
    show (lots k ++ (lots k).map _).length = _
    rw [List.length_append, List.length_map, lots_len k]
    omega
theorem lots_small {k : Nat} (h : k ≤ 7) : (lots k).length ≤ 128 := by
  rw [lots_len]
  calc 2 ^ k ≤ 2 ^ 7 := Nat.pow_le_pow_right (by omega) h
    _ = 128 := rfl
theorem lot_app {x : List Nat} {k : Nat} (h : x.length ≤ 20) : bop .add (lotD x) (.tuple [.int (k : Int)]) = some (false, lotD (x ++ [k])) := by
  unfold lotD
  rw [bop_tup (by unfold nI; rw [List.length_map, List.length_singleton]; omega)]
  unfold nI
  rw [List.map_append]
  rfl
def qD (p : Int × List Nat) : PyData := .tuple [.int p.1, lotD p.2]
def qR (p q : Int × List Nat) : Bool := decide (p.1 < q.1 ∨ (p.1 = q.1 ∧ zI p.2 < zI q.2))
theorem eqvAll_ints : ∀ xs ys : List Int, PyData.eqvAll (xs.map .int) (ys.map .int) = decide (xs = ys)
  | [], [] => by simp [PyData.eqvAll]
  | [], _ :: _ => by simp [PyData.eqvAll]
  | _ :: _, [] => by simp [PyData.eqvAll]
  | x :: xs, y :: ys => by
    rw [List.map_cons, List.map_cons, PyData.eqvAll, eqvAll_ints xs ys, eqv_int, ← Bool.decide_and]
    simp
theorem eqv_intsT (xs ys : List Int) : PyData.eqv (.tuple (xs.map .int)) (.tuple (ys.map .int)) = decide (xs = ys) := by
  simp only [PyData.eqv]
  exact eqvAll_ints xs ys
theorem alikeAll_ints : ∀ xs ys : List Int, PySem.W.alikeAll (xs.map .int) (ys.map .int) = true
  | [], _ => by rw [List.map_nil, PySem.W.alikeAll]
  | _ :: _, [] => by rw [List.map_nil, List.map_cons, PySem.W.alikeAll]
  | x :: xs, y :: ys => by
    rw [List.map_cons, List.map_cons, PySem.W.alikeAll, alikeAll_ints xs ys, PySem.W.alike]
    rfl
theorem alike_lot (x y : List Nat) : PySem.W.alike (lotD x) (lotD y) = true := by
  unfold lotD
  rw [nI_zI, nI_zI, PySem.W.alike]
  exact alikeAll_ints _ _
theorem alike_int (i j : Int) : PySem.W.alike (.int i) (.int j) = true := by simp only [PySem.W.alike]
theorem alike_q (p q : Int × List Nat) : PySem.W.alike (qD p) (qD q) = true := by
  unfold qD
  rw [PySem.W.alike, PySem.W.alikeAll, PySem.W.alikeAll, alike_int, alike_lot, PySem.W.alikeAll]
  rfl
theorem qD_lt (p q : Int × List Nat) : PySem.W.dataLt (qD p) (qD q) = qR p q := by
  unfold qD qR
  rw [PySem.W.dataLt_pair (alike_int _ _) (alike_lot _ _), PySem.W.dataLt_int, eqv_int]
  have e1 : PyData.eqv (lotD p.2) (lotD q.2) = decide (zI p.2 = zI q.2) := by
    unfold lotD
    rw [nI_zI, nI_zI, eqv_intsT]
  have e2 : PySem.W.dataLt (lotD p.2) (lotD q.2) = decide (zI p.2 < zI q.2) := by
    unfold lotD
    rw [PySem.W.dataLt_tuple, nI_zI, nI_zI]
    exact PySem.W.dataLt_ints _ _
  rw [e1, e2]
  by_cases g : p.1 = q.1
  · rw [if_pos (decide_eq_true g)]
    by_cases g2 : zI p.2 = zI q.2
    · rw [if_pos (decide_eq_true g2)]
      symm
      apply decide_eq_false
      rintro (h | ⟨_, h⟩)
      · omega
      · rw [g2] at h
        exact List.lt_irrefl _ h
    · rw [if_neg (by simpa using g2)]
      by_cases g3 : zI p.2 < zI q.2
      · rw [decide_eq_true g3, decide_eq_true (.inr ⟨g, g3⟩)]
      · rw [decide_eq_false g3, decide_eq_false (by rintro (h | ⟨_, h⟩); omega; exact g3 h)]
  · rw [if_neg (by simpa using g)]
    by_cases g3 : p.1 < q.1
    · rw [decide_eq_true g3, decide_eq_true (.inl g3)]
    · rw [decide_eq_false g3, decide_eq_false (by rintro (h | ⟨h, _⟩); exact g3 h; exact g h)]
theorem qR_irr (p : Int × List Nat) : qR p p = false := by
  apply decide_eq_false
  rintro (h | ⟨_, h⟩)
  · omega
  · exact List.lt_irrefl _ h
theorem qR_trans {p q r : Int × List Nat} (h1 : qR p q = true) (h2 : qR q r = true) : qR p r = true := by
  have h1 := of_decide_eq_true h1
  have h2 := of_decide_eq_true h2
  apply decide_eq_true
  rcases h1 with h1 | ⟨h1, h3⟩
  · rcases h2 with h2 | ⟨h2, _⟩
    · exact .inl (by omega)
    · exact .inl (by omega)
  · rcases h2 with h2 | ⟨h2, h4⟩
    · exact .inl (by omega)
    · exact .inr ⟨by omega, List.lt_trans h3 h4⟩
theorem qR_tot {p q : Int × List Nat} (h1 : qR p q = false) (h2 : qR q p = false) : p = q := by
  have h1 := of_decide_eq_false h1
  have h2 := of_decide_eq_false h2
  have e1 : p.1 = q.1 := by
    rcases Int.lt_trichotomy p.1 q.1 with h | h | h
    · exact absurd (.inl h) h1
    · exact h
    · exact absurd (.inl h) h2
  have e2 : zI p.2 = zI q.2 := by
    have g1 : ¬ zI p.2 < zI q.2 := fun h => h1 (.inr ⟨e1, h⟩)
    have g2 : ¬ zI q.2 < zI p.2 := fun h => h2 (.inr ⟨e1.symm, h⟩)
    exact List.le_antisymm (List.not_lt.mp g2) (List.not_lt.mp g1)
  obtain ⟨a, b⟩ := p
  obtain ⟨c, d⟩ := q
  have e2 := zI_inj e2
  simp only at e1 e2
  rw [e1, e2]
def minF (x : Int × List Nat) (l : List (Int × List Nat)) : Int × List Nat := l.foldl (fun a y => if qR y a then y else a) x
theorem minF_ok : ∀ (l : List (Int × List Nat)) (x : Int × List Nat), (minF x l = x ∨ minF x l ∈ l) ∧ qR x (minF x l) = false ∧ ∀ y ∈ l, qR y (minF x l) = false
  | [], x => ⟨.inl rfl, qR_irr x, fun y hy => by cases hy⟩
  | y :: l, x => by
    obtain ⟨h1, h2, h3⟩ := minF_ok l (if qR y x then y else x)
    have em : minF x (y :: l) = minF (if qR y x then y else x) l := rfl
    rw [em]
    by_cases g : qR y x = true
    · rw [if_pos g] at h1 h2 h3 ⊢
      refine ⟨.inr (h1.elim (fun e => by rw [e]; exact List.mem_cons_self ..) (List.mem_cons_of_mem _)), ?_, fun z hz => ?_⟩
      · cases q : qR x (minF y l) with
        | false => rfl
        | true =>
          rw [qR_trans g q] at h2
          cases h2
      · rcases List.mem_cons.mp hz with rfl | hz
        · exact h2
        · exact h3 z hz
    · rw [if_neg g] at h1 h2 h3 ⊢
      refine ⟨h1.imp id (List.mem_cons_of_mem _), h2, fun z hz => ?_⟩
      rcases List.mem_cons.mp hz with rfl | hz
      · cases q : qR z (minF x l) with
        | false => rfl
        | true =>
          cases q2 : qR (minF x l) x with
          | true => exact absurd (qR_trans q q2) g
          | false =>
            rw [← qR_tot h2 q2] at q
            exact absurd q g
      · exact h3 z hz
def minQ : List (Int × List Nat) → Int × List Nat
  | [] => (0, [])
  | x :: l => minF x l
theorem minQ_ok {L : List (Int × List Nat)} (h : L ≠ []) : minQ L ∈ L ∧ ∀ y ∈ L, qR y (minQ L) = false := by
  cases L with
  | nil => exact absurd rfl h
  | cons x l =>
    obtain ⟨h1, h2, h3⟩ := minF_ok l x
    refine ⟨?_, fun y hy => ?_⟩
    · rcases h1 with h1 | h1
      · show minF x l ∈ _
        rw [h1]
        exact List.mem_cons_self ..
      · exact List.mem_cons_of_mem _ h1
    · rcases List.mem_cons.mp hy with rfl | hy
      · exact h2
      · exact h3 y hy
theorem minQ_same {L M : List (Int × List Nat)} (h : L ≠ []) (hm : ∀ x, x ∈ L ↔ x ∈ M) : minQ L = minQ M := by
  obtain ⟨a1, a2⟩ := minQ_ok h
  have hM : M ≠ [] := fun e => by
    have := (hm _).mp a1
    rw [e] at this
    cases this
  obtain ⟨b1, b2⟩ := minQ_ok hM
  exact qR_tot (b2 _ ((hm _).mp a1)) (a2 _ ((hm _).mpr b1))
theorem lv_q (p : Int × List Nat) : Lv 2 (qD p) := Lv.tup fun d hd => by
  simp only [List.mem_cons, List.not_mem_nil, or_false] at hd
  rcases hd with rfl | rfl
  · exact Lv.int.mono (by omega)
  · exact lv_lot _
theorem minOk_q {L : List (Int × List Nat)} : minOk (L.map qD) = true := by
  unfold minOk alikeB shapedB
  simp only [Bool.and_eq_true, List.all_eq_true, List.mem_map]
  refine ⟨⟨?_, ?_⟩, ?_⟩
  · rintro _ ⟨p, _, rfl⟩ _ ⟨q, _, rfl⟩
    exact alike_q p q
  · rintro _ ⟨p, _, rfl⟩
    rfl
  · rintro _ ⟨p, _, rfl⟩
    exact (lv_q p).shaped (by omega)
theorem minD_q : ∀ (l : List (Int × List Nat)) (x : Int × List Nat), PySem.W.minD (qD x) (l.map qD) = qD (minF x l)
  | [], _ => rfl
  | y :: l, x => by
    show PySem.W.minD (if PySem.W.dataLt (qD y) (qD x) then qD y else qD x) (l.map qD) = qD (minF (if qR y x then y else x) l)
    rw [qD_lt]
    by_cases g : qR y x = true
    · rw [if_pos g, if_pos g, minD_q l y]
    · rw [if_neg g, if_neg g, minD_q l x]
theorem bfn_min_q {L : List (Int × List Nat)} (h : L ≠ []) : bfn .min [.list (L.map qD)] = some (false, qD (minQ L)) := by
  cases L with
  | nil => exact absurd rfl h
  | cons x l =>
    show (if minOk ((x :: l).map qD) then some (false, PySem.W.minD (qD x) (l.map qD)) else none) = _
    rw [minOk_q, if_pos rfl, minD_q]
    rfl
theorem nil_lots : ∀ k : Nat, [] ∈ lots k
  | 0 => List.mem_cons_self ..
  | k + 1 => List.mem_append_left _ (nil_lots k)
def cmp' (m : Nat) (x : List Nat) : List Nat := (List.range m).filter fun a => !decide (a ∈ x)
theorem all_lots : ∀ k : Nat, List.range k ∈ lots k
  | 0 => List.mem_cons_self ..
  | k + 1 => by
    rw [List.range_succ]
    exact List.mem_append_right _ (List.mem_map.mpr ⟨_, all_lots k, rfl⟩)
theorem cmp_all {m : Nat} : cmp' m (List.range m) = [] := by
  unfold cmp'
  rw [List.filter_eq_nil_iff]
  intro a ha
  simp [List.mem_range.mp ha]
theorem lots_self : ∀ (k : Nat) (x : List Nat), x ∈ lots k → ((List.range k).filter fun a => decide (a ∈ x)) = x
  | 0, x, h => by
    simp [lots] at h
    rw [h]
    rfl
  | k + 1, x, h => by
    rw [List.range_succ, List.filter_append]
    rcases List.mem_append.mp h with h | h
    · have h1 := (lots_rg k x h).1
      have hk : k ∉ x := fun z => by
        have := h1 k z
        omega
      rw [lots_self k x h, List.filter_cons, if_neg (by simp [hk])]
      simp
    · obtain ⟨y, hy, rfl⟩ := List.mem_map.mp h
      have e : ((List.range k).filter fun a => decide (a ∈ y ++ [k])) = (List.range k).filter fun a => decide (a ∈ y) := by
        apply List.filter_congr
        intro a ha
        have := List.mem_range.mp ha
        rw [decide_eq_decide, List.mem_append]
        constructor
        · rintro (h | h)
          · exact h
          · simp at h
            omega
        · exact .inl
      rw [e, lots_self k y hy, List.filter_cons, if_pos (by simp)]
      rfl
theorem lots_of (p : Nat → Bool) : ∀ k : Nat, (List.range k).filter p ∈ lots k
  | 0 => List.mem_cons_self ..
  | k + 1 => by
    rw [List.range_succ, List.filter_append]
    cases h : p k with
    | true =>
      rw [List.filter_cons, if_pos h]
      exact List.mem_append_right _ (List.mem_map.mpr ⟨_, lots_of p k, rfl⟩)
    | false =>
      rw [List.filter_cons, if_neg (by simp [h]), List.filter_nil, List.append_nil]
      exact List.mem_append_left _ (lots_of p k)
theorem cmp_mem {m : Nat} {x : List Nat} : cmp' m x ∈ lots m := lots_of _ m
theorem cmp_cmp {m : Nat} {x : List Nat} (h : x ∈ lots m) : cmp' m (cmp' m x) = x := by
  refine Eq.trans ?_ (lots_self m x h)
  show (List.range m).filter (fun a => !decide (a ∈ cmp' m x)) = _
  apply List.filter_congr
  intro a ha
  unfold cmp'
  by_cases g : a ∈ x
  · rw [decide_eq_true g, decide_eq_false]
    · rfl
    · intro z
      have := (List.mem_filter.mp z).2
      simp [g] at this
  · rw [decide_eq_false g, decide_eq_true (List.mem_filter.mpr ⟨ha, by simp [g]⟩)]
    rfl
def qLe (p q : Int × List Nat) : Bool := !qR q p
theorem sortD_q {xs : List (Int × List Nat)} : sortD (xs.map qD) = (xs.mergeSort qLe).map qD := by
  unfold sortD
  rw [List.map_mergeSort (s := PySem.W.dataLe false id)]
  intro a _ b _
  rw [PySem.W.dataLe_eq]
  show qLe a b = !PySem.W.dataLt (qD b) (qD a)
  rw [qD_lt]
  rfl
theorem sortOk_q {xs : List (Int × List Nat)} : sortOk (xs.map qD) = true := by
  unfold sortOk alikeB shapedB
  simp only [Bool.and_eq_true, Bool.or_eq_true, List.all_eq_true, List.mem_map]
  refine ⟨⟨?_, .inl ?_⟩, ?_⟩
  · rintro _ ⟨p, _, rfl⟩ _ ⟨q, _, rfl⟩
    exact alike_q p q
  · rintro _ ⟨p, _, rfl⟩
    rfl
  · rintro _ ⟨p, _, rfl⟩
    first | exact (lv_q p).shaped (by omega)
theorem bfn_sorted_q {xs : List (Int × List Nat)} : bfn .sorted [.list (xs.map qD)] = some (true, .list ((xs.mergeSort qLe).map qD)) := by
  show (if sortOk (xs.map qD) then some (true, PyData.list (sortD (xs.map qD))) else none) = _
  rw [sortOk_q, sortD_q]
  rfl
/-- the first that is good in the sorted order is the least of the good ones -/
theorem find_sorted {xs : List (Int × List Nat)} {g : Int × List Nat → Bool} (h : xs.filter g ≠ []) : (xs.mergeSort qLe).find? g = some (minQ (xs.filter g)) := by
  have hs : (xs.mergeSort qLe).Pairwise fun a b => qLe a b = true := by
    refine List.pairwise_mergeSort ?_ ?_ xs
    · intro a b c h1 h2
      unfold qLe at *
      rw [Bool.not_eq_true'] at *
      cases e : qR c a with
      | false => rfl
      | true =>
        exfalso
        cases e2 : qR b c with
        | true =>
          rw [qR_trans e2 e] at h1
          cases h1
        | false =>
          have := qR_tot e2 h2
          subst this
          rw [h1] at e
          cases e
    · intro a b
      unfold qLe
      cases e : qR b a with
      | false => rfl
      | true =>
        cases e2 : qR a b with
        | false => rfl
        | true =>
          have := qR_trans e e2
          rw [qR_irr] at this
          cases this
  obtain ⟨m1, m2⟩ := minQ_ok h
  have hm := List.mem_filter.mp m1
  cases e : (xs.mergeSort qLe).find? g with
  | none =>
    have := List.find?_eq_none.mp e (minQ (xs.filter g)) (List.mem_mergeSort.mpr hm.1)
    exact absurd hm.2 this
  | some a =>
    have ga := List.find?_some e
    have am : a ∈ xs := List.mem_mergeSort.mp (List.mem_of_find?_eq_some e)
    obtain ⟨_, as, bs, e2, e3⟩ := List.find?_eq_some_iff_append.mp e
    have mm : minQ (xs.filter g) ∈ as ++ a :: bs := by rw [← e2]; exact List.mem_mergeSort.mpr hm.1
    have h1 : qR a (minQ (xs.filter g)) = false := m2 a (List.mem_filter.mpr ⟨am, ga⟩)
    rcases List.mem_append.mp mm with h2 | h2
    · have := e3 _ h2
      rw [hm.2] at this
      cases this
    · rcases List.mem_cons.mp h2 with h2 | h2
      · rw [h2]
      · rw [e2] at hs
        have h3 := (List.pairwise_append.mp hs).2.1
        have h4 := (List.pairwise_cons.mp h3).1 _ h2
        unfold qLe at h4
        rw [Bool.not_eq_true'] at h4
        rw [qR_tot h1 h4]
end PyD

/-! PyN4: fractions. -/
namespace PyD
open PySem (PyData Str)
/-! ### the greatest common divisor of great numbers -/
theorem gcd_steps {C : Cl} {h0 : Hand} {B : Ss} (hB : ∀ a b : Int, 0 < b → exs C none B [.sh (.int a), .sh (.int b)] h0 = .nx [.sh (.int b), .sh (.int (a % b))] h0) : ∀ (k : Nat) (a b : Int), 0 ≤ a → 0 ≤ b → b < 2 ^ k → ∀ N, 2 * k < N → whlL (fun ρ h => asBool (ev C gcdC ρ h)) (exs C none B) N [.sh (.int a), .sh (.int b)] h0 = .nx [.sh (.int (gI a b)), .sh (.int 0)] h0 := by
  have one : ∀ (a b : Int) (N : Nat), 0 < b → whlL (fun ρ h => asBool (ev C gcdC ρ h)) (exs C none B) (N + 1) [.sh (.int a), .sh (.int b)] h0 = whlL (fun ρ h => asBool (ev C gcdC ρ h)) (exs C none B) N [.sh (.int b), .sh (.int (a % b))] h0 := fun a b N hb => by
    have ec : asBool (ev C gcdC [.sh (.int a), .sh (.int b)] h0) = .ok true [.sh (.int a), .sh (.int b)] h0 := by simp [gcdC, hb]
    have eb : exs C none B [.sh (.int a), .sh (.int b)] h0 = .nx [.sh (.int b), .sh (.int (a % b))] h0 := hB a b hb
    conv => lhs; unfold whlL
    rw [ec]
    show (match exs C none B [.sh (.int a), .sh (.int b)] h0 with
      | .nx ρ2 h2 => whlL (fun ρ h => asBool (ev C gcdC ρ h)) (exs C none B) N ρ2 h2
      | .ct ρ2 h2 => whlL (fun ρ h => asBool (ev C gcdC ρ h)) (exs C none B) N ρ2 h2
      | .brk ρ2 h2 => .nx ρ2 h2
      | r => r) = _
    rw [eb]
  have stop : ∀ (a : Int) (N : Nat), 0 ≤ a → 0 < N → whlL (fun ρ h => asBool (ev C gcdC ρ h)) (exs C none B) N [.sh (.int a), .sh (.int 0)] h0 = .nx [.sh (.int (gI a 0)), .sh (.int 0)] h0 := fun a N ha hN => by
    obtain ⟨N, rfl⟩ : ∃ N', N = N' + 1 := ⟨N - 1, by omega⟩
    have ec : asBool (ev C gcdC [.sh (.int a), .sh (.int 0)] h0) = .ok false [.sh (.int a), .sh (.int 0)] h0 := by simp [gcdC]
    conv => lhs; unfold whlL
    rw [ec, gI_zero ha]
    rfl
  intro k
  induction k with
  | zero =>
    intro a b ha hb hk N hN
    have : b = 0 := by have : (2 : Int) ^ 0 = 1 := rfl; omega
    subst this
    exact stop a N ha (by omega)
  | succ k ih =>
    intro a b ha hb hk N hN
    by_cases h1 : b = 0
    · subst h1
      exact stop a N ha (by omega)
    obtain ⟨N, rfl⟩ : ∃ N', N = N' + 1 := ⟨N - 1, by omega⟩
    have hb0 : 0 < b := by omega
    have r0 := Int.emod_nonneg a h1
    have r1 := Int.emod_lt_of_pos a hb0
    rw [one a b N hb0]
    by_cases h2 : a % b = 0
    · rw [h2, stop b N hb (by omega), gI_zero hb]
      have := gI_step (a := a) (b := b) hb0
      rw [h2, gI_zero hb] at this
      rw [← this]
    obtain ⟨N, rfl⟩ : ∃ N', N = N' + 1 := ⟨N - 1, by omega⟩
    have hr0 : 0 < a % b := by omega
    rw [one b (a % b) N hr0]
    have s0 := Int.emod_nonneg b h2
    have s1 := Int.emod_lt_of_pos b hr0
    have half : 2 * (b % (a % b)) < b := by
      have e := Int.emod_add_mul_ediv b (a % b)
      have q1 : 1 ≤ b / (a % b) := by
        have := Int.le_ediv_iff_mul_le (a := 1) (b := b) hr0
        exact this.mpr (by omega)
      have := Int.mul_le_mul_of_nonneg_left q1 (by omega : 0 ≤ a % b)
      omega
    have hp : (2 : Int) ^ (k + 1) = 2 ^ k * 2 := Int.pow_succ 2 k
    rw [ih (a % b) (b % (a % b)) r0 s0 (by omega) N (by omega), gI_step hr0, gI_step hb0]
theorem shared_runW {P : Pg} {n k : Nat} {h : Hand} {a b : Int} (hf : P.fd k = some fShared) (hb : b.natAbs < 2 ^ 200) : run P (n + 1) k none [.sh (.int a), .sh (.int b)] h = .ok false (.int (gI a b)) h := by
  rw [run_eq hf rfl rfl]
  have e1 := gcd_steps (C := cl P n) (h0 := h) (B := gcdB) (fun a b hb => by simp [gcdB, bop_mod_int, hb]) 200 (if a < 0 then -a else a) (if b < 0 then -b else b) (by split <;> omega) (by split <;> omega) (by
    have : ((2 ^ 200 : Nat) : Int) = (2 : Int) ^ 200 := by decide
    split <;> omega) fuel (by unfold fuel; omega)
  rw [gI_abs] at e1
  have z0 : ex (cl P n) none (.par [0, 1] (.cons (.bfn .abs (.cons (.var 0) .nil)) (.cons (.bfn .abs (.cons (.var 1) .nil)) .nil))) [.sh (.int a), .sh (.int b)] h = .nx [.sh (.int (if a < 0 then -a else a)), .sh (.int (if b < 0 then -b else b))] h := by simp
  have zW : ex (cl P n) none (.whl gcdC gcdB) [.sh (.int (if a < 0 then -a else a)), .sh (.int (if b < 0 then -b else b))] h = .nx [.sh (.int (gI a b)), .sh (.int 0)] h := e1
  have zR : ex (cl P n) none (.ret (.var 0)) [.sh (.int (gI a b)), .sh (.int 0)] h = .ret false (.int (gI a b)) h := by simp
  show rtC h (exs (cl P n) none (.cons (.par [0, 1] (.cons (.bfn .abs (.cons (.var 0) .nil)) (.cons (.bfn .abs (.cons (.var 1) .nil)) .nil))) (.cons (.whl gcdC gcdB) (.cons (.ret (.var 0)) .nil))) [.sh (.int a), .sh (.int b)] h) = _
  rw [seq3 z0, seq3 zW, ret3 zR]
  simp
/-! ### fractions in lowest terms -/
def fr (a b : Int) : Int × Int := if b < 0 then (-a / gI a b, -b / gI a b) else (a / gI a b, b / gI a b)
def IsFr (p : Int × Int) : Prop := 0 < p.2 ∧ gI p.1 p.2 = 1
theorem gI_neg (a b : Int) : gI (-a) (-b) = gI a b := by unfold gI; rw [Int.neg_gcd, Int.gcd_neg]
theorem gI_pos' {a b : Int} (h : b ≠ 0) : 0 < gI a b := by
  by_cases g : 0 < b
  · exact gI_pos g
  · rw [← gI_neg]
    exact gI_pos (by omega)
theorem fr_neg {a b : Int} (h : b < 0) : fr a b = fr (-a) (-b) := by
  unfold fr
  rw [if_pos h, if_neg (by omega), gI_neg]
theorem fr_of {a b : Int} (h : 0 < b) : fr a b = (a / gI a b, b / gI a b) := by
  unfold fr
  rw [if_neg (by omega)]
theorem fr_is {a b : Int} (h : 0 < b) : IsFr (fr a b) := by
  have g := gI_pos (a := a) h
  rw [fr_of h]
  refine ⟨?_, ?_⟩
  · show 0 < b / gI a b
    exact Int.ediv_pos_of_pos_of_dvd h (by omega) (gI_r a b)
  · show gI (a / gI a b) (b / gI a b) = 1
    unfold gI at *
    have : 0 < Int.gcd a b := by omega
    have e := Int.gcd_ediv_gcd_ediv_gcd this
    rw [e]
    rfl
theorem fr_val {a b : Int} (h : 0 < b) : (fr a b).1 * b = a * (fr a b).2 := by
  rw [fr_of h]
  have ea : a / gI a b * gI a b = a := Int.ediv_mul_cancel (gI_l a b)
  have eb : b / gI a b * gI a b = b := Int.ediv_mul_cancel (gI_r a b)
  show a / gI a b * b = a * (b / gI a b)
  generalize a / gI a b = x at *
  generalize b / gI a b = y at *
  generalize gI a b = g at *
  rw [← ea, ← eb]
  grind
theorem cop_dvd {b a d : Int} (h : b ∣ a * d) (g : Int.gcd b a = 1) : b ∣ d := by
  have h1 : b.natAbs ∣ a.natAbs * d.natAbs := by
    rw [← Int.natAbs_mul]
    exact Int.natAbs_dvd_natAbs.mpr h
  have h2 : Nat.Coprime b.natAbs a.natAbs := g
  exact Int.natAbs_dvd_natAbs.mp (h2.dvd_of_dvd_mul_left h1)
theorem fr_uniq {p q : Int × Int} (hp : IsFr p) (hq : IsFr q) (h : p.1 * q.2 = q.1 * p.2) : p = q := by
  obtain ⟨a, b⟩ := p
  obtain ⟨c, d⟩ := q
  obtain ⟨b0, g1⟩ := hp
  obtain ⟨d0, g2⟩ := hq
  dsimp only at *
  have c1 : Int.gcd b a = 1 := by
    unfold gI at g1
    rw [Int.gcd_comm]
    omega
  have c2 : Int.gcd d c = 1 := by
    unfold gI at g2
    rw [Int.gcd_comm]
    omega
  have d1 : b ∣ d := cop_dvd (by rw [h]; exact Int.dvd_mul_left c b) c1
  have d2 : d ∣ b := cop_dvd (by rw [← h]; exact Int.dvd_mul_left a d) c2
  have l1 := Int.le_of_dvd d0 d1
  have l2 := Int.le_of_dvd b0 d2
  have e : b = d := by omega
  subst e
  have : a = c := Int.eq_of_mul_eq_mul_right (by omega) h
  rw [this]
theorem fr_eq {a b c d : Int} (hb : 0 < b) (hd : 0 < d) (h : a * d = c * b) : fr a b = fr c d := by
  refine fr_uniq (fr_is hb) (fr_is hd) ?_
  have e1 := fr_val (a := a) hb
  have e2 := fr_val (a := c) hd
  have k : (b * d) * ((fr a b).1 * (fr c d).2) = (b * d) * ((fr c d).1 * (fr a b).2) := by
    generalize (fr a b).1 = x at *
    generalize (fr a b).2 = y at *
    generalize (fr c d).1 = z at *
    generalize (fr c d).2 = w at *
    grind
  have hp := Int.mul_pos hb hd
  exact Int.eq_of_mul_eq_mul_left (by omega) k
theorem fr_self {p : Int × Int} (h : IsFr p) : fr p.1 p.2 = p := fr_uniq (fr_is h.1) h (fr_val h.1)
theorem fr_one (a : Int) : fr a 1 = (a, 1) := fr_self (p := (a, 1)) ⟨by show (0 : Int) < 1; omega, by unfold gI; simp⟩
theorem fr_bd {a b : Int} (h : 0 < b) : (fr a b).1.natAbs ≤ a.natAbs ∧ 0 < (fr a b).2 ∧ (fr a b).2 ≤ b := by
  have g := gI_pos (a := a) h
  refine ⟨?_, (fr_is h).1, ?_⟩
  · rw [fr_of h]
    show (a / gI a b).natAbs ≤ a.natAbs
    exact Int.natAbs_ediv_le_natAbs a (gI a b)
  · rw [fr_of h]
    exact Int.ediv_le_self _ (by omega)
/-! ### sums, products -/
def fadd (p q : Int × Int) : Int × Int := fr (p.1 * q.2 + q.1 * p.2) (p.2 * q.2)
def fsub (p q : Int × Int) : Int × Int := fr (p.1 * q.2 - q.1 * p.2) (p.2 * q.2)
def fmul (p q : Int × Int) : Int × Int := fr (p.1 * q.1) (p.2 * q.2)
def fdvd (p q : Int × Int) : Int × Int := fr (p.1 * q.2) (p.2 * q.1)
def flt (p q : Int × Int) : Bool := decide (p.1 * q.2 < q.1 * p.2)
section
variable {a b c d : Int}
theorem fadd_fr (hb : 0 < b) (hd : 0 < d) : fadd (fr a b) (fr c d) = fr (a * d + c * b) (b * d) := by
  unfold fadd
  have e1 := fr_val (a := a) hb
  have e2 := fr_val (a := c) hd
  have p1 := (fr_is (a := a) hb).1
  have p2 := (fr_is (a := c) hd).1
  refine fr_eq (Int.mul_pos p1 p2) (Int.mul_pos hb hd) ?_
  generalize (fr a b).1 = x at *
  generalize (fr a b).2 = y at *
  generalize (fr c d).1 = z at *
  generalize (fr c d).2 = w at *
  grind
theorem fsub_fr (hb : 0 < b) (hd : 0 < d) : fsub (fr a b) (fr c d) = fr (a * d - c * b) (b * d) := by
  unfold fsub
  have e1 := fr_val (a := a) hb
  have e2 := fr_val (a := c) hd
  have p1 := (fr_is (a := a) hb).1
  have p2 := (fr_is (a := c) hd).1
  refine fr_eq (Int.mul_pos p1 p2) (Int.mul_pos hb hd) ?_
  generalize (fr a b).1 = x at *
  generalize (fr a b).2 = y at *
  generalize (fr c d).1 = z at *
  generalize (fr c d).2 = w at *
  grind
theorem fmul_fr (hb : 0 < b) (hd : 0 < d) : fmul (fr a b) (fr c d) = fr (a * c) (b * d) := by
  unfold fmul
  have e1 := fr_val (a := a) hb
  have e2 := fr_val (a := c) hd
  have p1 := (fr_is (a := a) hb).1
  have p2 := (fr_is (a := c) hd).1
  refine fr_eq (Int.mul_pos p1 p2) (Int.mul_pos hb hd) ?_
  generalize (fr a b).1 = x at *
  generalize (fr a b).2 = y at *
  generalize (fr c d).1 = z at *
  generalize (fr c d).2 = w at *
  grind
theorem fr_num {h : 0 < b} : 0 < (fr a b).1 ↔ 0 < a := by
  have e1 := fr_val (a := a) h
  have p1 := (fr_is (a := a) h).1
  constructor
  · intro g
    have := Int.mul_pos g h
    rw [e1] at this
    exact Int.pos_of_mul_pos_left this (by omega)
  · intro g
    have := Int.mul_pos g p1
    rw [← e1] at this
    exact Int.pos_of_mul_pos_left this (by omega)
theorem fdvd_fr (hb : 0 < b) (hc : 0 < c) (hd : 0 < d) : fdvd (fr a b) (fr c d) = fr (a * d) (b * c) := by
  unfold fdvd
  have e1 := fr_val (a := a) hb
  have e2 := fr_val (a := c) hd
  have p1 := (fr_is (a := a) hb).1
  have p2 := (fr_num (a := c) (h := hd)).mpr hc
  refine fr_eq (Int.mul_pos p1 p2) (Int.mul_pos hb hc) ?_
  generalize (fr a b).1 = x at *
  generalize (fr a b).2 = y at *
  generalize (fr c d).1 = z at *
  generalize (fr c d).2 = w at *
  grind
theorem sg_iff {p q A B : Int} (hp : 0 < p) (hq : 0 < q) (k : q * A = p * B) : 0 < A ↔ 0 < B := by
  constructor
  · intro h
    have h1 := Int.mul_pos hq h
    rw [k] at h1
    exact Int.pos_of_mul_pos_right h1 (by omega)
  · intro h
    have h1 := Int.mul_pos hp h
    rw [← k] at h1
    exact Int.pos_of_mul_pos_right h1 (by omega)
theorem flt_fr (hb : 0 < b) (hd : 0 < d) : flt (fr a b) (fr c d) = decide (a * d < c * b) := by
  unfold flt
  rw [decide_eq_decide]
  have e1 := fr_val (a := a) hb
  have e2 := fr_val (a := c) hd
  have p1 := (fr_is (a := a) hb).1
  have p2 := (fr_is (a := c) hd).1
  have hp := Int.mul_pos p1 p2
  have hq := Int.mul_pos hb hd
  generalize (fr a b).1 = x at *
  generalize (fr a b).2 = y at *
  generalize (fr c d).1 = z at *
  generalize (fr c d).2 = w at *
  have k : (b * d) * (z * y - x * w) = (y * w) * (c * b - a * d) := by grind
  have := sg_iff hp hq k
  rw [Int.sub_pos, Int.sub_pos] at this
  exact this
end
end PyD

/-! PyN5: fractions as programs count them. -/
namespace PyD
open PySem (PyData Str)
def fPartA : Fd := ⟨2, 2, (.cons (.par [0, 1] (.cons (.bfn .abs (.cons (.var 0) .nil)) (.cons (.bfn .abs (.cons (.var 1) .nil)) .nil))) (.cons (.whl (.cmp .gt (.var 1) (.int 0)) (.cons (.par [0, 1] (.cons (.var 1) (.cons (.bin .mod (.bfn .int (.cons (.var 0) .nil)) (.var 1)) .nil))) .nil)) (.cons (.ret (.var 0)) .nil))), []⟩
def fLow (kS : Nat) : Fd := ⟨2, 3, (.cons (.ife (.cmp .lt (.var 1) (.int 0)) (.cons (.par [0, 1] (.cons (.neg (.var 0)) (.cons (.neg (.var 1)) .nil))) .nil) .nil) (.cons (.asg (.nm 2) (.call kS (.cons (.var 0) (.cons (.var 1) .nil)))) (.cons (.ret (.tup (.cons (.bin .fdiv (.var 0) (.var 2)) (.cons (.bin .fdiv (.var 1) (.var 2)) .nil)))) .nil))), []⟩
def fFrac (kS : Nat) : Fd := ⟨2, 3, (.cons (.asg (.nm 2) (.bin .mul (.call kS (.cons (.var 0) (.cons (.var 1) .nil))) (.ife (.cmp .gt (.var 1) (.int 0)) (.int 1) (.neg (.int 1))))) (.cons (.ret (.tup (.cons (.bin .fdiv (.var 0) (.var 2)) (.cons (.bin .fdiv (.var 1) (.var 2)) .nil)))) .nil)), []⟩
def fPlus (kL : Nat) : Fd := ⟨2, 2, (.cons (.ret (.call kL (.cons (.bin .add (.bin .mul (.idx (.var 0) (.int 0)) (.idx (.var 1) (.int 1))) (.bin .mul (.idx (.var 1) (.int 0)) (.idx (.var 0) (.int 1)))) (.cons (.bin .mul (.idx (.var 0) (.int 1)) (.idx (.var 1) (.int 1))) .nil)))) .nil), []⟩
def fMinus (kL : Nat) : Fd := ⟨2, 2, (.cons (.ret (.call kL (.cons (.bin .sub (.bin .mul (.idx (.var 0) (.int 0)) (.idx (.var 1) (.int 1))) (.bin .mul (.idx (.var 1) (.int 0)) (.idx (.var 0) (.int 1)))) (.cons (.bin .mul (.idx (.var 0) (.int 1)) (.idx (.var 1) (.int 1))) .nil)))) .nil), []⟩
def fTimes (kL : Nat) : Fd := ⟨2, 2, (.cons (.ret (.call kL (.cons (.bin .mul (.idx (.var 0) (.int 0)) (.idx (.var 1) (.int 0))) (.cons (.bin .mul (.idx (.var 0) (.int 1)) (.idx (.var 1) (.int 1))) .nil)))) .nil), []⟩
def fOver (kL : Nat) : Fd := ⟨2, 2, (.cons (.ret (.call kL (.cons (.bin .mul (.idx (.var 0) (.int 0)) (.idx (.var 1) (.int 1))) (.cons (.bin .mul (.idx (.var 0) (.int 1)) (.idx (.var 1) (.int 0))) .nil)))) .nil), []⟩
def fLess : Fd := ⟨2, 2, (.cons (.ret (.cmp .lt (.bin .mul (.idx (.var 0) (.int 0)) (.idx (.var 1) (.int 1))) (.bin .mul (.idx (.var 1) (.int 0)) (.idx (.var 0) (.int 1))))) .nil), []⟩
def fIsFrac (kI kS : Nat) : Fd := ⟨1, 2, (.cons (.ife (.or (.cons (.nt (.isi (.var 0) .tuple)) (.cons (.cmp .ne (.bfn .len (.cons (.var 0) .nil)) (.int 2)) (.cons (.nt (.bfn .all (.cons (.comp [1] (.nm 1) (.val (.var 0)) .no (.call kI (.cons (.var 1) .nil))) .nil))) .nil)))) (.cons (.ret (.bl false)) .nil) .nil) (.cons (.ret (.and (.cons (.cmp .gt (.idx (.var 0) (.int 1)) (.int 0)) (.cons (.cmp .eq (.call kS (.cons (.idx (.var 0) (.int 0)) (.cons (.idx (.var 0) (.int 1)) .nil))) (.int 1)) .nil)))) .nil)), []⟩
theorem part_runA {P : Pg} {n k : Nat} {h : Hand} {a b : Int} (hf : P.fd k = some fPartA) (hb : b.natAbs < 2 ^ 200) : run P (n + 1) k none [.sh (.int a), .sh (.int b)] h = .ok false (.int (gI a b)) h := by
  rw [run_eq hf rfl rfl]
  have e1 := gcd_steps (C := cl P n) (h0 := h) (B := prtB) (fun a b hb => by simp [prtB, bop_mod_int, hb]) 200 (if a < 0 then -a else a) (if b < 0 then -b else b) (by split <;> omega) (by split <;> omega) (by
    have : ((2 ^ 200 : Nat) : Int) = (2 : Int) ^ 200 := by decide
    split <;> omega) fuel (by unfold fuel; omega)
  rw [gI_abs] at e1
  have z0 : ex (cl P n) none (.par [0, 1] (.cons (.bfn .abs (.cons (.var 0) .nil)) (.cons (.bfn .abs (.cons (.var 1) .nil)) .nil))) [.sh (.int a), .sh (.int b)] h = .nx [.sh (.int (if a < 0 then -a else a)), .sh (.int (if b < 0 then -b else b))] h := by simp
  have zW : ex (cl P n) none (.whl gcdC prtB) [.sh (.int (if a < 0 then -a else a)), .sh (.int (if b < 0 then -b else b))] h = .nx [.sh (.int (gI a b)), .sh (.int 0)] h := e1
  have zR : ex (cl P n) none (.ret (.var 0)) [.sh (.int (gI a b)), .sh (.int 0)] h = .ret false (.int (gI a b)) h := by simp
  show rtC h (exs (cl P n) none (.cons (.par [0, 1] (.cons (.bfn .abs (.cons (.var 0) .nil)) (.cons (.bfn .abs (.cons (.var 1) .nil)) .nil))) (.cons (.whl gcdC prtB) (.cons (.ret (.var 0)) .nil))) [.sh (.int a), .sh (.int b)] h) = _
  rw [seq3 z0, seq3 zW, ret3 zR]
  simp
abbrev frD (p : Int × Int) : PyData := .tuple [.int p.1, .int p.2]
/-- what makes fractions low -/
def LowOk (P : Pg) (k : Nat) : Prop := ∀ (n : Nat) (h : Hand) (a b : Int), 0 < b → b < 2 ^ 199 → run P (n + 2) k none [.sh (.int a), .sh (.int b)] h = .ok false (frD (fr a b)) h
theorem low_ok {P : Pg} {k kS : Nat} (hf : P.fd k = some (fLow kS)) (hS : P.fd kS = some fShared) : LowOk P k := fun n h a b h0 h1 => by
  rw [run_eq hf rfl rfl]
  have e := shared_runW (n := n) (h := h) (a := a) (b := b) hS (by omega)
  have g := gI_pos (a := a) h0
  have gl : gI a b ≤ b := Int.le_of_dvd h0 (gI_r a b)
  have hb : ¬ b < 0 := by omega
  have d := fun i : Int => bop_div_intW (i := i) (j := gI a b) ⟨g, by omega⟩
  simp [fLow, e, hb, d, fr_of h0]
theorem frac_ok {P : Pg} {k kS : Nat} (hf : P.fd k = some (fFrac kS)) (hS : P.fd kS = some fPartA) : LowOk P k := fun n h a b h0 h1 => by
  rw [run_eq hf rfl rfl]
  have e := part_runA (n := n) (h := h) (a := a) (b := b) hS (by omega)
  have g := gI_pos (a := a) h0
  have gl : gI a b ≤ b := Int.le_of_dvd h0 (gI_r a b)
  have d := fun i : Int => bop_div_intW (i := i) (j := gI a b) ⟨g, by omega⟩
  have m := bop_mul_int (i := gI a b) (j := 1) (by unfold mulOk; rw [decide_eq_true (show (1 : Int).natAbs < 2 ^ 64 by decide), Bool.or_true])
  rw [Int.mul_one] at m
  simp [fFrac, e, h0, d, m, fr_of h0]
structure Sz (p : Int × Int) : Prop where
  t : p.1.natAbs < 2 ^ 64
  b : 0 < p.2
  l : p.2 < 2 ^ 64
theorem Sz.mul {p : Int × Int} (s : Sz p) {j : Int} : bop .mul (.int p.1) (.int j) = some (false, .int (p.1 * j)) := bop_mul_int (mulOk_l s.t)
theorem Sz.mul2 {p : Int × Int} (s : Sz p) {j : Int} : bop .mul (.int p.2) (.int j) = some (false, .int (p.2 * j)) := bop_mul_int (mulOk_l (by have := s.b; have := s.l; omega))
theorem mul_lt_pw {x y : Int} (x0 : 0 < x) (x1 : x < 2 ^ 64) (y0 : 0 < y) (y1 : y < 2 ^ 64) : 0 < x * y ∧ x * y < 2 ^ 199 := by
  refine ⟨Int.mul_pos x0 y0, ?_⟩
  have h1 := Int.mul_lt_mul_of_pos_left y1 x0
  omega
section
variable {P : Pg} {n k kL : Nat} {h : Hand} {p q : Int × Int}
theorem plus_run (hf : P.fd k = some (fPlus kL)) (hL : LowOk P kL) (sp : Sz p) (sq : Sz q) : run P (n + 3) k none [.sh (frD p), .sh (frD q)] h = .ok false (frD (fadd p q)) h := by
  rw [run_eq hf rfl rfl]
  have hb := mul_lt_pw sp.b sp.l sq.b sq.l
  have e := hL n h (p.1 * q.2 + q.1 * p.2) (p.2 * q.2) hb.1 hb.2
  simp [fPlus, sp.mul, sq.mul, sp.mul2, e, fadd]
theorem minus_run (hf : P.fd k = some (fMinus kL)) (hL : LowOk P kL) (sp : Sz p) (sq : Sz q) : run P (n + 3) k none [.sh (frD p), .sh (frD q)] h = .ok false (frD (fsub p q)) h := by
  rw [run_eq hf rfl rfl]
  have hb := mul_lt_pw sp.b sp.l sq.b sq.l
  have e := hL n h (p.1 * q.2 - q.1 * p.2) (p.2 * q.2) hb.1 hb.2
  simp [fMinus, sp.mul, sq.mul, sp.mul2, e, fsub]
theorem times_run (hf : P.fd k = some (fTimes kL)) (hL : LowOk P kL) (sp : Sz p) (sq : Sz q) : run P (n + 3) k none [.sh (frD p), .sh (frD q)] h = .ok false (frD (fmul p q)) h := by
  rw [run_eq hf rfl rfl]
  have hb := mul_lt_pw sp.b sp.l sq.b sq.l
  have e := hL n h (p.1 * q.1) (p.2 * q.2) hb.1 hb.2
  simp [fTimes, sp.mul, sq.mul, sp.mul2, e, fmul]
theorem over_run (hf : P.fd k = some (fOver kL)) (hL : LowOk P kL) (sp : Sz p) (sq : Sz q) (q0 : 0 < q.1) : run P (n + 3) k none [.sh (frD p), .sh (frD q)] h = .ok false (frD (fdvd p q)) h := by
  rw [run_eq hf rfl rfl]
  have hb := mul_lt_pw sp.b sp.l q0 (by have := sq.t; omega)
  have e := hL n h (p.1 * q.2) (p.2 * q.1) hb.1 hb.2
  simp [fOver, sp.mul, sq.mul, sp.mul2, e, fdvd]
theorem less_run (hf : P.fd k = some fLess) (sp : Sz p) (sq : Sz q) : run P (n + 1) k none [.sh (frD p), .sh (frD q)] h = .ok false (.bool (flt p q)) h := by
  rw [run_eq hf rfl rfl]
  simp [fLess, sp.mul, sq.mul, flt]
end
theorem bfn_all2 {p q : Bool} : bfn .all [.list [.bool p, .bool q]] = some (false, .bool (p && q)) := by cases p <;> cases q <;> rfl
theorem bfn_all3 {p q r : Bool} : bfn .all [.list [.bool p, .bool q, .bool r]] = some (false, .bool (p && (q && r))) := by cases p <;> cases q <;> cases r <;> rfl
def isFrD : PyData → Bool
  | .tuple [.int a, .int b] => decide (0 < b) && decide (gI a b = 1)
  | _ => false
theorem isfrac_run {P : Pg} {n k kI kS : Nat} {h : Hand} {d : PyData} (hf : P.fd k = some (fIsFrac kI kS)) (hI : P.fd kI = some fIsInt) (hS : P.fd kS = some fShared) (hb : ∀ a b : Int, d = .tuple [.int a, .int b] → b.natAbs < 2 ^ 200) : run P (n + 2) k none [.sh d] h = .ok false (.bool (isFrD d)) h := by
  rw [run_eq hf rfl rfl]
  have comp : ∀ (ds : List PyData) (s1 : Sl), compL [s1, .non] (.nm 1) (evc (cl P (n + 1)) .no) (ev (cl P (n + 1)) (.call kI (.cons (.var 1) .nil))) ds h = some (ds.map fun x => .bool (isI x), h) := fun ds s1 => by
    rw [show ds = ds.map (fun x => x) by simp, compL_mm (f := fun x => x) (g := fun x => .bool (isI x)) fun x _ => by
      have e := isInt_run (n := n) (h := h) hI (Lent.sh (d := x))
      simp [stp, e]]
    simp
  cases d <;> try (simp [fIsFrac, isFrD, isTy]; done)
  rename_i ds
  by_cases hm : (ds.length : Int) = 2
  · obtain ⟨x, y, rfl⟩ : ∃ x y, ds = [x, y] := by
      match ds, hm with
      | [x, y], _ => exact ⟨x, y, rfl⟩
    have ba := fun p q : Bool => bfn_all2 (p := p) (q := q)
    have bl : bfn .len [.tuple [x, y]] = some (false, .int 2) := rfl
    cases x with
    | int a =>
      cases y with
      | int b =>
        have e := shared_runW (n := n) (h := h) (a := a) (b := b) hS (hb a b rfl)
        by_cases g : 0 < b <;> simp [fIsFrac, isFrD, isTy, isI, comp, ba, bl, e, g]
      | _ => simp [fIsFrac, isFrD, isTy, isI, comp, ba, bl]
    | _ => simp [fIsFrac, isFrD, isTy, isI, comp, ba, bl]
  · have e : isFrD (.tuple ds) = false := by
      match ds with
      | [] => rfl
      | [x] => cases x <;> rfl
      | [x, y] => simp at hm
      | x :: y :: z :: t => cases x <;> cases y <;> rfl
    simp [fIsFrac, e, isTy, hm, comp, bfn_all]
end PyD

namespace HX
open PySem PySem.Spec PyProof.Rows L2 PyD
def top (i : Nat) : Stmt := PySem.Challenge.pw_mendgarage_k27_whole_ways_to_stop.main.body.getD i (.Pass ⟨0, 0, 0, 0⟩)
def d_is_integer : He.DefD := ⟨("is_integer", none), "is_integer", "is_integer", defArgs (top 1), defBody (top 1), defScope (top 1), [], []⟩
def f_is_integer : Fd := ⟨1, 1, (.cons (.ret (.and (.cons (.isi (.var 0) .int) (.cons (.nt (.isi (.var 0) .bool)) .nil)))) .nil), []⟩
def x_is_integer : DefX := ⟨d_is_integer, f_is_integer, ["thing"], ["thing"], false⟩
def d_is_within : He.DefD := ⟨("is_within", none), "is_within", "is_within", defArgs (top 2), defBody (top 2), defScope (top 2), [], []⟩
def f_is_within : Fd := ⟨3, 3, (.cons (.ret (.and (.cons (.call 0 (.cons (.var 0) .nil)) (.cons (.chn .le .le (.var 1) (.var 0) (.var 2)) .nil)))) .nil), []⟩
def x_is_within : DefX := ⟨d_is_within, f_is_within, ["thing", "least", "most"], ["thing", "least", "most"], false⟩
def d_shared : He.DefD := ⟨("shared", none), "shared", "shared", defArgs (top 3), defBody (top 3), defScope (top 3), [], []⟩
def f_shared : Fd := ⟨2, 2, (.cons (.par [0, 1] (.cons (.bfn .abs (.cons (.var 0) .nil)) (.cons (.bfn .abs (.cons (.var 1) .nil)) .nil))) (.cons (.whl (.cmp .gt (.var 1) (.int 0)) (.cons (.par [0, 1] (.cons (.var 1) (.cons (.bin .mod (.var 0) (.var 1)) .nil))) .nil)) (.cons (.ret (.var 0)) .nil))), []⟩
def x_shared : DefX := ⟨d_shared, f_shared, ["one", "other"], ["one", "other"], false⟩
def d_low : He.DefD := ⟨("low", none), "low", "low", defArgs (top 4), defBody (top 4), defScope (top 4), [], []⟩
def f_low : Fd := ⟨2, 3, (.cons (.ife (.cmp .lt (.var 1) (.int 0)) (.cons (.par [0, 1] (.cons (.neg (.var 0)) (.cons (.neg (.var 1)) .nil))) .nil) .nil) (.cons (.asg (.nm 2) (.call 2 (.cons (.var 0) (.cons (.var 1) .nil)))) (.cons (.ret (.tup (.cons (.bin .fdiv (.var 0) (.var 2)) (.cons (.bin .fdiv (.var 1) (.var 2)) .nil)))) .nil))), []⟩
def x_low : DefX := ⟨d_low, f_low, ["top", "bottom", "same"], ["top", "bottom"], false⟩
def d_plus : He.DefD := ⟨("plus", none), "plus", "plus", defArgs (top 5), defBody (top 5), defScope (top 5), [], []⟩
def f_plus : Fd := ⟨2, 2, (.cons (.ret (.call 3 (.cons (.bin .add (.bin .mul (.idx (.var 0) (.int 0)) (.idx (.var 1) (.int 1))) (.bin .mul (.idx (.var 1) (.int 0)) (.idx (.var 0) (.int 1)))) (.cons (.bin .mul (.idx (.var 0) (.int 1)) (.idx (.var 1) (.int 1))) .nil)))) .nil), []⟩
def x_plus : DefX := ⟨d_plus, f_plus, ["one", "other"], ["one", "other"], false⟩
def d_minus : He.DefD := ⟨("minus", none), "minus", "minus", defArgs (top 6), defBody (top 6), defScope (top 6), [], []⟩
def f_minus : Fd := ⟨2, 2, (.cons (.ret (.call 3 (.cons (.bin .sub (.bin .mul (.idx (.var 0) (.int 0)) (.idx (.var 1) (.int 1))) (.bin .mul (.idx (.var 1) (.int 0)) (.idx (.var 0) (.int 1)))) (.cons (.bin .mul (.idx (.var 0) (.int 1)) (.idx (.var 1) (.int 1))) .nil)))) .nil), []⟩
def x_minus : DefX := ⟨d_minus, f_minus, ["one", "other"], ["one", "other"], false⟩
def d_times : He.DefD := ⟨("times", none), "times", "times", defArgs (top 7), defBody (top 7), defScope (top 7), [], []⟩
def f_times : Fd := ⟨2, 2, (.cons (.ret (.call 3 (.cons (.bin .mul (.idx (.var 0) (.int 0)) (.idx (.var 1) (.int 0))) (.cons (.bin .mul (.idx (.var 0) (.int 1)) (.idx (.var 1) (.int 1))) .nil)))) .nil), []⟩
def x_times : DefX := ⟨d_times, f_times, ["one", "other"], ["one", "other"], false⟩
def d_over : He.DefD := ⟨("over", none), "over", "over", defArgs (top 8), defBody (top 8), defScope (top 8), [], []⟩
def f_over : Fd := ⟨2, 2, (.cons (.ret (.call 3 (.cons (.bin .mul (.idx (.var 0) (.int 0)) (.idx (.var 1) (.int 1))) (.cons (.bin .mul (.idx (.var 0) (.int 1)) (.idx (.var 1) (.int 0))) .nil)))) .nil), []⟩
def x_over : DefX := ⟨d_over, f_over, ["one", "other"], ["one", "other"], false⟩
def d_is_less : He.DefD := ⟨("is_less", none), "is_less", "is_less", defArgs (top 9), defBody (top 9), defScope (top 9), [], []⟩
def f_is_less : Fd := ⟨2, 2, (.cons (.ret (.cmp .lt (.bin .mul (.idx (.var 0) (.int 0)) (.idx (.var 1) (.int 1))) (.bin .mul (.idx (.var 1) (.int 0)) (.idx (.var 0) (.int 1))))) .nil), []⟩
def x_is_less : DefX := ⟨d_is_less, f_is_less, ["one", "other"], ["one", "other"], false⟩
def d_is_fraction : He.DefD := ⟨("is_fraction", none), "is_fraction", "is_fraction", defArgs (top 10), defBody (top 10), defScope (top 10), [], []⟩
def f_is_fraction : Fd := ⟨1, 2, (.cons (.ife (.or (.cons (.nt (.isi (.var 0) .tuple)) (.cons (.cmp .ne (.bfn .len (.cons (.var 0) .nil)) (.int 2)) (.cons (.nt (.bfn .all (.cons (.comp [1] (.nm 1) (.val (.var 0)) .no (.call 0 (.cons (.var 1) .nil))) .nil))) .nil)))) (.cons (.ret (.bl false)) .nil) .nil) (.cons (.ret (.and (.cons (.cmp .gt (.idx (.var 0) (.int 1)) (.int 0)) (.cons (.cmp .eq (.call 2 (.cons (.idx (.var 0) (.int 0)) (.cons (.idx (.var 0) (.int 1)) .nil))) (.int 1)) .nil)))) .nil)), []⟩
def x_is_fraction : DefX := ⟨d_is_fraction, f_is_fraction, ["thing", "one"], ["thing"], false⟩
def d_is_brakes : He.DefD := ⟨("is_brakes", none), "is_brakes", "is_brakes", defArgs (top 16), defBody (top 16), defScope (top 16), [], []⟩
def f_is_brakes : Fd := ⟨1, 1, (.cons (.ife (.or (.cons (.nt (.isi (.var 0) .tuple)) (.cons (.cmp .ne (.bfn .len (.cons (.var 0) .nil)) (.int 3)) (.cons (.nt (.call 1 (.cons (.idx (.var 0) (.int 0)) (.cons (.int 0) (.cons (.int 100) .nil))))) .nil)))) (.cons (.ret (.bl false)) .nil) .nil) (.cons (.ret (.and (.cons (.call 1 (.cons (.idx (.var 0) (.int 1)) (.cons (.int 1) (.cons (.int 20) .nil)))) (.cons (.call 1 (.cons (.idx (.var 0) (.int 2)) (.cons (.int 0) (.cons (.int 10) .nil)))) .nil)))) .nil)), []⟩
def x_is_brakes : DefX := ⟨d_is_brakes, f_is_brakes, ["thing"], ["thing"], false⟩
def d_check_brakes : He.DefD := ⟨("check_brakes", none), "check_brakes", "check_brakes", defArgs (top 17), defBody (top 17), defScope (top 17), [], []⟩
def f_check_brakes : Fd := ⟨1, 2, (.cons (.ife (.nt (.bfn .all (.cons (.comp [1] (.nm 1) (.val (.var 0)) .no (.call 10 (.cons (.var 1) .nil))) .nil))) (.cons (.rse 1) .nil) .nil) .nil), [.dict []]⟩
def x_check_brakes : DefX := ⟨d_check_brakes, f_check_brakes, ["cars", "car"], ["cars"], false⟩
def d_stop_way : He.DefD := ⟨("stop_way", none), "stop_way", "stop_way", defArgs (top 18), defBody (top 18), defScope (top 18), [], []⟩
def f_stop_way : Fd := ⟨1, 1, (.cons (.ex (.call 11 (.cons (.var 0) .nil))) (.cons (.ret (.call 13 (.cons (.var 0) .nil))) .nil)), []⟩
def x_stop_way : DefX := ⟨d_stop_way, f_stop_way, ["car"], ["car"], false⟩
def d_way_of : He.DefD := ⟨("way_of", none), "way_of", "way_of", defArgs (top 19), defBody (top 19), defScope (top 19), [], []⟩
def f_way_of : Fd := ⟨1, 1, (.cons (.ret (.call 4 (.cons (.tup (.cons (.bin .mul (.idx (.var 0) (.int 0)) (.idx (.var 0) (.int 2))) (.cons (.int 1) .nil))) (.cons (.call 3 (.cons (.bin .mul (.idx (.var 0) (.int 0)) (.idx (.var 0) (.int 0))) (.cons (.bin .mul (.int 2) (.idx (.var 0) (.int 1))) .nil))) .nil)))) .nil), []⟩
def x_way_of : DefX := ⟨d_way_of, f_way_of, ["car"], ["car"], false⟩
def d_stop_time : He.DefD := ⟨("stop_time", none), "stop_time", "stop_time", defArgs (top 20), defBody (top 20), defScope (top 20), [], []⟩
def f_stop_time : Fd := ⟨1, 1, (.cons (.ex (.call 11 (.cons (.var 0) .nil))) (.cons (.ret (.ife (.cmp .gt (.idx (.var 0) (.int 0)) (.int 0)) (.call 4 (.cons (.tup (.cons (.idx (.var 0) (.int 2)) (.cons (.int 1) .nil))) (.cons (.call 3 (.cons (.idx (.var 0) (.int 0)) (.cons (.idx (.var 0) (.int 1)) .nil))) .nil))) (.tup (.cons (.int 0) (.cons (.int 1) .nil))))) .nil)), []⟩
def x_stop_time : DefX := ⟨d_stop_time, f_stop_time, ["car"], ["car"], false⟩
def d_is_moment : He.DefD := ⟨("is_moment", none), "is_moment", "is_moment", defArgs (top 21), defBody (top 21), defScope (top 21), [], []⟩
def f_is_moment : Fd := ⟨1, 1, (.cons (.ret (.and (.cons (.call 9 (.cons (.var 0) .nil)) (.cons (.chn .le .le (.int 0) (.idx (.var 0) (.int 0)) (.bin .mul (.int 1000) (.idx (.var 0) (.int 1)))) (.cons (.cmp .le (.idx (.var 0) (.int 1)) (.int 100)) .nil))))) .nil), []⟩
def x_is_moment : DefX := ⟨d_is_moment, f_is_moment, ["thing"], ["thing"], false⟩
def d_place_at : He.DefD := ⟨("place_at", none), "place_at", "place_at", defArgs (top 22), defBody (top 22), defScope (top 22), [], []⟩
def f_place_at : Fd := ⟨2, 2, (.cons (.ex (.call 11 (.cons (.var 0) .nil))) (.cons (.ife (.nt (.call 15 (.cons (.var 1) .nil))) (.cons (.rse 2) .nil) .nil) (.cons (.ret (.call 17 (.cons (.var 0) (.cons (.var 1) .nil)))) .nil))), []⟩
def x_place_at : DefX := ⟨d_place_at, f_place_at, ["car", "moment"], ["car", "moment"], false⟩
def d_place_of : He.DefD := ⟨("place_of", none), "place_of", "place_of", defArgs (top 23), defBody (top 23), defScope (top 23), [], []⟩
def f_place_of : Fd := ⟨2, 4, (.cons (.ife (.call 8 (.cons (.var 1) (.cons (.tup (.cons (.idx (.var 0) (.int 2)) (.cons (.int 1) .nil))) .nil))) (.cons (.ret (.call 6 (.cons (.tup (.cons (.idx (.var 0) (.int 0)) (.cons (.int 1) .nil))) (.cons (.var 1) .nil)))) .nil) .nil) (.cons (.asg (.nm 2) (.call 5 (.cons (.var 1) (.cons (.tup (.cons (.idx (.var 0) (.int 2)) (.cons (.int 1) .nil))) .nil)))) (.cons (.ife (.nt (.call 8 (.cons (.var 2) (.cons (.call 3 (.cons (.idx (.var 0) (.int 0)) (.cons (.idx (.var 0) (.int 1)) .nil))) .nil)))) (.cons (.ret (.call 13 (.cons (.var 0) .nil))) .nil) .nil) (.cons (.asg (.nm 3) (.call 6 (.cons (.call 6 (.cons (.var 2) (.cons (.var 2) .nil))) (.cons (.call 3 (.cons (.idx (.var 0) (.int 1)) (.cons (.int 2) .nil))) .nil)))) (.cons (.ret (.call 5 (.cons (.call 6 (.cons (.tup (.cons (.idx (.var 0) (.int 0)) (.cons (.int 1) .nil))) (.cons (.var 1) .nil))) (.cons (.var 3) .nil)))) .nil))))), []⟩
def x_place_of : DefX := ⟨d_place_of, f_place_of, ["car", "moment", "late", "slow"], ["car", "moment"], false⟩
def d_speed_at : He.DefD := ⟨("speed_at", none), "speed_at", "speed_at", defArgs (top 24), defBody (top 24), defScope (top 24), [], []⟩
def f_speed_at : Fd := ⟨2, 3, (.cons (.ex (.call 11 (.cons (.var 0) .nil))) (.cons (.ife (.nt (.call 15 (.cons (.var 1) .nil))) (.cons (.rse 2) .nil) .nil) (.cons (.ife (.call 8 (.cons (.var 1) (.cons (.tup (.cons (.idx (.var 0) (.int 2)) (.cons (.int 1) .nil))) .nil))) (.cons (.ret (.tup (.cons (.idx (.var 0) (.int 0)) (.cons (.int 1) .nil)))) .nil) .nil) (.cons (.asg (.nm 2) (.call 5 (.cons (.tup (.cons (.idx (.var 0) (.int 0)) (.cons (.int 1) .nil))) (.cons (.call 6 (.cons (.tup (.cons (.idx (.var 0) (.int 1)) (.cons (.int 1) .nil))) (.cons (.call 5 (.cons (.var 1) (.cons (.tup (.cons (.idx (.var 0) (.int 2)) (.cons (.int 1) .nil))) .nil))) .nil))) .nil)))) (.cons (.ret (.ife (.cmp .gt (.idx (.var 2) (.int 0)) (.int 0)) (.var 2) (.tup (.cons (.int 0) (.cons (.int 1) .nil))))) .nil))))), []⟩
def x_speed_at : DefX := ⟨d_speed_at, f_speed_at, ["car", "moment", "left"], ["car", "moment"], false⟩
def d_top_speed_for : He.DefD := ⟨("top_speed_for", none), "top_speed_for", "top_speed_for", defArgs (top 25), defBody (top 25), defScope (top 25), [], []⟩
def f_top_speed_for : Fd := ⟨3, 4, (.cons (.ex (.call 11 (.cons (.tup (.cons (.int 0) (.cons (.var 1) (.cons (.var 2) .nil)))) .nil))) (.cons (.ife (.nt (.call 1 (.cons (.var 0) (.cons (.int 0) (.cons (.bin .pow (.int 10) (.int 5)) .nil))))) (.cons (.rse 2) .nil) .nil) (.cons (.ret (.bfn .max (.cons (.comp [3] (.nm 3) (.rng1 (.int 101)) (.so (.nt (.call 8 (.cons (.tup (.cons (.var 0) (.cons (.int 1) .nil))) (.cons (.call 13 (.cons (.tup (.cons (.var 3) (.cons (.var 1) (.cons (.var 2) .nil)))) .nil)) .nil))))) (.var 3)) .nil))) .nil))), []⟩
def x_top_speed_for : DefX := ⟨d_top_speed_for, f_top_speed_for, ["way", "brake", "begin", "speed"], ["way", "brake", "begin"], false⟩
def d_brake_for : He.DefD := ⟨("brake_for", none), "brake_for", "brake_for", defArgs (top 26), defBody (top 26), defScope (top 26), [], []⟩
def f_brake_for : Fd := ⟨3, 5, (.cons (.ex (.call 11 (.cons (.tup (.cons (.var 1) (.cons (.int 1) (.cons (.var 2) .nil)))) .nil))) (.cons (.ife (.nt (.call 1 (.cons (.var 0) (.cons (.int 0) (.cons (.bin .pow (.int 10) (.int 5)) .nil))))) (.cons (.rse 2) .nil) .nil) (.cons (.asg (.nm 3) (.comp [4] (.nm 4) (.rng2 (.int 1) (.int 21)) (.so (.nt (.call 8 (.cons (.tup (.cons (.var 0) (.cons (.int 1) .nil))) (.cons (.call 13 (.cons (.tup (.cons (.var 1) (.cons (.var 4) (.cons (.var 2) .nil)))) .nil)) .nil))))) (.var 4))) (.cons (.ret (.ife (.cmp .ne (.var 3) (.lst .nil)) (.idx (.var 3) (.int 0)) .non)) .nil)))), []⟩
def x_brake_for : DefX := ⟨d_brake_for, f_brake_for, ["way", "speed", "begin", "some", "brake"], ["way", "speed", "begin"], false⟩
def d_mean_speed : He.DefD := ⟨("mean_speed", none), "mean_speed", "mean_speed", defArgs (top 27), defBody (top 27), defScope (top 27), [], []⟩
def f_mean_speed : Fd := ⟨1, 2, (.cons (.asg (.nm 1) (.call 14 (.cons (.var 0) .nil))) (.cons (.ret (.ife (.cmp .gt (.idx (.var 1) (.int 0)) (.int 0)) (.call 7 (.cons (.call 13 (.cons (.var 0) .nil)) (.cons (.var 1) .nil))) (.tup (.cons (.int 0) (.cons (.int 1) .nil))))) .nil)), []⟩
def x_mean_speed : DefX := ⟨d_mean_speed, f_mean_speed, ["car", "time_now"], ["car"], false⟩
def d_slower : He.DefD := ⟨("slower", none), "slower", "slower", defArgs (top 28), defBody (top 28), defScope (top 28), [], []⟩
def f_slower : Fd := ⟨2, 2, (.cons (.ex (.call 11 (.cons (.var 0) .nil))) (.cons (.ife (.nt (.call 1 (.cons (.var 1) (.cons (.int 0) (.cons (.idx (.var 0) (.int 0)) .nil))))) (.cons (.rse 2) .nil) .nil) (.cons (.ret (.tup (.cons (.bin .sub (.idx (.var 0) (.int 0)) (.var 1)) (.cons (.idx (.var 0) (.int 1)) (.cons (.idx (.var 0) (.int 2)) .nil))))) .nil))), []⟩
def x_slower : DefX := ⟨d_slower, f_slower, ["car", "by"], ["car", "by"], false⟩
def d_saved_by : He.DefD := ⟨("saved_by", none), "saved_by", "saved_by", defArgs (top 29), defBody (top 29), defScope (top 29), [], []⟩
def f_saved_by : Fd := ⟨2, 2, (.cons (.ret (.call 5 (.cons (.call 12 (.cons (.var 0) .nil)) (.cons (.call 12 (.cons (.call 22 (.cons (.var 0) (.cons (.var 1) .nil))) .nil)) .nil)))) .nil), []⟩
def x_saved_by : DefX := ⟨d_saved_by, f_saved_by, ["car", "by"], ["car", "by"], false⟩
def d__law_hand : He.DefD := ⟨("_law_hand", none), "_law_hand", "_law_hand", defArgs (top 31), defBody (top 31), defScope (top 31), [], []⟩
def f__law_hand : Fd := ⟨1, 3, (.cons (.asg (.nm 1) (.comp [2] (.nm 2) (.val (.slc (.var 0) .no (.so (.int 63)))) .no (.bfn .abs (.cons (.bfn .int (.cons (.var 2) .nil)) .nil)))) (.cons (.ret (.lst (.cons (.var 1) (.cons (.int 0) (.cons (.int 0) (.cons (.bin .add (.int 853) (.bin .mul (.int 158) (.bfn .len (.cons (.var 1) .nil)))) (.cons (.int 0) .nil))))))) .nil)), []⟩
def x__law_hand : DefX := ⟨d__law_hand, f__law_hand, ["script", "cells", "cell"], ["script"], false⟩
def d__law_draw : He.DefD := ⟨("_law_draw", none), "_law_draw", "_law_draw", defArgs (top 32), defBody (top 32), defScope (top 32), [], []⟩
def f__law_draw : Fd := ⟨2, 5, (.cons (.ife (.and (.cons (.cmp .eq (.idx (.var 0) (.int 2)) (.int 0)) (.cons (.cmp .lt (.idx (.var 0) (.int 1)) (.bfn .len (.cons (.idx (.var 0) (.int 0)) .nil))) .nil))) (.cons (.asg (.nm 2) (.idx (.idx (.var 0) (.int 0)) (.idx (.var 0) (.int 1)))) (.cons (.asgs 0 (.int 1) (.bin .add (.idx (.var 0) (.int 1)) (.int 1))) (.cons (.asgs 0 (.int 3) (.bin .mod (.bfn .int (.cons (.bin .add (.bin .add (.bin .mul (.idx (.var 0) (.int 3)) (.int 69621)) (.var 2)) (.int 103)) .nil)) (.int 2147483629))) (.cons (.ife (.cmp .ge (.var 2) (.bin .pow (.int 10) (.int 18))) (.cons (.asgs 0 (.int 2) (.var 2)) .nil) .nil) .nil)))) .nil) (.cons (.ife (.cmp .gt (.idx (.var 0) (.int 2)) (.int 0)) (.cons (.asg (.nm 3) (.bin .mod (.bfn .int (.cons (.idx (.var 0) (.int 2)) .nil)) (.var 1))) (.cons (.asgs 0 (.int 2) (.bin .fdiv (.idx (.var 0) (.int 2)) (.var 1))) (.cons (.ret (.var 3)) .nil))) .nil) (.cons (.asgs 0 (.int 4) (.bin .add (.idx (.var 0) (.int 4)) (.int 1))) (.cons (.asg (.nm 4) (.bin .mod (.bfn .int (.cons (.bin .mul (.bfn .int (.cons (.bin .add (.idx (.var 0) (.int 3)) (.bin .mul (.int 7919) (.idx (.var 0) (.int 4)))) .nil)) (.int 48271)) .nil)) (.int 2147483647))) (.cons (.asg (.nm 4) (.bin .mod (.bfn .int (.cons (.bin .mul (.var 4) (.bin .add (.bin .fdiv (.var 4) (.int 1009)) (.int 69621))) .nil)) (.int 2147483647))) (.cons (.asg (.nm 4) (.bin .mod (.bfn .int (.cons (.bin .mul (.var 4) (.bin .add (.bin .fdiv (.var 4) (.int 2003)) (.int 40692))) .nil)) (.int 2147483399))) (.cons (.ret (.bin .mod (.bfn .int (.cons (.bin .fdiv (.var 4) (.int 16)) .nil)) (.var 1))) .nil))))))), []⟩
def x__law_draw : DefX := ⟨d__law_draw, f__law_draw, ["hand", "many", "cell", "digit", "number"], ["hand", "many"], false⟩
def d__law_some : He.DefD := ⟨("_law_some", none), "_law_some", "_law_some", defArgs (top 33), defBody (top 33), defScope (top 33), [], []⟩
def f__law_some : Fd := ⟨2, 2, (.cons (.ret (.idx (.var 1) (.call 25 (.cons (.var 0) (.cons (.bfn .len (.cons (.var 1) .nil)) .nil))))) .nil), []⟩
def x__law_some : DefX := ⟨d__law_some, f__law_some, ["hand", "things"], ["hand", "things"], false⟩
def d__law_is : He.DefD := ⟨("_law_is", none), "_law_is", "_law_is", defArgs (top 34), defBody (top 34), defScope (top 34), [], []⟩
def f__law_is : Fd := ⟨2, 3, (.cons (.ife (.or (.cons (.isi (.var 1) .tuple) (.cons (.isi (.var 1) .list) .nil))) (.cons (.ife (.cmp .ne (.isi (.var 0) .tuple) (.isi (.var 1) .tuple)) (.cons (.ret (.bl false)) .nil) .nil) (.cons (.ife (.cmp .ne (.isi (.var 0) .list) (.isi (.var 1) .list)) (.cons (.ret (.bl false)) .nil) .nil) (.cons (.ife (.cmp .ne (.bfn .len (.cons (.var 0) .nil)) (.bfn .len (.cons (.var 1) .nil))) (.cons (.ret (.bl false)) .nil) .nil) (.cons (.ret (.bfn .all (.cons (.comp [2] (.nm 2) (.rng1 (.bfn .len (.cons (.var 1) .nil))) .no (.call 27 (.cons (.idx (.var 0) (.var 2)) (.cons (.idx (.var 1) (.var 2)) .nil)))) .nil))) .nil)))) .nil) (.cons (.ife (.isn (.var 1)) (.cons (.ret (.isn (.var 0))) .nil) .nil) (.cons (.ife (.or (.cons (.cmp .ne (.isi (.var 0) .bool) (.isi (.var 1) .bool)) (.cons (.cmp .ne (.isi (.var 0) .int) (.isi (.var 1) .int)) .nil))) (.cons (.ret (.bl false)) .nil) .nil) (.cons (.ret (.and (.cons (.cmp .eq (.isi (.var 0) .str) (.isi (.var 1) .str)) (.cons (.cmp .eq (.var 0) (.var 1)) .nil)))) .nil)))), []⟩
def x__law_is : DefX := ⟨d__law_is, f__law_is, ["said", "due", "k"], ["said", "due"], false⟩
def d__law_deep : He.DefD := ⟨("_law_deep", none), "_law_deep", "_law_deep", defArgs (top 35), defBody (top 35), defScope (top 35), [], []⟩
def f__law_deep : Fd := ⟨1, 3, (.cons (.asg (.nm 1) (.str "?")) (.cons (.for_ (.nm 2) (.rng1 (.call 25 (.cons (.var 0) (.cons (.int 30) .nil)))) (.cons (.asg (.nm 1) (.ife (.cmp .eq (.call 25 (.cons (.var 0) (.cons (.int 2) .nil))) (.int 0)) (.tup (.cons (.str "?") (.cons (.var 1) .nil))) (.lst (.cons (.var 1) .nil)))) .nil)) (.cons (.ret (.var 1)) .nil))), []⟩
def x__law_deep : DefX := ⟨d__law_deep, f__law_deep, ["hand", "found", "turn"], ["hand"], false⟩
def d__law_is_int : He.DefD := ⟨("_law_is_int", none), "_law_is_int", "_law_is_int", defArgs (top 36), defBody (top 36), defScope (top 36), [], []⟩
def f__law_is_int : Fd := ⟨1, 1, (.cons (.ret (.and (.cons (.isi (.var 0) .int) (.cons (.nt (.isi (.var 0) .bool)) .nil)))) .nil), []⟩
def x__law_is_int : DefX := ⟨d__law_is_int, f__law_is_int, ["thing"], ["thing"], false⟩
def d__law_part : He.DefD := ⟨("_law_part", none), "_law_part", "_law_part", defArgs (top 37), defBody (top 37), defScope (top 37), [], []⟩
def f__law_part : Fd := ⟨2, 2, (.cons (.par [0, 1] (.cons (.bfn .abs (.cons (.var 0) .nil)) (.cons (.bfn .abs (.cons (.var 1) .nil)) .nil))) (.cons (.whl (.cmp .gt (.var 1) (.int 0)) (.cons (.par [0, 1] (.cons (.var 1) (.cons (.bin .mod (.bfn .int (.cons (.var 0) .nil)) (.var 1)) .nil))) .nil)) (.cons (.ret (.var 0)) .nil))), []⟩
def x__law_part : DefX := ⟨d__law_part, f__law_part, ["one", "other"], ["one", "other"], false⟩
def d__law_frac : He.DefD := ⟨("_law_frac", none), "_law_frac", "_law_frac", defArgs (top 38), defBody (top 38), defScope (top 38), [], []⟩
def f__law_frac : Fd := ⟨2, 3, (.cons (.asg (.nm 2) (.bin .mul (.call 30 (.cons (.var 0) (.cons (.var 1) .nil))) (.ife (.cmp .gt (.var 1) (.int 0)) (.int 1) (.neg (.int 1))))) (.cons (.ret (.tup (.cons (.bin .fdiv (.var 0) (.var 2)) (.cons (.bin .fdiv (.var 1) (.var 2)) .nil)))) .nil)), []⟩
def x__law_frac : DefX := ⟨d__law_frac, f__law_frac, ["top", "bottom", "part"], ["top", "bottom"], false⟩
def d__law_plus : He.DefD := ⟨("_law_plus", none), "_law_plus", "_law_plus", defArgs (top 39), defBody (top 39), defScope (top 39), [], []⟩
def f__law_plus : Fd := ⟨2, 2, (.cons (.ret (.call 31 (.cons (.bin .add (.bin .mul (.idx (.var 0) (.int 0)) (.idx (.var 1) (.int 1))) (.bin .mul (.idx (.var 1) (.int 0)) (.idx (.var 0) (.int 1)))) (.cons (.bin .mul (.idx (.var 0) (.int 1)) (.idx (.var 1) (.int 1))) .nil)))) .nil), []⟩
def x__law_plus : DefX := ⟨d__law_plus, f__law_plus, ["one", "other"], ["one", "other"], false⟩
def d__law_minus : He.DefD := ⟨("_law_minus", none), "_law_minus", "_law_minus", defArgs (top 40), defBody (top 40), defScope (top 40), [], []⟩
def f__law_minus : Fd := ⟨2, 2, (.cons (.ret (.call 31 (.cons (.bin .sub (.bin .mul (.idx (.var 0) (.int 0)) (.idx (.var 1) (.int 1))) (.bin .mul (.idx (.var 1) (.int 0)) (.idx (.var 0) (.int 1)))) (.cons (.bin .mul (.idx (.var 0) (.int 1)) (.idx (.var 1) (.int 1))) .nil)))) .nil), []⟩
def x__law_minus : DefX := ⟨d__law_minus, f__law_minus, ["one", "other"], ["one", "other"], false⟩
def d__law_times : He.DefD := ⟨("_law_times", none), "_law_times", "_law_times", defArgs (top 41), defBody (top 41), defScope (top 41), [], []⟩
def f__law_times : Fd := ⟨2, 2, (.cons (.ret (.call 31 (.cons (.bin .mul (.idx (.var 0) (.int 0)) (.idx (.var 1) (.int 0))) (.cons (.bin .mul (.idx (.var 0) (.int 1)) (.idx (.var 1) (.int 1))) .nil)))) .nil), []⟩
def x__law_times : DefX := ⟨d__law_times, f__law_times, ["one", "other"], ["one", "other"], false⟩
def d__law_over : He.DefD := ⟨("_law_over", none), "_law_over", "_law_over", defArgs (top 42), defBody (top 42), defScope (top 42), [], []⟩
def f__law_over : Fd := ⟨2, 2, (.cons (.ret (.call 31 (.cons (.bin .mul (.idx (.var 0) (.int 0)) (.idx (.var 1) (.int 1))) (.cons (.bin .mul (.idx (.var 0) (.int 1)) (.idx (.var 1) (.int 0))) .nil)))) .nil), []⟩
def x__law_over : DefX := ⟨d__law_over, f__law_over, ["one", "other"], ["one", "other"], false⟩
def d__law_is_less : He.DefD := ⟨("_law_is_less", none), "_law_is_less", "_law_is_less", defArgs (top 43), defBody (top 43), defScope (top 43), [], []⟩
def f__law_is_less : Fd := ⟨2, 2, (.cons (.ret (.cmp .lt (.bin .mul (.idx (.var 0) (.int 0)) (.idx (.var 1) (.int 1))) (.bin .mul (.idx (.var 1) (.int 0)) (.idx (.var 0) (.int 1))))) .nil), []⟩
def x__law_is_less : DefX := ⟨d__law_is_less, f__law_is_less, ["one", "other"], ["one", "other"], false⟩
def d__law_car : He.DefD := ⟨("_law_car", none), "_law_car", "_law_car", defArgs (top 44), defBody (top 44), defScope (top 44), [], []⟩
def f__law_car : Fd := ⟨1, 1, (.cons (.ret (.tup (.cons (.call 25 (.cons (.var 0) (.cons (.call 26 (.cons (.var 0) (.cons (.lst (.cons (.int 4) (.cons (.int 30) (.cons (.int 101) .nil)))) .nil))) .nil))) (.cons (.bin .add (.int 1) (.call 25 (.cons (.var 0) (.cons (.int 20) .nil)))) (.cons (.call 25 (.cons (.var 0) (.cons (.int 11) .nil))) .nil))))) .nil), []⟩
def x__law_car : DefX := ⟨d__law_car, f__law_car, ["hand"], ["hand"], false⟩
def d__law_time : He.DefD := ⟨("_law_time", none), "_law_time", "_law_time", defArgs (top 45), defBody (top 45), defScope (top 45), [], []⟩
def f__law_time : Fd := ⟨1, 4, (.cons (.asg (.tp (.cons (.nm 1) (.cons (.nm 2) (.cons (.nm 3) .nil)))) (.var 0)) (.cons (.ret (.ife (.cmp .gt (.var 1) (.int 0)) (.call 31 (.cons (.bin .add (.bin .mul (.var 3) (.var 2)) (.var 1)) (.cons (.var 2) .nil))) (.tup (.cons (.int 0) (.cons (.int 1) .nil))))) .nil)), []⟩
def x__law_time : DefX := ⟨d__law_time, f__law_time, ["car", "speed", "brake", "begin"], ["car"], false⟩
def d__law_speed : He.DefD := ⟨("_law_speed", none), "_law_speed", "_law_speed", defArgs (top 46), defBody (top 46), defScope (top 46), [], []⟩
def f__law_speed : Fd := ⟨2, 5, (.cons (.asg (.tp (.cons (.nm 2) (.cons (.nm 3) (.cons (.nm 4) .nil)))) (.var 0)) (.cons (.ife (.nt (.call 36 (.cons (.tup (.cons (.var 4) (.cons (.int 1) .nil))) (.cons (.var 1) .nil)))) (.cons (.ret (.tup (.cons (.var 2) (.cons (.int 1) .nil)))) .nil) .nil) (.cons (.ife (.nt (.call 36 (.cons (.var 1) (.cons (.call 38 (.cons (.var 0) .nil)) .nil)))) (.cons (.ret (.tup (.cons (.int 0) (.cons (.int 1) .nil)))) .nil) .nil) (.cons (.ret (.call 33 (.cons (.tup (.cons (.var 2) (.cons (.int 1) .nil))) (.cons (.call 34 (.cons (.tup (.cons (.var 3) (.cons (.int 1) .nil))) (.cons (.call 33 (.cons (.var 1) (.cons (.tup (.cons (.var 4) (.cons (.int 1) .nil))) .nil))) .nil))) .nil)))) .nil)))), []⟩
def x__law_speed : DefX := ⟨d__law_speed, f__law_speed, ["car", "moment", "speed", "brake", "begin"], ["car", "moment"], false⟩
def d__law_place : He.DefD := ⟨("_law_place", none), "_law_place", "_law_place", defArgs (top 47), defBody (top 47), defScope (top 47), [], []⟩
def f__law_place : Fd := ⟨2, 9, (.cons (.asg (.tp (.cons (.nm 2) (.cons (.nm 3) (.cons (.nm 4) .nil)))) (.var 0)) (.cons (.ife (.nt (.call 36 (.cons (.tup (.cons (.var 4) (.cons (.int 1) .nil))) (.cons (.var 1) .nil)))) (.cons (.ret (.call 34 (.cons (.tup (.cons (.var 2) (.cons (.int 1) .nil))) (.cons (.var 1) .nil)))) .nil) .nil) (.cons (.asg (.nm 5) (.call 38 (.cons (.var 0) .nil))) (.cons (.asg (.nm 6) (.ife (.call 36 (.cons (.var 5) (.cons (.var 1) .nil))) (.var 5) (.var 1))) (.cons (.asg (.nm 7) (.call 33 (.cons (.var 6) (.cons (.tup (.cons (.var 4) (.cons (.int 1) .nil))) .nil)))) (.cons (.asg (.nm 8) (.call 34 (.cons (.tup (.cons (.int 1) (.cons (.int 2) .nil))) (.cons (.call 32 (.cons (.tup (.cons (.var 2) (.cons (.int 1) .nil))) (.cons (.call 39 (.cons (.var 0) (.cons (.var 6) .nil))) .nil))) .nil)))) (.cons (.ret (.ife (.cmp .gt (.var 2) (.int 0)) (.call 32 (.cons (.tup (.cons (.bin .mul (.var 2) (.var 4)) (.cons (.int 1) .nil))) (.cons (.call 34 (.cons (.var 7) (.cons (.var 8) .nil))) .nil))) (.tup (.cons (.int 0) (.cons (.int 1) .nil))))) .nil))))))), []⟩
def x__law_place : DefX := ⟨d__law_place, f__law_place, ["car", "moment", "speed", "brake", "begin", "end", "here", "more", "mean"], ["car", "moment"], false⟩
def d__law_way : He.DefD := ⟨("_law_way", none), "_law_way", "_law_way", defArgs (top 48), defBody (top 48), defScope (top 48), [], []⟩
def f__law_way : Fd := ⟨1, 1, (.cons (.ret (.call 40 (.cons (.var 0) (.cons (.call 38 (.cons (.var 0) .nil)) .nil)))) .nil), []⟩
def x__law_way : DefX := ⟨d__law_way, f__law_way, ["car"], ["car"], false⟩
def d__law_no_car : He.DefD := ⟨("_law_no_car", none), "_law_no_car", "_law_no_car", defArgs (top 49), defBody (top 49), defScope (top 49), [], []⟩
def f__law_no_car : Fd := ⟨1, 2, (.cons (.asg (.nm 1) (.lst (.cons .non (.cons (.str "?") (.cons (.tup (.cons (.int 1) (.cons (.int 1) .nil))) (.cons (.tup (.cons (.int 101) (.cons (.int 1) (.cons (.int 0) .nil)))) (.cons (.tup (.cons (.neg (.int 1)) (.cons (.int 1) (.cons (.int 0) .nil)))) (.cons (.tup (.cons (.int 1) (.cons (.int 0) (.cons (.int 0) .nil)))) (.cons (.tup (.cons (.int 1) (.cons (.int 21) (.cons (.int 0) .nil)))) (.cons (.tup (.cons (.int 1) (.cons (.int 1) (.cons (.int 11) .nil)))) (.cons (.tup (.cons (.int 1) (.cons (.int 1) (.cons (.neg (.int 1)) .nil)))) (.cons (.lst (.cons (.int 1) (.cons (.int 1) (.cons (.int 1) .nil)))) (.cons (.tup (.cons (.bl true) (.cons (.int 1) (.cons (.int 1) .nil)))) (.cons (.tup (.cons (.int 1) (.cons (.int 1) (.cons (.int 1) (.cons (.int 1) .nil))))) (.cons (.int 5) .nil))))))))))))))) (.cons (.ret (.call 26 (.cons (.var 0) (.cons (.bin .add (.var 1) (.lst (.cons (.tup (.cons (.str "?") (.cons (.int 1) (.cons (.int 1) .nil)))) (.cons (.tup (.cons (.int 1) (.cons .non (.cons (.int 1) .nil)))) (.cons (.call 28 (.cons (.var 0) .nil)) .nil))))) .nil)))) .nil)), []⟩
def x__law_no_car : DefX := ⟨d__law_no_car, f__law_no_car, ["hand", "some"], ["hand"], false⟩
def d__law_no_number : He.DefD := ⟨("_law_no_number", none), "_law_no_number", "_law_no_number", defArgs (top 50), defBody (top 50), defScope (top 50), [], []⟩
def f__law_no_number : Fd := ⟨2, 2, (.cons (.ret (.call 26 (.cons (.var 0) (.cons (.lst (.cons (.bin .add (.var 1) (.int 1)) (.cons (.neg (.int 1)) (.cons .non (.cons (.bl true) (.cons (.str "?") (.cons (.tup (.cons (.int 1) .nil)) (.cons (.call 28 (.cons (.var 0) .nil)) .nil)))))))) .nil)))) .nil), []⟩
def x__law_no_number : DefX := ⟨d__law_no_number, f__law_no_number, ["hand", "most"], ["hand", "most"], false⟩
def d__law_is_car : He.DefD := ⟨("_law_is_car", none), "_law_is_car", "_law_is_car", defArgs (top 52), defBody (top 52), defScope (top 52), [], []⟩
def f__law_is_car : Fd := ⟨1, 2, (.cons (.ife (.or (.cons (.nt (.isi (.var 0) .tuple)) (.cons (.cmp .ne (.bfn .len (.cons (.var 0) .nil)) (.int 3)) (.cons (.nt (.bfn .all (.cons (.comp [1] (.nm 1) (.val (.var 0)) .no (.call 29 (.cons (.var 1) .nil))) .nil))) .nil)))) (.cons (.ret (.bl false)) .nil) .nil) (.cons (.ret (.and (.cons (.chn .le .le (.int 0) (.idx (.var 0) (.int 0)) (.int 100)) (.cons (.chn .le .le (.int 1) (.idx (.var 0) (.int 1)) (.int 20)) (.cons (.chn .le .le (.int 0) (.idx (.var 0) (.int 2)) (.int 10)) .nil))))) .nil)), []⟩
def x__law_is_car : DefX := ⟨d__law_is_car, f__law_is_car, ["thing", "one"], ["thing"], false⟩
def d__law_is_right : He.DefD := ⟨("_law_is_right", none), "_law_is_right", "_law_is_right", defArgs (top 53), defBody (top 53), defScope (top 53), [], []⟩
def f__law_is_right : Fd := ⟨2, 9, (.cons (.par [2, 3] (.cons (.call 41 (.cons (.var 1) .nil)) (.cons (.call 38 (.cons (.var 1) .nil)) .nil))) (.cons (.asg (.nm 4) (.bin .add (.int 1) (.call 25 (.cons (.var 0) (.cons (.int 9) .nil))))) (.cons (.ife (.nt (.call 27 (.cons (.lst (.cons (.call 12 (.cons (.var 1) .nil)) (.cons (.call 14 (.cons (.var 1) .nil)) (.cons (.call 21 (.cons (.var 1) .nil)) .nil)))) (.cons (.lst (.cons (.var 2) (.cons (.var 3) (.cons (.ife (.cmp .gt (.idx (.var 3) (.int 0)) (.int 0)) (.call 35 (.cons (.var 2) (.cons (.var 3) .nil))) (.tup (.cons (.int 0) (.cons (.int 1) .nil)))) .nil)))) .nil)))) (.cons (.ret (.bl false)) .nil) .nil) (.cons (.asg (.nm 5) (.bin .add (.bin .fdiv (.bin .mul (.idx (.var 3) (.int 0)) (.var 4)) (.idx (.var 3) (.int 1))) (.bin .mul (.int 2) (.var 4)))) (.cons (.for_ (.nm 6) (.val (.tup (.cons (.call 31 (.cons (.call 25 (.cons (.var 0) (.cons (.bin .add (.var 5) (.int 1)) .nil))) (.cons (.var 4) .nil))) (.cons (.tup (.cons (.idx (.var 1) (.int 2)) (.cons (.int 1) .nil))) (.cons (.tup (.cons (.int 0) (.cons (.int 1) .nil))) (.cons (.tup (.cons (.int 1000) (.cons (.int 1) .nil))) .nil)))))) (.cons (.ife (.nt (.call 27 (.cons (.lst (.cons (.call 16 (.cons (.var 1) (.cons (.var 6) .nil))) (.cons (.call 18 (.cons (.var 1) (.cons (.var 6) .nil))) .nil))) (.cons (.lst (.cons (.call 40 (.cons (.var 1) (.cons (.var 6) .nil))) (.cons (.call 39 (.cons (.var 1) (.cons (.var 6) .nil))) .nil))) .nil)))) (.cons (.ret (.bl false)) .nil) .nil) .nil)) (.cons (.asg (.nm 7) (.call 25 (.cons (.var 0) (.cons (.bin .add (.idx (.var 1) (.int 0)) (.int 1)) .nil)))) (.cons (.asg (.nm 8) (.tup (.cons (.bin .sub (.idx (.var 1) (.int 0)) (.var 7)) (.cons (.idx (.var 1) (.int 1)) (.cons (.idx (.var 1) (.int 2)) .nil))))) (.cons (.ife (.nt (.call 27 (.cons (.lst (.cons (.call 22 (.cons (.var 1) (.cons (.var 7) .nil))) (.cons (.call 23 (.cons (.var 1) (.cons (.var 7) .nil))) .nil))) (.cons (.lst (.cons (.var 8) (.cons (.call 33 (.cons (.var 2) (.cons (.call 41 (.cons (.var 8) .nil)) .nil))) .nil))) .nil)))) (.cons (.ret (.bl false)) .nil) .nil) (.cons (.ret (.isb (.call 36 (.cons (.call 40 (.cons (.var 1) (.cons (.var 3) .nil))) (.cons (.var 2) .nil))) false)) .nil))))))))), []⟩
def x__law_is_right : DefX := ⟨d__law_is_right, f__law_is_right, ["hand", "car", "way", "time", "bottom", "end", "moment", "by", "less_told"], ["hand", "car"], false⟩
def d__law_are_wishes_right : He.DefD := ⟨("_law_are_wishes_right", none), "_law_are_wishes_right", "_law_are_wishes_right", defArgs (top 54), defBody (top 54), defScope (top 54), [], []⟩
def f__law_are_wishes_right : Fd := ⟨2, 8, (.cons (.asg (.tp (.cons (.nm 2) (.cons (.nm 3) (.cons (.nm 4) .nil)))) (.var 1)) (.cons (.asg (.nm 5) (.call 25 (.cons (.var 0) (.cons (.call 26 (.cons (.var 0) (.cons (.lst (.cons (.int 10) (.cons (.int 300) (.cons (.int 3000) .nil)))) .nil))) .nil)))) (.cons (.asg (.nm 6) (.comp [7] (.nm 7) (.rng1 (.int 101)) (.so (.nt (.call 36 (.cons (.tup (.cons (.var 5) (.cons (.int 1) .nil))) (.cons (.call 41 (.cons (.tup (.cons (.var 7) (.cons (.var 3) (.cons (.var 4) .nil)))) .nil)) .nil))))) (.var 7))) (.cons (.ife (.nt (.call 27 (.cons (.call 19 (.cons (.var 5) (.cons (.var 3) (.cons (.var 4) .nil)))) (.cons (.idx (.var 6) (.neg (.int 1))) .nil)))) (.cons (.ret (.bl false)) .nil) .nil) (.cons (.asg (.nm 6) (.comp [7] (.nm 7) (.rng2 (.int 1) (.int 21)) (.so (.nt (.call 36 (.cons (.tup (.cons (.var 5) (.cons (.int 1) .nil))) (.cons (.call 41 (.cons (.tup (.cons (.var 2) (.cons (.var 7) (.cons (.var 4) .nil)))) .nil)) .nil))))) (.var 7))) (.cons (.ret (.call 27 (.cons (.call 20 (.cons (.var 5) (.cons (.var 2) (.cons (.var 4) .nil)))) (.cons (.ife (.cmp .ne (.var 6) (.lst .nil)) (.idx (.var 6) (.int 0)) .non) .nil)))) .nil)))))), []⟩
def x__law_are_wishes_right : DefX := ⟨d__law_are_wishes_right, f__law_are_wishes_right, ["hand", "car", "speed", "brake", "begin", "road", "some", "one"], ["hand", "car"], false⟩
def d__law_are_refused : He.DefD := ⟨("_law_are_refused", none), "_law_are_refused", "_law_are_refused", defArgs (top 55), defBody (top 55), defScope (top 55), [], []⟩
def f__law_are_refused : Fd := ⟨2, 7, (.cons (.par [2, 3] (.cons (.call 42 (.cons (.var 0) .nil)) (.cons (.call 26 (.cons (.var 0) (.cons (.lst (.cons .non (.cons (.str "?") (.cons (.tup (.cons (.neg (.int 1)) (.cons (.int 2) .nil))) (.cons (.tup (.cons (.int 1001) (.cons (.int 1) .nil))) (.cons (.tup (.cons (.int 1) (.cons (.int 101) .nil))) (.cons (.tup (.cons (.int 2) (.cons (.int 4) .nil))) (.cons (.tup (.cons (.int 1) (.cons (.int 0) .nil))) (.cons (.lst (.cons (.int 1) (.cons (.int 2) .nil))) (.cons (.int 5) (.cons (.tup (.cons (.bl true) (.cons (.int 2) .nil))) .nil))))))))))) .nil))) .nil))) (.cons (.asg (.nm 4) (.call 43 (.cons (.var 0) (.cons (.bin .pow (.int 10) (.int 5)) .nil)))) (.cons (.asg (.nm 5) (.lst (.cons (.lamc 1000 (.call 12 (.cons (.var 2) .nil))) .nil))) (.cons (.app 5 (.lamc 1000 (.call 14 (.cons (.var 2) .nil)))) (.cons (.app 5 (.lamc 1000 (.call 16 (.cons (.var 2) (.cons (.var 3) .nil))))) (.cons (.app 5 (.lamc 1000 (.call 16 (.cons (.var 1) (.cons (.var 3) .nil))))) (.cons (.app 5 (.lamc 1000 (.call 18 (.cons (.var 1) (.cons (.var 3) .nil))))) (.cons (.app 5 (.lamc 1000 (.call 21 (.cons (.var 2) .nil)))) (.cons (.app 5 (.lamc 1000 (.call 22 (.cons (.var 2) (.cons (.str "?") .nil))))) (.cons (.app 5 (.lamc 1000 (.call 22 (.cons (.var 1) (.cons (.call 43 (.cons (.var 0) (.cons (.idx (.var 1) (.int 0)) .nil))) .nil))))) (.cons (.app 5 (.lamc 1000 (.call 23 (.cons (.var 1) (.cons (.call 43 (.cons (.var 0) (.cons (.idx (.var 1) (.int 0)) .nil))) .nil))))) (.cons (.app 5 (.lamc 1000 (.call 19 (.cons (.var 4) (.cons (.call 26 (.cons (.var 0) (.cons (.lst (.cons (.int 0) (.cons (.int 21) (.cons .non .nil)))) .nil))) (.cons (.int 1) .nil)))))) (.cons (.app 5 (.lamc 1000 (.call 19 (.cons (.var 4) (.cons (.int 1) (.cons (.call 43 (.cons (.var 0) (.cons (.int 10) .nil))) .nil)))))) (.cons (.app 5 (.lamc 1000 (.call 19 (.cons (.var 4) (.cons (.int 1) (.cons (.int 1) .nil)))))) (.cons (.app 5 (.lamc 1000 (.call 20 (.cons (.var 4) (.cons (.call 43 (.cons (.var 0) (.cons (.int 100) .nil))) (.cons (.int 1) .nil)))))) (.cons (.app 5 (.lamc 1000 (.call 20 (.cons (.var 4) (.cons (.int 9) (.cons (.int 1) .nil)))))) (.cons (.asg (.nm 6) (.lst (.cons (.str "brakes") (.cons (.str "brakes") (.cons (.str "brakes") (.cons (.str "road") (.cons (.str "road") (.cons (.str "brakes") (.cons (.str "brakes") (.cons (.str "road") (.cons (.str "road") (.cons (.str "brakes") (.cons (.str "brakes") (.cons (.str "road") (.cons (.str "brakes") (.cons (.str "road") .nil)))))))))))))))) (.cons (.ret (.cmp .eq (.var 5) (.var 6))) .nil)))))))))))))))))), []⟩
def x__law_are_refused : DefX := ⟨d__law_are_refused, f__law_are_refused, ["hand", "car", "bad", "odd", "far_told", "words_told", "due"], ["hand", "car"], true⟩
def d_law : He.DefD := ⟨("law", none), "law", "law", defArgs (top 56), defBody (top 56), defScope (top 56), [], []⟩
def f_law : Fd := ⟨1, 8, (.cons (.hand 1 (.call 24 (.cons (.var 0) .nil))) (.cons (.asg (.nm 2) (.lst (.cons (.call 12 (.cons (.tup (.cons (.int 20) (.cons (.int 5) (.cons (.int 1) .nil)))) .nil)) (.cons (.call 14 (.cons (.tup (.cons (.int 20) (.cons (.int 5) (.cons (.int 1) .nil)))) .nil)) (.cons (.call 16 (.cons (.tup (.cons (.int 20) (.cons (.int 5) (.cons (.int 1) .nil)))) (.cons (.tup (.cons (.int 3) (.cons (.int 1) .nil))) .nil))) (.cons (.call 18 (.cons (.tup (.cons (.int 20) (.cons (.int 5) (.cons (.int 1) .nil)))) (.cons (.tup (.cons (.int 3) (.cons (.int 1) .nil))) .nil))) (.cons (.call 19 (.cons (.int 60) (.cons (.int 5) (.cons (.int 1) .nil)))) .nil))))))) (.cons (.ife (.nt (.call 27 (.cons (.bin .add (.var 2) (.lst (.cons (.call 20 (.cons (.int 60) (.cons (.int 20) (.cons (.int 1) .nil)))) (.cons (.call 12 (.cons (.tup (.cons (.int 0) (.cons (.int 1) (.cons (.int 9) .nil)))) .nil)) (.cons (.call 21 (.cons (.tup (.cons (.int 20) (.cons (.int 5) (.cons (.int 1) .nil)))) .nil)) .nil))))) (.cons (.lst (.cons (.tup (.cons (.int 60) (.cons (.int 1) .nil))) (.cons (.tup (.cons (.int 5) (.cons (.int 1) .nil))) (.cons (.tup (.cons (.int 50) (.cons (.int 1) .nil))) (.cons (.tup (.cons (.int 10) (.cons (.int 1) .nil))) (.cons (.int 20) (.cons (.int 5) (.cons (.tup (.cons (.int 0) (.cons (.int 1) .nil))) (.cons (.tup (.cons (.int 12) (.cons (.int 1) .nil))) .nil))))))))) .nil)))) (.cons (.ret (.bl false)) .nil) .nil) (.cons (.for_ (.nm 3) (.rng1 (.int 4)) (.cons (.asg (.nm 4) (.call 37 (.cons (.var 1) .nil))) (.cons (.ife (.nt (.call 45 (.cons (.var 1) (.cons (.var 4) .nil)))) (.cons (.ret (.bl false)) .nil) .nil) (.cons (.ife (.nt (.call 46 (.cons (.var 1) (.cons (.var 4) .nil)))) (.cons (.ret (.bl false)) .nil) .nil) (.cons (.ife (.nt (.call 47 (.cons (.var 1) (.cons (.var 4) .nil)))) (.cons (.ret (.bl false)) .nil) .nil) (.cons (.par [5, 6] (.cons (.call 25 (.cons (.var 1) (.cons (.int 3) .nil))) (.cons (.call 26 (.cons (.var 1) (.cons (.lst (.cons .non (.cons (.bl true) (.cons (.str "?") (.cons (.neg (.int 1)) (.cons (.int 0) (.cons (.int 101) (.cons (.int 21) (.cons (.int 11) (.cons (.tup (.cons (.int 1) .nil)) .nil)))))))))) .nil))) .nil))) (.cons (.for_ (.nm 7) (.val (.tup (.cons (.var 4) (.cons (.bfn .list (.cons (.var 4) .nil)) (.cons (.slc (.var 4) .no (.so (.int 2))) (.cons (.bin .add (.var 4) (.tup (.cons (.int 1) .nil))) (.cons (.bin .add (.bin .add (.slc (.var 4) .no (.so (.var 5))) (.tup (.cons (.var 6) .nil))) (.slc (.var 4) (.so (.bin .add (.var 5) (.int 1))) .no)) (.cons (.rev (.var 4)) (.cons .non (.cons (.int 5) (.cons .dic0 (.cons (.call 42 (.cons (.var 1) .nil)) .nil)))))))))))) (.cons (.ife (.nt (.call 27 (.cons (.call 10 (.cons (.var 7) .nil)) (.cons (.call 44 (.cons (.var 7) .nil)) .nil)))) (.cons (.ret (.bl false)) .nil) .nil) .nil)) .nil))))))) (.cons (.ret (.bl true)) .nil))))), []⟩
def x_law : DefX := ⟨d_law, f_law, ["script", "hand", "said", "turn", "car", "at", "odd", "thing"], ["script"], false⟩
def d__law_word : He.DefD := ⟨("_law_word", none), "_law_word", "_law_word", defArgs (top 51), defBody (top 51), defScope (top 51), [], []⟩
def f__law_word : Fd := ⟨0, 4, (.cons (.asg (.nm 1) (.str "told")) (.cons (.tryth .ex 0 2 (.cons (.asg (.nm 3) (.lst (.cons (.isx 2 1) (.cons (.isx 2 2) .nil)))) (.cons (.asg (.nm 1) (.str "other")) (.cons (.ife (.and (.cons (.cmp .eq (.mth1 .count (.var 3) (.bl true)) (.int 1)) (.cons (.isx 2 1000) .nil))) (.cons (.asg (.nm 1) (.idx (.lst (.cons (.str "brakes") (.cons (.str "road") .nil))) (.mth1 .index (.var 3) (.bl true)))) .nil) .nil) .nil)))) (.cons (.ret (.var 1)) .nil))), []⟩
def x__law_word : DefX := ⟨d__law_word, f__law_word, ["call", "found", "error", "flags"], ["call"], false⟩
def prog : PrX := ⟨[x_is_integer, x_is_within, x_shared, x_low, x_plus, x_minus, x_times, x_over, x_is_less, x_is_fraction, x_is_brakes, x_check_brakes, x_stop_way, x_way_of, x_stop_time, x_is_moment, x_place_at, x_place_of, x_speed_at, x_top_speed_for, x_brake_for, x_mean_speed, x_slower, x_saved_by, x__law_hand, x__law_draw, x__law_some, x__law_is, x__law_deep, x__law_is_int, x__law_part, x__law_frac, x__law_plus, x__law_minus, x__law_times, x__law_over, x__law_is_less, x__law_car, x__law_time, x__law_speed, x__law_place, x__law_way, x__law_no_car, x__law_no_number, x__law_is_car, x__law_is_right, x__law_are_wishes_right, x__law_are_refused, x_law], [x__law_word], [], ["GarageError", "NoBrakes", "NoRoad"], ["isinstance", "int", "bool", "abs", "tuple", "len", "all", "max", "range", "list", "str"], ["ValueError"], [(0, 0, true), (0, 1, false), (0, 2, false), (0, 1000, true), (1, 0, true), (1, 1, true), (1, 2, false), (1, 1000, true), (2, 0, true), (2, 1, false), (2, 2, true), (2, 1000, true)]⟩
theorem ok_is_integer : x_is_integer.okA prog.tb = true := by decide +kernel
theorem ok_is_within : x_is_within.okA prog.tb = true := by decide +kernel
theorem ok_shared : x_shared.okA prog.tb = true := by decide +kernel
theorem ok_low : x_low.okA prog.tb = true := by decide +kernel
theorem ok_plus : x_plus.okA prog.tb = true := by decide +kernel
theorem ok_minus : x_minus.okA prog.tb = true := by decide +kernel
theorem ok_times : x_times.okA prog.tb = true := by decide +kernel
theorem ok_over : x_over.okA prog.tb = true := by decide +kernel
theorem ok_is_less : x_is_less.okA prog.tb = true := by decide +kernel
theorem ok_is_fraction : x_is_fraction.okA prog.tb = true := by decide +kernel
theorem ok_is_brakes : x_is_brakes.okA prog.tb = true := by decide +kernel
theorem ok_check_brakes : x_check_brakes.okA prog.tb = true := by decide +kernel
theorem ok_stop_way : x_stop_way.okA prog.tb = true := by decide +kernel
theorem ok_way_of : x_way_of.okA prog.tb = true := by decide +kernel
theorem ok_stop_time : x_stop_time.okA prog.tb = true := by decide +kernel
theorem ok_is_moment : x_is_moment.okA prog.tb = true := by decide +kernel
theorem ok_place_at : x_place_at.okA prog.tb = true := by decide +kernel
theorem ok_place_of : x_place_of.okA prog.tb = true := by decide +kernel
theorem ok_speed_at : x_speed_at.okA prog.tb = true := by decide +kernel
theorem ok_top_speed_for : x_top_speed_for.okA prog.tb = true := by decide +kernel
theorem ok_brake_for : x_brake_for.okA prog.tb = true := by decide +kernel
theorem ok_mean_speed : x_mean_speed.okA prog.tb = true := by decide +kernel
theorem ok_slower : x_slower.okA prog.tb = true := by decide +kernel
theorem ok_saved_by : x_saved_by.okA prog.tb = true := by decide +kernel
theorem ok__law_hand : x__law_hand.okA prog.tb = true := by decide +kernel
theorem ok__law_draw : x__law_draw.okA prog.tb = true := by decide +kernel
theorem ok__law_some : x__law_some.okA prog.tb = true := by decide +kernel
theorem ok__law_is : x__law_is.okA prog.tb = true := by decide +kernel
theorem ok__law_deep : x__law_deep.okA prog.tb = true := by decide +kernel
theorem ok__law_is_int : x__law_is_int.okA prog.tb = true := by decide +kernel
theorem ok__law_part : x__law_part.okA prog.tb = true := by decide +kernel
theorem ok__law_frac : x__law_frac.okA prog.tb = true := by decide +kernel
theorem ok__law_plus : x__law_plus.okA prog.tb = true := by decide +kernel
theorem ok__law_minus : x__law_minus.okA prog.tb = true := by decide +kernel
theorem ok__law_times : x__law_times.okA prog.tb = true := by decide +kernel
theorem ok__law_over : x__law_over.okA prog.tb = true := by decide +kernel
theorem ok__law_is_less : x__law_is_less.okA prog.tb = true := by decide +kernel
theorem ok__law_car : x__law_car.okA prog.tb = true := by decide +kernel
theorem ok__law_time : x__law_time.okA prog.tb = true := by decide +kernel
theorem ok__law_speed : x__law_speed.okA prog.tb = true := by decide +kernel
theorem ok__law_place : x__law_place.okA prog.tb = true := by decide +kernel
theorem ok__law_way : x__law_way.okA prog.tb = true := by decide +kernel
theorem ok__law_no_car : x__law_no_car.okA prog.tb = true := by decide +kernel
theorem ok__law_no_number : x__law_no_number.okA prog.tb = true := by decide +kernel
theorem ok__law_is_car : x__law_is_car.okA prog.tb = true := by decide +kernel
theorem ok__law_is_right : x__law_is_right.okA prog.tb = true := by decide +kernel
theorem ok__law_are_wishes_right : x__law_are_wishes_right.okA prog.tb = true := by decide +kernel
theorem ok__law_are_refused : x__law_are_refused.okA prog.tb = true := by decide +kernel
theorem ok_law : x_law.ok prog.tb = true := by decide +kernel
theorem ok__law_word : x__law_word.okT prog.tb = true := by decide +kernel
theorem okA_law : x_law.okA prog.tb = true := ok_law
theorem oks : ∀ y ∈ prog.defs, y.okA prog.tb = true := List.forall_mem_cons.mpr ⟨ok_is_integer, List.forall_mem_cons.mpr ⟨ok_is_within, List.forall_mem_cons.mpr ⟨ok_shared, List.forall_mem_cons.mpr ⟨ok_low, List.forall_mem_cons.mpr ⟨ok_plus, List.forall_mem_cons.mpr ⟨ok_minus, List.forall_mem_cons.mpr ⟨ok_times, List.forall_mem_cons.mpr ⟨ok_over, List.forall_mem_cons.mpr ⟨ok_is_less, List.forall_mem_cons.mpr ⟨ok_is_fraction, List.forall_mem_cons.mpr ⟨ok_is_brakes, List.forall_mem_cons.mpr ⟨ok_check_brakes, List.forall_mem_cons.mpr ⟨ok_stop_way, List.forall_mem_cons.mpr ⟨ok_way_of, List.forall_mem_cons.mpr ⟨ok_stop_time, List.forall_mem_cons.mpr ⟨ok_is_moment, List.forall_mem_cons.mpr ⟨ok_place_at, List.forall_mem_cons.mpr ⟨ok_place_of, List.forall_mem_cons.mpr ⟨ok_speed_at, List.forall_mem_cons.mpr ⟨ok_top_speed_for, List.forall_mem_cons.mpr ⟨ok_brake_for, List.forall_mem_cons.mpr ⟨ok_mean_speed, List.forall_mem_cons.mpr ⟨ok_slower, List.forall_mem_cons.mpr ⟨ok_saved_by, List.forall_mem_cons.mpr ⟨ok__law_hand, List.forall_mem_cons.mpr ⟨ok__law_draw, List.forall_mem_cons.mpr ⟨ok__law_some, List.forall_mem_cons.mpr ⟨ok__law_is, List.forall_mem_cons.mpr ⟨ok__law_deep, List.forall_mem_cons.mpr ⟨ok__law_is_int, List.forall_mem_cons.mpr ⟨ok__law_part, List.forall_mem_cons.mpr ⟨ok__law_frac, List.forall_mem_cons.mpr ⟨ok__law_plus, List.forall_mem_cons.mpr ⟨ok__law_minus, List.forall_mem_cons.mpr ⟨ok__law_times, List.forall_mem_cons.mpr ⟨ok__law_over, List.forall_mem_cons.mpr ⟨ok__law_is_less, List.forall_mem_cons.mpr ⟨ok__law_car, List.forall_mem_cons.mpr ⟨ok__law_time, List.forall_mem_cons.mpr ⟨ok__law_speed, List.forall_mem_cons.mpr ⟨ok__law_place, List.forall_mem_cons.mpr ⟨ok__law_way, List.forall_mem_cons.mpr ⟨ok__law_no_car, List.forall_mem_cons.mpr ⟨ok__law_no_number, List.forall_mem_cons.mpr ⟨ok__law_is_car, List.forall_mem_cons.mpr ⟨ok__law_is_right, List.forall_mem_cons.mpr ⟨ok__law_are_wishes_right, List.forall_mem_cons.mpr ⟨ok__law_are_refused, List.forall_mem_cons.mpr ⟨okA_law, fun _ z => by cases z⟩⟩⟩⟩⟩⟩⟩⟩⟩⟩⟩⟩⟩⟩⟩⟩⟩⟩⟩⟩⟩⟩⟩⟩⟩⟩⟩⟩⟩⟩⟩⟩⟩⟩⟩⟩⟩⟩⟩⟩⟩⟩⟩⟩⟩⟩⟩⟩⟩
theorem okTs : ∀ y ∈ prog.tells, y.okT prog.tb = true := List.forall_mem_cons.mpr ⟨ok__law_word, fun _ z => by cases z⟩
abbrev R : PySem.W.OpenRow := PySem.W.OpenLaw.row PySem.Challenge.rw_mendgarage_k27_whole_ways_to_stop
abbrev hk : PySem.W.Hook := He.hookX 4 prog.fa prog.fn [] prog.tf prog.ex
def ob (s : PySem.W.SharedT) : He.AlX := He.obsX 4 prog.fa prog.fn [] prog.tf prog.ex (HandSHeadRun.getT s)
theorem ob_eq (s : PySem.W.SharedT) : ob s = hk.obs s.abs := He.obsX_eq (HandSHeadRun.getT_eq s)
def loose : List Str := "GarageError" :: "NoBrakes" :: "NoRoad" :: "_law_are_refused" :: "_law_are_wishes_right" :: "_law_car" :: "_law_deep" :: "_law_draw" :: "_law_frac" :: "_law_hand" :: "_law_is" :: "_law_is_car" :: "_law_is_int" :: "_law_is_less" :: "_law_is_right" :: "_law_minus" :: "_law_no_car" :: "_law_no_number" :: "_law_over" :: "_law_part" :: "_law_place" :: "_law_plus" :: "_law_some" :: "_law_speed" :: "_law_time" :: "_law_times" :: "_law_way" :: "_law_word" :: "brake_for" :: "check_brakes" :: "is_brakes" :: "is_fraction" :: "is_integer" :: "is_less" :: "is_moment" :: "is_within" :: "low" :: "mean_speed" :: "minus" :: "over" :: "place_at" :: "place_of" :: "plus" :: "saved_by" :: "shared" :: "slower" :: "speed_at" :: "stop_time" :: "stop_way" :: "times" :: "top_speed_for" :: "way_of" :: []
theorem run_head (w : World) : HandSHeadRun.RunEq R (PySem.W.view R.prog [56]) hk ob 3000 loose w := by
  intro os
  kernel_rfl
end HX

namespace HX
open PySem (PyData Str)
open PyD
abbrev P : Pg := prog.pg
theorem p0 : P.fd 0 = some fIsInt := rfl
theorem p1 : P.fd 1 = some (fWithin 0) := rfl
theorem p2 : P.fd 2 = some f_shared := rfl
theorem p3 : P.fd 3 = some f_low := rfl
theorem p4 : P.fd 4 = some f_plus := rfl
theorem p5 : P.fd 5 = some f_minus := rfl
theorem p6 : P.fd 6 = some f_times := rfl
theorem p7 : P.fd 7 = some f_over := rfl
theorem p8 : P.fd 8 = some f_is_less := rfl
theorem p9 : P.fd 9 = some f_is_fraction := rfl
theorem p10 : P.fd 10 = some f_is_brakes := rfl
theorem p11 : P.fd 11 = some f_check_brakes := rfl
theorem p12 : P.fd 12 = some f_stop_way := rfl
theorem p13 : P.fd 13 = some f_way_of := rfl
theorem p14 : P.fd 14 = some f_stop_time := rfl
theorem p15 : P.fd 15 = some f_is_moment := rfl
theorem p16 : P.fd 16 = some f_place_at := rfl
theorem p17 : P.fd 17 = some f_place_of := rfl
theorem p18 : P.fd 18 = some f_speed_at := rfl
theorem p19 : P.fd 19 = some f_top_speed_for := rfl
theorem p20 : P.fd 20 = some f_brake_for := rfl
theorem p21 : P.fd 21 = some f_mean_speed := rfl
theorem p22 : P.fd 22 = some f_slower := rfl
theorem p23 : P.fd 23 = some f_saved_by := rfl
theorem p24 : HandAt P 24 := fun n ns => hand_of (A := 853) (B := 158) (by decide) rfl
theorem p25 : DrawAt P 25 := drawAt_of1 (C := 103) (D := 48271) (F := 40692) (G := 2147483399) rfl ⟨by decide, by decide, by decide⟩
theorem p26 : P.fd 26 = some (fAny 25) := rfl
theorem p27 : P.fd 27 = some f__law_is := rfl
theorem p28 : P.fd 28 = some f__law_deep := rfl
theorem p29 : P.fd 29 = some f__law_is_int := rfl
theorem p30 : P.fd 30 = some f__law_part := rfl
theorem p31 : P.fd 31 = some f__law_frac := rfl
theorem p32 : P.fd 32 = some f__law_plus := rfl
theorem p33 : P.fd 33 = some f__law_minus := rfl
theorem p34 : P.fd 34 = some f__law_times := rfl
theorem p35 : P.fd 35 = some f__law_over := rfl
theorem p36 : P.fd 36 = some f__law_is_less := rfl
theorem p37 : P.fd 37 = some f__law_car := rfl
theorem p38 : P.fd 38 = some f__law_time := rfl
theorem p39 : P.fd 39 = some f__law_speed := rfl
theorem p40 : P.fd 40 = some f__law_place := rfl
theorem p41 : P.fd 41 = some f__law_way := rfl
theorem p42 : P.fd 42 = some f__law_no_car := rfl
theorem p43 : P.fd 43 = some f__law_no_number := rfl
theorem p44 : P.fd 44 = some f__law_is_car := rfl
theorem p45 : P.fd 45 = some f__law_is_right := rfl
theorem p46 : P.fd 46 = some f__law_are_wishes_right := rfl
theorem p47 : P.fd 47 = some f__law_are_refused := rfl
theorem p48 : P.fd 48 = some f_law := rfl
theorem p1000 : P.fd 1000 = some f__law_word := rfl
@[simp] theorem sub0_0 : P.sub 0 0 = some true := rfl
@[simp] theorem sub0_1 : P.sub 0 1 = some false := rfl
@[simp] theorem sub0_2 : P.sub 0 2 = some false := rfl
@[simp] theorem sub0_1000 : P.sub 0 1000 = some true := rfl
@[simp] theorem sub1_0 : P.sub 1 0 = some true := rfl
@[simp] theorem sub1_1 : P.sub 1 1 = some true := rfl
@[simp] theorem sub1_2 : P.sub 1 2 = some false := rfl
@[simp] theorem sub1_1000 : P.sub 1 1000 = some true := rfl
@[simp] theorem sub2_0 : P.sub 2 0 = some true := rfl
@[simp] theorem sub2_1 : P.sub 2 1 = some false := rfl
@[simp] theorem sub2_2 : P.sub 2 2 = some true := rfl
@[simp] theorem sub2_1000 : P.sub 2 1000 = some true := rfl
end HX

namespace HX
open PySem (PyData Str)
open PyD
/-! cars, what the program counts of them -/
theorem lowP : LowOk P 3 := low_ok (kS := 2) rfl rfl
theorem p4' : P.fd 4 = some (fPlus 3) := rfl
theorem p5' : P.fd 5 = some (fMinus 3) := rfl
theorem p6' : P.fd 6 = some (fTimes 3) := rfl
theorem p7' : P.fd 7 = some (fOver 3) := rfl
theorem p8' : P.fd 8 = some fLess := rfl
theorem p9' : P.fd 9 = some (fIsFrac 0 2) := rfl
theorem bd {x y : Int} {A B : Nat} (h1 : x.natAbs ≤ A) (h2 : y.natAbs ≤ B) : (x * y).natAbs ≤ A * B := by
  rw [Int.natAbs_mul]
  exact Nat.mul_le_mul h1 h2
theorem bmul {x y : Int} (h1 : x.natAbs < 2 ^ 64) : bop .mul (.int x) (.int y) = some (false, .int (x * y)) := bop_mul_int (mulOk_l h1)
theorem sz_fr {a b : Int} (h1 : a.natAbs < 2 ^ 64) (h2 : 0 < b) (h3 : b < 2 ^ 64) : Sz (fr a b) := by
  obtain ⟨g1, g2, g3⟩ := fr_bd (a := a) h2
  exact ⟨by omega, g2, by omega⟩
theorem sz_one {a : Int} (h1 : a.natAbs < 2 ^ 64) : Sz (a, 1) := ⟨h1, (by show (0 : Int) < 1; omega), (by show (1 : Int) < 2 ^ 64; omega)⟩
section
variable {a c x : Int} (hc : 0 < c)
include hc
theorem sub_one : fsub (fr a c) (x, 1) = fr (a - x * c) c := by rw [← fr_one x, fsub_fr hc (by omega), Int.mul_one, Int.mul_one]
theorem one_sub : fsub (x, 1) (fr a c) = fr (x * c - a) c := by rw [← fr_one x, fsub_fr (by omega) hc, Int.mul_one, Int.one_mul]
theorem one_add : fadd (x, 1) (fr a c) = fr (x * c + a) c := by rw [← fr_one x, fadd_fr (by omega) hc, Int.mul_one, Int.one_mul]
theorem one_mul' : fmul (x, 1) (fr a c) = fr (x * a) c := by rw [← fr_one x, fmul_fr (by omega) hc, Int.one_mul]
theorem lt_one : flt (fr a c) (x, 1) = decide (a < x * c) := by rw [← fr_one x, flt_fr hc (by omega), Int.mul_one]
theorem one_lt : flt (x, 1) (fr a c) = decide (x * c < a) := by rw [← fr_one x, flt_fr (by omega) hc, Int.mul_one]
end
structure CarOk (v b t : Int) : Prop where
  v0 : 0 ≤ v
  v1 : v ≤ 100
  b0 : 1 ≤ b
  b1 : b ≤ 20
  t0 : 0 ≤ t
  t1 : t ≤ 10
abbrev carD (v b t : Int) : PyData := .tuple [.int v, .int b, .int t]
def isB : PyData → Bool
  | .tuple [x, y, z] => isW 0 100 x && (isW 1 20 y && isW 0 10 z)
  | _ => false
theorem CarOk.is {v b t : Int} (k : CarOk v b t) : isB (carD v b t) = true := by
  show (isW 0 100 (.int v) && (isW 1 20 (.int b) && isW 0 10 (.int t))) = true
  rw [isW_ok k.v0 k.v1, isW_ok k.b0 k.b1, isW_ok k.t0 k.t1]
  rfl
theorem isb_run {n : Nat} {h : Hand} {d : PyData} : run P (n + 3) 10 none [.sh d] h = .ok false (.bool (isB d)) h := by
  rw [run_eq p10 rfl rfl]
  cases d <;> try (simp [f_is_brakes, isB, isTy]; done)
  rename_i ds
  match ds with
  | [] => simp [f_is_brakes, isB, isTy]
  | [x] => simp [f_is_brakes, isB, isTy]
  | [x, y] => simp [f_is_brakes, isB, isTy]
  | x :: y :: z :: w :: r =>
    have hl : ¬ (((x :: y :: z :: w :: r).length : Nat) : Int) = 3 := by simp only [List.length_cons]; omega
    have bl : bfn .len [.tuple (x :: y :: z :: w :: r)] = some (false, .int (((x :: y :: z :: w :: r).length : Nat) : Int)) := bfn_len_tup
    generalize (((x :: y :: z :: w :: r).length : Nat) : Int) = m at *
    simp [-bfn_len_tup, f_is_brakes, isB, isTy, bl, hl]
  | [x, y, z] =>
    have bl : bfn .len [.tuple [x, y, z]] = some (false, .int 3) := rfl
    have e1 := within_run (n := n) (h := h) (lo := 0) (hi := 100) p1 p0 (Lent.sh (d := x))
    have e2 := within_run (n := n) (h := h) (lo := 1) (hi := 20) p1 p0 (Lent.sh (d := y))
    have e3 := within_run (n := n) (h := h) (lo := 0) (hi := 10) p1 p0 (Lent.sh (d := z))
    have eB : isB (.tuple [x, y, z]) = (isW 0 100 x && (isW 1 20 y && isW 0 10 z)) := rfl
    rw [eB]
    cases q1 : isW 0 100 x <;> cases q2 : isW 1 20 y <;> cases q3 : isW 0 10 z <;> rw [q1] at e1 <;> rw [q2] at e2 <;> rw [q3] at e3 <;> simp [-bfn_len_tup, f_is_brakes, isTy, bl, e1, e2, e3]
theorem chk_run {n : Nat} {h : Hand} {d : PyData} : run P (n + 4) 11 none [.sh d] h = if isB d then .ok false .none h else .exc 1 h := by
  rw [run_eqR p11 rfl rfl]
  have comp : ∀ s1 : Sl, compL [s1, .non] (.nm 1) (evc (cl P (n + 3)) .no) (ev (cl P (n + 3)) (.call 10 (.cons (.var 1) .nil))) [d] h = some ([.bool (isB d)], h) := fun s1 => by
    rw [show [d] = [d].map (fun x => x) by simp, compL_mm (f := fun x => x) (g := fun x => .bool (isB x)) fun x _ => by
      have e := isb_run (n := n) (h := h) (d := x)
      simp [stp, e]]
    simp
  have ba := bfn_all (f := isB) (xs := [d])
  have ba' : bfn .all [.list [.bool (isB d)]] = some (false, .bool (isB d)) := by cases isB d <;> rfl
  cases q : isB d <;> rw [q] at comp ba' <;> simp [f_check_brakes, comp, ba']
section
variable {n : Nat} {h : Hand} {v b t a c : Int}
theorem CarOk.wb (k : CarOk v b t) : (v * t).natAbs ≤ 1000 ∧ (v * v).natAbs ≤ 10000 ∧ (t * b).natAbs ≤ 200 := by
  obtain ⟨v0, v1, b0, b1, t0, t1⟩ := k
  exact ⟨bd (A := 100) (B := 10) (by omega) (by omega), bd (A := 100) (B := 100) (by omega) (by omega), bd (A := 10) (B := 20) (by omega) (by omega)⟩
abbrev wayP (v b t : Int) : Int × Int := fr (v * t * (2 * b) + v * v) (2 * b)
theorem way_run (k : CarOk v b t) : run P (n + 4) 13 none [.sh (carD v b t)] h = .ok false (frD (wayP v b t)) h := by
  obtain ⟨w1, w2, w3⟩ := k.wb
  obtain ⟨v0, v1, b0, b1, t0, t1⟩ := k
  rw [run_eq p13 rfl rfl]
  have e1 := lowP (n + 1) h (v * v) (2 * b) (by omega) (by omega)
  have e2 := plus_run (n := n) (h := h) p4' lowP (sz_one (a := v * t) (by omega)) (sz_fr (a := v * v) (b := 2 * b) (by omega) (by omega) (by omega))
  rw [one_add (by omega)] at e2
  dsimp only [frD] at e1 e2
  have m1 := bmul (x := v) (y := t) (by omega)
  have m2 := bmul (x := v) (y := v) (by omega)
  have m3 := bmul (x := 2) (y := b) (by decide)
  simp [f_way_of, m1, m2, m3, e1, e2]
theorem swy_run (k : CarOk v b t) : run P (n + 5) 12 none [.sh (carD v b t)] h = .ok false (frD (wayP v b t)) h := by
  rw [run_eq p12 rfl rfl]
  have e1 := chk_run (n := n) (h := h) (d := carD v b t)
  rw [k.is, if_pos rfl] at e1
  have e2 := way_run (n := n) (h := h) k
  dsimp only [frD] at e2
  simp [f_stop_way, e1, e2]
def timeP (v b t : Int) : Int × Int := if 0 < v then fr (t * b + v) b else (0, 1)
theorem stime_run (k : CarOk v b t) : run P (n + 5) 14 none [.sh (carD v b t)] h = .ok false (frD (timeP v b t)) h := by
  rw [run_eq p14 rfl rfl]
  have e1 := chk_run (n := n) (h := h) (d := carD v b t)
  rw [k.is, if_pos rfl] at e1
  obtain ⟨v0, v1, b0, b1, t0, t1⟩ := k
  have e3 := lowP (n + 2) h v b (by omega) (by omega)
  have e2 := plus_run (n := n + 1) (h := h) p4' lowP (sz_one (a := t) (by omega)) (sz_fr (a := v) (b := b) (by omega) (by omega) (by omega))
  rw [one_add (by omega)] at e2
  dsimp only [frD] at e3 e2
  unfold timeP
  by_cases g : 0 < v <;> simp [f_stop_time, e1, e2, e3, g]
structure MoOk (a c : Int) : Prop where
  a0 : 0 ≤ a
  a1 : a ≤ 1000 * c
  c0 : 1 ≤ c
  c1 : c ≤ 100
theorem fr_nn (hc : 0 < c) (ha : 0 ≤ a) : 0 ≤ (fr a c).1 := by
  rw [fr_of hc]
  exact Int.ediv_nonneg ha (by have := gI_pos (a := a) hc; omega)
theorem fr_top {A : Int} (hc : 0 < c) (ha : a ≤ A * c) : (fr a c).1 ≤ A * (fr a c).2 := by
  have e := fr_val (a := a) hc
  have p := (fr_is (a := a) hc).1
  generalize (fr a c).1 = x at *
  generalize (fr a c).2 = y at *
  have h1 := Int.mul_le_mul_of_nonneg_right ha (by omega : 0 ≤ y)
  have h2 : x * c ≤ A * y * c := by
    rw [e, Int.mul_assoc, Int.mul_comm y c, ← Int.mul_assoc]
    exact h1
  exact Int.le_of_mul_le_mul_right h2 hc
def isMo (d : PyData) : Bool := isFrD d && match d with
  | .tuple [.int a, .int c] => decide (0 ≤ a ∧ a ≤ 1000 * c ∧ c ≤ 100)
  | _ => false
theorem ismo_run {d : PyData} (hb : ∀ a b : Int, d = .tuple [.int a, .int b] → b.natAbs < 2 ^ 200) : run P (n + 3) 15 none [.sh d] h = .ok false (.bool (isMo d)) h := by
  rw [run_eq p15 rfl rfl]
  have e1 := isfrac_run (n := n) (h := h) (d := d) p9' p0 rfl hb
  unfold isMo
  cases q : isFrD d with
  | false =>
    rw [q] at e1
    simp [f_is_moment, e1]
  | true =>
    rw [q] at e1
    obtain ⟨a, c, rfl⟩ : ∃ a c, d = .tuple [.int a, .int c] := by
      unfold isFrD at q
      split at q
      · exact ⟨_, _, rfl⟩
      · cases q
    have m := bmul (x := 1000) (y := c) (by decide)
    by_cases g1 : 0 ≤ a <;> by_cases g2 : a ≤ 1000 * c <;> by_cases g3 : c ≤ 100 <;> simp [f_is_moment, e1, m, g1, g2, g3]
theorem MoOk.is (k : MoOk a c) : isMo (frD (fr a c)) = true := by
  have c0 : 0 < c := by have := k.c0; omega
  have e := fr_is (a := a) c0
  have e1 := fr_nn c0 k.a0
  have e2 := fr_top c0 k.a1
  have e3 := (fr_bd (a := a) c0).2.2
  have := k.c1
  show ((decide (0 < (fr a c).2) && decide (gI (fr a c).1 (fr a c).2 = 1)) && decide _) = true
  rw [decide_eq_true e.1, decide_eq_true e.2, decide_eq_true ⟨e1, e2, by omega⟩]
  rfl
theorem mo_run (k : MoOk a c) : run P (n + 3) 15 none [.sh (frD (fr a c))] h = .ok false (.bool true) h := by
  have c0 : 0 < c := by have := k.c0; omega
  have e3 := fr_bd (a := a) c0
  have := k.c1
  rw [ismo_run fun x y hxy => by
    injection hxy with hxy
    injection hxy with h1 h2
    injection h2 with h2 h3
    injection h2 with h2
    rw [← h2]
    omega]
  rw [k.is]
end
end HX

namespace HX
open PySem (PyData Str)
open PyD
/-! places, speeds, ways, as the program counts them -/
section
variable {n : Nat} {h : Hand} {v b t a c : Int}
def placeP (v b t a c : Int) : Int × Int :=
  if a < t * c then fr (v * a) c else if (a - t * c) * b < v * c then fr (v * a * (c * c * 2) - (a - t * c) * (a - t * c) * b * c) (c * (c * c * 2)) else wayP v b t
theorem MoOk.bds (k : CarOk v b t) (m : MoOk a c) : a.natAbs ≤ 100000 ∧ (t * c).natAbs ≤ 1000 ∧ (v * a).natAbs ≤ 10000000 ∧ (a - t * c).natAbs ≤ 101000 ∧ (b * (a - t * c)).natAbs ≤ 2020000 ∧ (v * c).natAbs ≤ 10000 ∧ (c * c).natAbs ≤ 10000 := by
  obtain ⟨v0, v1, b0, b1, t0, t1⟩ := k
  obtain ⟨a0, a1, c0, c1⟩ := m
  have h1 : (t * c).natAbs ≤ 10 * 100 := bd (by omega) (by omega)
  have h2 : (v * a).natAbs ≤ 100 * 100000 := bd (by omega) (by omega)
  have h3 : (b * (a - t * c)).natAbs ≤ 20 * 101000 := bd (by omega) (by omega)
  have h4 : (v * c).natAbs ≤ 100 * 100 := bd (by omega) (by omega)
  have h5 : (c * c).natAbs ≤ 100 * 100 := bd (by omega) (by omega)
  refine ⟨by omega, by omega, by omega, by omega, by omega, by omega, by omega⟩
theorem place_run (k : CarOk v b t) (m : MoOk a c) : run P (n + 6) 17 none [.sh (carD v b t), .sh (frD (fr a c))] h = .ok false (frD (placeP v b t a c)) h := by
  have c0 : 0 < c := by have := m.c0; omega
  obtain ⟨q1, q2, q3, q4, q5, q6, q7⟩ := m.bds k
  have w := way_run (n := n + 1) (h := h) k
  have q8 : ((a - t * c) * (a - t * c)).natAbs ≤ 101000 * 101000 := bd q4 q4
  have q9 : ((a - t * c) * (a - t * c) * b).natAbs ≤ 101000 * 101000 * 20 := bd q8 (by have := k.b0; have := k.b1; omega)
  have c2 : 0 < c * c := Int.mul_pos c0 c0
  obtain ⟨v0, v1, b0, b1, t0, t1⟩ := k
  obtain ⟨a0, a1, c0', c1⟩ := m
  rw [run_eq p17 rfl rfl]
  have sm := sz_fr (a := a) (b := c) (by omega) (by omega) (by omega)
  have st := sz_one (a := t) (by omega)
  have sv := sz_one (a := v) (by omega)
  have e1 := less_run (n := n + 4) (h := h) p8' sm st
  rw [lt_one c0] at e1
  have e2 := times_run (n := n + 2) (h := h) p6' lowP sv sm
  rw [one_mul' c0] at e2
  have e3 := minus_run (n := n + 2) (h := h) p5' lowP sm st
  rw [sub_one c0] at e3
  have e4 := lowP (n + 3) h v b (by omega) (by omega)
  have sl := sz_fr (a := a - t * c) (b := c) (by omega) (by omega) (by omega)
  have e5 := less_run (n := n + 4) (h := h) p8' sl (sz_fr (a := v) (b := b) (by omega) (by omega) (by omega))
  rw [flt_fr c0 (by omega)] at e5
  have e6 := times_run (n := n + 2) (h := h) p6' lowP sl sl
  rw [fmul_fr c0 c0] at e6
  have e7 := lowP (n + 3) h b 2 (by omega) (by omega)
  have e8 := times_run (n := n + 2) (h := h) p6' lowP (sz_fr (a := (a - t * c) * (a - t * c)) (b := c * c) (by omega) (by omega) (by omega)) (sz_fr (a := b) (b := 2) (by omega) (by omega) (by omega))
  rw [fmul_fr c2 (by omega)] at e8
  have e9 := minus_run (n := n + 2) (h := h) p5' lowP (sz_fr (a := v * a) (b := c) (by omega) (by omega) (by omega)) (sz_fr (a := (a - t * c) * (a - t * c) * b) (b := c * c * 2) (by omega) (by omega) (by omega))
  rw [fsub_fr c0 (by omega)] at e9
  dsimp only [frD] at *
  unfold placeP
  by_cases g1 : a < t * c
  · simp [f_place_of, e1, e2, g1]
  by_cases g2 : (a - t * c) * b < v * c
  · simp [f_place_of, e1, e2, e3, e4, e5, e6, e7, e8, e9, g1, g2]
  · simp [f_place_of, e1, e2, e3, e4, e5, e6, e7, e8, e9, g1, g2, w]
theorem placeat_run (k : CarOk v b t) (m : MoOk a c) : run P (n + 7) 16 none [.sh (carD v b t), .sh (frD (fr a c))] h = .ok false (frD (placeP v b t a c)) h := by
  rw [run_eq p16 rfl rfl]
  have e1 := chk_run (n := n + 2) (h := h) (d := carD v b t)
  rw [k.is, if_pos rfl] at e1
  have e2 := mo_run (n := n + 3) (h := h) m
  have e3 := place_run (n := n) (h := h) k m
  dsimp only [frD] at *
  simp [f_place_at, e1, e2, e3]
def speedP (v b t a c : Int) : Int × Int := if a < t * c then (v, 1) else if 0 < v * c - b * (a - t * c) then fr (v * c - b * (a - t * c)) c else (0, 1)
theorem speed_run (k : CarOk v b t) (m : MoOk a c) : run P (n + 7) 18 none [.sh (carD v b t), .sh (frD (fr a c))] h = .ok false (frD (speedP v b t a c)) h := by
  rw [run_eq p18 rfl rfl]
  have e1 := chk_run (n := n + 2) (h := h) (d := carD v b t)
  rw [k.is, if_pos rfl] at e1
  have e2 := mo_run (n := n + 3) (h := h) m
  have c0 : 0 < c := by have := m.c0; omega
  obtain ⟨q1, q2, q3, q4, q5, q6, q7⟩ := m.bds k
  obtain ⟨v0, v1, b0, b1, t0, t1⟩ := k
  obtain ⟨a0, a1, c0', c1⟩ := m
  have sm := sz_fr (a := a) (b := c) (by omega) (by omega) (by omega)
  have st := sz_one (a := t) (by omega)
  have sv := sz_one (a := v) (by omega)
  have sb := sz_one (a := b) (by omega)
  have e3 := less_run (n := n + 5) (h := h) p8' sm st
  rw [lt_one c0] at e3
  have e4 := minus_run (n := n + 3) (h := h) p5' lowP sm st
  rw [sub_one c0] at e4
  have e5 := times_run (n := n + 3) (h := h) p6' lowP sb (sz_fr (a := a - t * c) (b := c) (by omega) (by omega) (by omega))
  rw [one_mul' c0] at e5
  have e6 := minus_run (n := n + 3) (h := h) p5' lowP sv (sz_fr (a := b * (a - t * c)) (b := c) (by omega) (by omega) (by omega))
  rw [one_sub c0] at e6
  have nm := fr_num (a := v * c - b * (a - t * c)) (h := c0)
  dsimp only [frD] at *
  unfold speedP
  by_cases g1 : a < t * c
  · simp [f_speed_at, e1, e2, e3, g1]
  by_cases g2 : 0 < v * c - b * (a - t * c)
  · have g3 := nm.mpr g2
    rw [if_neg g1, if_pos g2]
    generalize fr (v * c - b * (a - t * c)) c = p at *
    simp [f_speed_at, e1, e2, e3, e4, e5, e6, g1, g3]
  · have g3 : ¬ 0 < (fr (v * c - b * (a - t * c)) c).1 := fun z => g2 (nm.mp z)
    rw [if_neg g1, if_neg g2]
    generalize fr (v * c - b * (a - t * c)) c = p at *
    simp [f_speed_at, e1, e2, e3, e4, e5, e6, g1, g3]
/-- top_speed_for, brake_for -/
def roomP (y v b t : Int) : Bool := !flt (y, 1) (wayP v b t)
theorem room_run (k : CarOk v b t) {y : Int} (hy : 0 ≤ y ∧ y ≤ 100000) : run P (n + 1) 8 none [.sh (.tuple [.int y, .int 1]), .sh (frD (wayP v b t))] h = .ok false (.bool (!roomP y v b t)) h := by
  obtain ⟨w1, w2, w3⟩ := k.wb
  have h1 : (v * t * (2 * b)).natAbs ≤ 1000 * 40 := bd w1 (by have := k.b0; have := k.b1; omega)
  obtain ⟨v0, v1, b0, b1, t0, t1⟩ := k
  have e := less_run (n := n) (h := h) p8' (sz_one (a := y) (by omega)) (sz_fr (a := v * t * (2 * b) + v * v) (b := 2 * b) (by omega) (by omega) (by omega))
  unfold roomP
  rw [Bool.not_not]
  exact e
abbrev iN (k : Nat) : PyData := .int (k : Int)
theorem pow5 : bop .pow (.int 10) (.int 5) = some (false, .int 100000) := bop_pow_int (i := 10) (j := 5) ⟨by omega, by omega, by decide⟩
def topL (y b t : Int) : List Nat := (List.range 101).filter fun k : Nat => roomP y (k : Int) b t
def topP (y b t : Int) : Int := (((topL y b t).drop 1).map fun k : Nat => (k : Int)).foldl max 0
theorem room0 (hb : 1 ≤ b ∧ b ≤ 20) {y : Int} (hy : 0 ≤ y ∧ y ≤ 100000) : roomP y 0 b t = true := by
  unfold roomP wayP
  rw [one_lt (by omega)]
  have : (0 : Int) * t * (2 * b) + 0 * 0 = 0 := by grind
  rw [this]
  have := Int.mul_nonneg hy.1 (by omega : 0 ≤ 2 * b)
  rw [decide_eq_false (by omega)]
  rfl
theorem topL_cons (hb : 1 ≤ b ∧ b ≤ 20) {y : Int} (hy : 0 ≤ y ∧ y ≤ 100000) : topL y b t = 0 :: (topL y b t).drop 1 := by
  have e : topL y b t = 0 :: ((List.range' 1 100).filter fun k : Nat => roomP y (k : Int) b t) := by
    unfold topL
    rw [show List.range 101 = 0 :: List.range' 1 100 from rfl, List.filter_cons, if_pos (by have := room0 (t := t) hb hy; simpa using this)]
  rw [e]
  rfl
theorem top_run (hb : 1 ≤ b ∧ b ≤ 20) (ht : 0 ≤ t ∧ t ≤ 10) {y : Int} (hy : 0 ≤ y ∧ y ≤ 100000) : run P (n + 6) 19 none [.sh (.int y), .sh (.int b), .sh (.int t)] h = .ok false (.int (topP y b t)) h := by
  rw [run_eq p19 rfl rfl]
  have e1 := chk_run (n := n + 1) (h := h) (d := carD 0 b t)
  have k0 : CarOk 0 b t := ⟨by omega, by omega, hb.1, hb.2, ht.1, ht.2⟩
  rw [k0.is, if_pos rfl] at e1
  have e2 := within_run (n := n + 3) (h := h) (lo := 0) (hi := 100000) p1 p0 (Lent.sh (d := .int y))
  rw [isW_ok hy.1 hy.2] at e2
  have comp : ∀ s3 : Sl, compL [.sh (.int y), .sh (.int b), .sh (.int t), s3] (.nm 3) (evc (cl P (n + 5)) (.so (.nt (.call 8 (.cons (.tup (.cons (.var 0) (.cons (.int 1) .nil))) (.cons (.call 13 (.cons (.tup (.cons (.var 3) (.cons (.var 1) (.cons (.var 2) .nil)))) .nil)) .nil)))))) (ev (cl P (n + 5)) (.var 3)) ((List.range 101).map iN) h = some (((List.range 101).filter fun k : Nat => roomP y (k : Int) b t).map iN, h) := fun s3 => by
    rw [compL_mf iN (fun k : Nat => if roomP y (k : Int) b t then some (iN k) else none) fun k hk => by
      have hk := List.mem_range.mp hk
      have kk : CarOk (k : Int) b t := ⟨by omega, by omega, hb.1, hb.2, ht.1, ht.2⟩
      have f1 := way_run (n := n + 1) (h := h) kk
      have f2 := room_run (n := n + 4) (h := h) kk hy
      dsimp only [frD] at f1 f2
      cases q : roomP y (k : Int) b t <;> rw [q] at f2 <;> simp [stp, f1, f2]]
    rw [fm_filter]
  have rg := src_rng1_nat (C := cl P (n + 5)) (o := true) (a := .int 101) (ρ := [.sh (.int y), .sh (.int b), .sh (.int t), .non]) (h := h) (m := 101) rfl (by omega)
  rw [show rangeD 0 1 101 = (List.range 101).map iN from rfl] at rg
  have mx : bfn .max [.list ((topL y b t).map iN)] = some (false, .int (topP y b t)) := by
    have e := bfn_max_int (x := 0) (xs := ((topL y b t).drop 1).map fun k : Nat => (k : Int))
    rw [List.map_map] at e
    rw [topL_cons hb hy]
    exact e
  unfold topL at mx
  simp [-src_rng1, f_top_speed_for, e1, e2, pow5, rg, comp, mx]
end
end HX

namespace HX
open PySem (PyData Str)
open PyD
section
variable {n : Nat} {h : Hand} {v b t a c y : Int}
theorem ne_nil {l : List Int} : cop .ne (.list (l.map .int)) (.list []) = some (!l.isEmpty) := by
  show (if eqOk (.list (l.map .int)) (.list (([] : List Int).map .int)) then some (!PyData.eqv (.list (l.map .int)) (.list [])) else none) = _
  rw [eqOk_lv lv_ints (lv_ints (is := [])) (by omega) (by omega), if_pos rfl]
  cases l <;> simp [PyData.eqv, PyData.eqvAll]
def brkL (y v t : Int) : List Nat := (List.range' 1 20).filter fun k : Nat => roomP y v (k : Int) t
def oD : Option Nat → PyData
  | none => .none
  | some k => .int (k : Int)
theorem brk_run (hv : 0 ≤ v ∧ v ≤ 100) (ht : 0 ≤ t ∧ t ≤ 10) (hy : 0 ≤ y ∧ y ≤ 100000) : run P (n + 6) 20 none [.sh (.int y), .sh (.int v), .sh (.int t)] h = .ok false (oD (brkL y v t).head?) h := by
  rw [run_eq p20 rfl rfl]
  have e1 := chk_run (n := n + 1) (h := h) (d := carD v 1 t)
  have k0 : CarOk v 1 t := ⟨hv.1, hv.2, by omega, by omega, ht.1, ht.2⟩
  rw [k0.is, if_pos rfl] at e1
  have e2 := within_run (n := n + 3) (h := h) (lo := 0) (hi := 100000) p1 p0 (Lent.sh (d := .int y))
  rw [isW_ok hy.1 hy.2] at e2
  have comp : ∀ s3 s4 : Sl, compL [.sh (.int y), .sh (.int v), .sh (.int t), s3, s4] (.nm 4) (evc (cl P (n + 5)) (.so (.nt (.call 8 (.cons (.tup (.cons (.var 0) (.cons (.int 1) .nil))) (.cons (.call 13 (.cons (.tup (.cons (.var 1) (.cons (.var 4) (.cons (.var 2) .nil)))) .nil)) .nil)))))) (ev (cl P (n + 5)) (.var 4)) ((List.range' 1 20).map iN) h = some (((List.range' 1 20).filter fun k : Nat => roomP y v (k : Int) t).map iN, h) := fun s3 s4 => by
    rw [compL_mf iN (fun k : Nat => if roomP y v (k : Int) t then some (iN k) else none) fun k hk => by
      have hk := List.mem_range'_1.mp hk
      have kk : CarOk v (k : Int) t := ⟨hv.1, hv.2, by omega, by omega, ht.1, ht.2⟩
      have f1 := way_run (n := n + 1) (h := h) kk
      have f2 := room_run (n := n + 4) (h := h) kk hy
      dsimp only [frD] at f1 f2
      cases q : roomP y v (k : Int) t <;> rw [q] at f2 <;> simp [stp, f1, f2]]
    rw [fm_filter]
  have rg := src_rng2_nat (C := cl P (n + 5)) (o := true) (a := .int 1) (b := .int 21) (ρ := [.sh (.int y), .sh (.int v), .sh (.int t), .non, .non]) (h := h) (m := 21) rfl rfl (by omega)
  rw [show rangeD 1 1 (21 - 1) = (List.range' 1 20).map iN from rfl] at rg
  have nn := ne_nil (l := (brkL y v t).map fun k : Nat => (k : Int))
  rw [List.map_map] at nn
  have nn : cop .ne (.list ((brkL y v t).map iN)) (.list []) = some (!((brkL y v t).map fun k : Nat => (k : Int)).isEmpty) := nn
  have fL : ((List.range' 1 20).filter fun k : Nat => roomP y v (k : Int) t) = brkL y v t := rfl
  rw [fL] at comp
  generalize brkL y v t = L at *
  cases L with
  | nil => 
    have nn : cop .ne (.list []) (.list []) = some false := nn
    simp [-src_rng2, f_brake_for, e1, e2, pow5, rg, comp, nn, oD]
  | cons x xs => 
    have nn : cop .ne (.list (iN x :: xs.map iN)) (.list []) = some true := nn
    simp [-src_rng2, f_brake_for, e1, e2, pow5, rg, comp, nn, oD]
def meanP (v b t : Int) : Int × Int := if 0 < v then fr ((v * t * (2 * b) + v * v) * b) (2 * b * (t * b + v)) else (0, 1)
theorem mean_run (k : CarOk v b t) : run P (n + 6) 21 none [.sh (carD v b t)] h = .ok false (frD (meanP v b t)) h := by
  rw [run_eq p21 rfl rfl]
  have e1 := stime_run (n := n) (h := h) k
  have e2 := way_run (n := n + 1) (h := h) k
  obtain ⟨w1, w2, w3⟩ := k.wb
  have h1 : (v * t * (2 * b)).natAbs ≤ 1000 * 40 := bd w1 (by have := k.b0; have := k.b1; omega)
  obtain ⟨v0, v1, b0, b1, t0, t1⟩ := k
  unfold timeP at e1
  unfold meanP
  by_cases g : 0 < v
  · rw [if_pos g] at e1 ⊢
    have tb : 0 ≤ t * b := Int.mul_nonneg t0 (by omega)
    have nm := (fr_num (a := t * b + v) (b := b) (h := by omega)).mpr (by omega)
    have e3 := over_run (n := n + 2) (h := h) p7' lowP (sz_fr (a := v * t * (2 * b) + v * v) (b := 2 * b) (by omega) (by omega) (by omega)) (sz_fr (a := t * b + v) (b := b) (by omega) (by omega) (by omega)) nm
    rw [fdvd_fr (by omega) (by omega) (by omega)] at e3
    dsimp only [frD] at *
    simp [f_mean_speed, e1, e2, e3, nm]
  · rw [if_neg g] at e1 ⊢
    simp [f_mean_speed, e1]
theorem slow_run (k : CarOk v b t) (hy : 0 ≤ y ∧ y ≤ v) : run P (n + 5) 22 none [.sh (carD v b t), .sh (.int y)] h = .ok false (carD (v - y) b t) h := by
  rw [run_eq p22 rfl rfl]
  have e1 := chk_run (n := n) (h := h) (d := carD v b t)
  rw [k.is, if_pos rfl] at e1
  have e2 := within_run (n := n + 2) (h := h) (lo := 0) (hi := v) p1 p0 (Lent.sh (d := .int y))
  rw [isW_ok hy.1 hy.2] at e2
  simp [f_slower, e1, e2]
def savedP (v b t y : Int) : Int × Int := fsub (wayP v b t) (wayP (v - y) b t)
theorem wayP_sz (k : CarOk v b t) : Sz (wayP v b t) := by
  obtain ⟨w1, w2, w3⟩ := k.wb
  have h1 : (v * t * (2 * b)).natAbs ≤ 1000 * 40 := bd w1 (by have := k.b0; have := k.b1; omega)
  obtain ⟨v0, v1, b0, b1, t0, t1⟩ := k
  exact sz_fr (by omega) (by omega) (by omega)
theorem CarOk.less (k : CarOk v b t) (hy : 0 ≤ y ∧ y ≤ v) : CarOk (v - y) b t := ⟨by omega, by have := k.v1; omega, k.b0, k.b1, k.t0, k.t1⟩
theorem saved_run (k : CarOk v b t) (hy : 0 ≤ y ∧ y ≤ v) : run P (n + 6) 23 none [.sh (carD v b t), .sh (.int y)] h = .ok false (frD (savedP v b t y)) h := by
  rw [run_eq p23 rfl rfl]
  have e1 := swy_run (n := n) (h := h) k
  have e2 := slow_run (n := n) (h := h) k hy
  have e3 := swy_run (n := n) (h := h) (k.less hy)
  have e4 := minus_run (n := n + 2) (h := h) p5' lowP (wayP_sz k) (wayP_sz (k.less hy))
  unfold savedP
  generalize wayP v b t = w1 at *
  generalize wayP (v - y) b t = w2 at *
  dsimp only [frD] at *
  simp [f_saved_by, e1, e2, e3, e4]
/-! refused -/
theorem stop_bad {d : PyData} (q : isB d = false) : run P (n + 5) 12 none [.sh d] h = .exc 1 h := by
  rw [run_eq p12 rfl rfl]
  have e1 := chk_run (n := n) (h := h) (d := d)
  rw [q] at e1
  simp [f_stop_way, e1]
theorem time_bad {d : PyData} (q : isB d = false) : run P (n + 5) 14 none [.sh d] h = .exc 1 h := by
  rw [run_eq p14 rfl rfl]
  have e1 := chk_run (n := n) (h := h) (d := d)
  rw [q] at e1
  simp [f_stop_time, e1]
theorem mean_bad {d : PyData} (q : isB d = false) : run P (n + 6) 21 none [.sh d] h = .exc 1 h := by
  rw [run_eq p21 rfl rfl]
  have e1 := time_bad (n := n) (h := h) q
  simp [f_mean_speed, e1]
theorem place_bad {d e : PyData} (q : isB d = false) : run P (n + 5) 16 none [.sh d, .sh e] h = .exc 1 h := by
  rw [run_eq p16 rfl rfl]
  have e1 := chk_run (n := n) (h := h) (d := d)
  rw [q] at e1
  simp [f_place_at, e1]
theorem place_odd (k : CarOk v b t) {e : PyData} (hb : ∀ a b : Int, e = .tuple [.int a, .int b] → b.natAbs < 2 ^ 200) (q : isMo e = false) : run P (n + 5) 16 none [.sh (carD v b t), .sh e] h = .exc 2 h := by
  rw [run_eq p16 rfl rfl]
  have e1 := chk_run (n := n) (h := h) (d := carD v b t)
  rw [k.is, if_pos rfl] at e1
  have e2 := ismo_run (n := n + 1) (h := h) hb
  rw [q] at e2
  simp [f_place_at, e1, e2]
theorem speed_odd (k : CarOk v b t) {e : PyData} (hb : ∀ a b : Int, e = .tuple [.int a, .int b] → b.natAbs < 2 ^ 200) (q : isMo e = false) : run P (n + 5) 18 none [.sh (carD v b t), .sh e] h = .exc 2 h := by
  rw [run_eq p18 rfl rfl]
  have e1 := chk_run (n := n) (h := h) (d := carD v b t)
  rw [k.is, if_pos rfl] at e1
  have e2 := ismo_run (n := n + 1) (h := h) hb
  rw [q] at e2
  simp [f_speed_at, e1, e2]
theorem slow_bad {d e : PyData} (q : isB d = false) : run P (n + 5) 22 none [.sh d, .sh e] h = .exc 1 h := by
  rw [run_eq p22 rfl rfl]
  have e1 := chk_run (n := n) (h := h) (d := d)
  rw [q] at e1
  simp [f_slower, e1]
theorem slow_odd (k : CarOk v b t) {e : PyData} (q : isW 0 v e = false) : run P (n + 5) 22 none [.sh (carD v b t), .sh e] h = .exc 2 h := by
  rw [run_eq p22 rfl rfl]
  have e1 := chk_run (n := n) (h := h) (d := carD v b t)
  rw [k.is, if_pos rfl] at e1
  have e2 := within_run (n := n + 2) (h := h) (lo := 0) (hi := v) p1 p0 (Lent.sh (d := e))
  rw [q] at e2
  simp [f_slower, e1, e2]
theorem saved_odd (k : CarOk v b t) {e : PyData} (q : isW 0 v e = false) : run P (n + 6) 23 none [.sh (carD v b t), .sh e] h = .exc 2 h := by
  rw [run_eq p23 rfl rfl]
  have e1 := swy_run (n := n) (h := h) k
  have e2 := slow_odd (n := n) (h := h) k q
  dsimp only [frD] at *
  simp [f_saved_by, e1, e2]
theorem top_bad {x y z : PyData} (q : isB (.tuple [.int 0, y, z]) = false) : run P (n + 5) 19 none [.sh x, .sh y, .sh z] h = .exc 1 h := by
  rw [run_eq p19 rfl rfl]
  have e1 := chk_run (n := n) (h := h) (d := .tuple [.int 0, y, z])
  rw [q] at e1
  simp [f_top_speed_for, e1]
theorem top_odd {x : PyData} (hb : 1 ≤ b ∧ b ≤ 20) (ht : 0 ≤ t ∧ t ≤ 10) (q : isW 0 100000 x = false) : run P (n + 5) 19 none [.sh x, .sh (.int b), .sh (.int t)] h = .exc 2 h := by
  rw [run_eq p19 rfl rfl]
  have k0 : CarOk 0 b t := ⟨by omega, by omega, hb.1, hb.2, ht.1, ht.2⟩
  have e1 := chk_run (n := n) (h := h) (d := carD 0 b t)
  rw [k0.is, if_pos rfl] at e1
  have e2 := within_run (n := n + 2) (h := h) (lo := 0) (hi := 100000) p1 p0 (Lent.sh (d := x))
  rw [q] at e2
  simp [f_top_speed_for, e1, e2, pow5]
theorem brk_bad {x y z : PyData} (q : isB (.tuple [y, .int 1, z]) = false) : run P (n + 5) 20 none [.sh x, .sh y, .sh z] h = .exc 1 h := by
  rw [run_eq p20 rfl rfl]
  have e1 := chk_run (n := n) (h := h) (d := .tuple [y, .int 1, z])
  rw [q] at e1
  simp [f_brake_for, e1]
theorem brk_odd {x : PyData} (hv : 0 ≤ v ∧ v ≤ 100) (ht : 0 ≤ t ∧ t ≤ 10) (q : isW 0 100000 x = false) : run P (n + 5) 20 none [.sh x, .sh (.int v), .sh (.int t)] h = .exc 2 h := by
  rw [run_eq p20 rfl rfl]
  have k0 : CarOk v 1 t := ⟨hv.1, hv.2, by omega, by omega, ht.1, ht.2⟩
  have e1 := chk_run (n := n) (h := h) (d := carD v 1 t)
  rw [k0.is, if_pos rfl] at e1
  have e2 := within_run (n := n + 2) (h := h) (lo := 0) (hi := 100000) p1 p0 (Lent.sh (d := x))
  rw [q] at e2
  simp [f_brake_for, e1, e2, pow5]
end
end HX

namespace HX
open PySem (PyData Str)
open PyD
/-! what the law counts -/
theorem lowL : LowOk P 31 := frac_ok (kS := 30) rfl rfl
theorem p32' : P.fd 32 = some (fPlus 31) := rfl
theorem p33' : P.fd 33 = some (fMinus 31) := rfl
theorem p34' : P.fd 34 = some (fTimes 31) := rfl
theorem p35' : P.fd 35 = some (fOver 31) := rfl
theorem p36' : P.fd 36 = some fLess := rfl
section
variable {n : Nat} {h : Hand} {v b t a c y : Int}
theorem ltime_run (k : CarOk v b t) : run P (n + 3) 38 none [.sh (carD v b t)] h = .ok false (frD (timeP v b t)) h := by
  rw [run_eq p38 rfl rfl]
  obtain ⟨w1, w2, w3⟩ := k.wb
  obtain ⟨v0, v1, b0, b1, t0, t1⟩ := k
  have e := lowL n h (t * b + v) b (by omega) (by omega)
  have m1 := bmul (x := t) (y := b) (by omega)
  unfold timeP
  dsimp only [frD] at *
  by_cases g : 0 < v <;> simp [f__law_time, m1, e, g]
def timeA (v b t : Int) : Int := if 0 < v then t * b + v else 0
def timeC (v b : Int) : Int := if 0 < v then b else 1
theorem timeP_eq : timeP v b t = fr (timeA v b t) (timeC v b) := by
  unfold timeP timeA timeC
  by_cases g : 0 < v
  · rw [if_pos g, if_pos g, if_pos g]
  · rw [if_neg g, if_neg g, if_neg g, fr_one]
theorem timeMo (k : CarOk v b t) : MoOk (timeA v b t) (timeC v b) := by
  obtain ⟨w1, w2, w3⟩ := k.wb
  obtain ⟨v0, v1, b0, b1, t0, t1⟩ := k
  have h1 := Int.mul_nonneg t0 (by omega : 0 ≤ b)
  unfold timeA timeC
  by_cases g : 0 < v
  · rw [if_pos g, if_pos g]
    exact ⟨by omega, by omega, by omega, by omega⟩
  · rw [if_neg g, if_neg g]
    exact ⟨by omega, by omega, by omega, by omega⟩
theorem MoOk.lt_time (k : CarOk v b t) (m : MoOk a c) : flt (fr a c) (fr (timeA v b t) (timeC v b)) = decide (a * timeC v b < timeA v b t * c) := flt_fr (by have := m.c0; omega) (by have := (timeMo k).c0; omega)
theorem lspeed_run (k : CarOk v b t) (m : MoOk a c) : run P (n + 5) 39 none [.sh (carD v b t), .sh (frD (fr a c))] h = .ok false (frD (speedP v b t a c)) h := by
  rw [run_eq p39 rfl rfl]
  have c0 : 0 < c := by have := m.c0; omega
  obtain ⟨q1, q2, q3, q4, q5, q6, q7⟩ := m.bds k
  have e1 := ltime_run (n := n + 1) (h := h) k
  rw [timeP_eq] at e1
  have k' := k
  have m' := m
  have tm := timeMo k
  obtain ⟨v0, v1, b0, b1, t0, t1⟩ := k
  obtain ⟨a0, a1, c0', c1⟩ := m
  have sm := sz_fr (a := a) (b := c) (by omega) (by omega) (by omega)
  have st := sz_one (a := t) (by omega)
  have sv := sz_one (a := v) (by omega)
  have sb := sz_one (a := b) (by omega)
  have ste := sz_fr (a := timeA v b t) (b := timeC v b) (by have := tm.a0; have := tm.a1; have := tm.c1; omega) (by have := tm.c0; omega) (by have := tm.c1; omega)
  have e2 := less_run (n := n + 3) (h := h) p36' st sm
  rw [one_lt c0] at e2
  have e3 := less_run (n := n + 3) (h := h) p36' sm ste
  rw [m'.lt_time k'] at e3
  have e4 := minus_run (n := n + 1) (h := h) p33' lowL sm st
  rw [sub_one c0] at e4
  have e5 := times_run (n := n + 1) (h := h) p34' lowL sb (sz_fr (a := a - t * c) (b := c) (by omega) (by omega) (by omega))
  rw [one_mul' c0] at e5
  have e6 := minus_run (n := n + 1) (h := h) p33' lowL sv (sz_fr (a := b * (a - t * c)) (b := c) (by omega) (by omega) (by omega))
  rw [one_sub c0] at e6
  have key : 0 < v → (a * b < (t * b + v) * c ↔ 0 < v * c - b * (a - t * c)) := fun _ => by
    have : (t * b + v) * c - a * b = v * c - b * (a - t * c) := by grind
    omega
  have vc : v * c = 0 ∨ 0 < v := by
    by_cases g : 0 < v
    · exact .inr g
    · left
      rw [show v = 0 by omega, Int.zero_mul]
  dsimp only [frD] at *
  unfold speedP
  by_cases g1 : t * c < a
  · have g1' : ¬ a < t * c := by omega
    have e0 : decide (a * timeC v b < timeA v b t * c) = decide (0 < v * c - b * (a - t * c)) := by
      rw [decide_eq_decide]
      unfold timeA timeC
      by_cases g : 0 < v
      · rw [if_pos g, if_pos g]
        exact key g
      · rw [if_neg g, if_neg g, show v = 0 by omega]
        have := Int.mul_pos (show 0 < b by omega) (show 0 < a - t * c by omega)
        omega
    rw [e0] at e3
    by_cases g2 : 0 < v * c - b * (a - t * c)
    · rw [decide_eq_true g2] at e3
      rw [if_neg g1', if_pos g2]
      simp [f__law_speed, e1, e2, e3, e4, e5, e6, g1]
    · rw [decide_eq_false g2] at e3
      rw [if_neg g1', if_neg g2]
      simp [f__law_speed, e1, e2, e3, g1]
  · have e0 : (if a < t * c then ((v, 1) : Int × Int) else if 0 < v * c - b * (a - t * c) then fr (v * c - b * (a - t * c)) c else (0, 1)) = (v, 1) := by
      by_cases g2 : a < t * c
      · rw [if_pos g2]
      · rw [if_neg g2, show a - t * c = 0 by omega, Int.mul_zero, Int.sub_zero]
        by_cases g3 : 0 < v
        · rw [if_pos (Int.mul_pos g3 c0), ← fr_one v]
          exact fr_eq c0 (by omega) (by omega)
        · rw [show v = 0 by omega, Int.zero_mul, if_neg (by omega)]
    rw [e0]
    simp [f__law_speed, e2, g1]
theorem fr12 : fr 1 2 = (1, 2) := fr_self (p := (1, 2)) ⟨by decide, by decide⟩
theorem sz12 : Sz (1, 2) := ⟨by decide, by decide, by decide⟩
theorem speed_bd (k : CarOk v b t) (m : MoOk a c) : ∃ x z, speedP v b t a c = fr x z ∧ x.natAbs ≤ 2030000 ∧ 1 ≤ z ∧ z ≤ 100 := by
  obtain ⟨q1, q2, q3, q4, q5, q6, q7⟩ := m.bds k
  unfold speedP
  by_cases g1 : a < t * c
  · rw [if_pos g1]
    exact ⟨v, 1, (fr_one v).symm, by have := k.v0; have := k.v1; omega, by omega, by omega⟩
  · rw [if_neg g1]
    split
    · exact ⟨_, c, rfl, by omega, m.c0, m.c1⟩
    · exact ⟨0, 1, (fr_one 0).symm, by omega, by omega, by omega⟩
structure Tail (n : Nat) (h : Hand) (v b t a c x z : Int) : Prop where
  ez : speedP v b t a c = fr x z
  z0 : 1 ≤ z
  f1 : run P (n + 5) 33 none [.sh (frD (fr a c)), .sh (frD (t, 1))] h = .ok false (frD (fr (a - t * c) c)) h
  f2 : run P (n + 5) 39 none [.sh (carD v b t), .sh (frD (fr a c))] h = .ok false (frD (fr x z)) h
  f3 : run P (n + 5) 32 none [.sh (frD (v, 1)), .sh (frD (fr x z))] h = .ok false (frD (fr (v * z + x) z)) h
  f4 : run P (n + 5) 34 none [.sh (frD (1, 2)), .sh (frD (fr (v * z + x) z))] h = .ok false (frD (fr (v * z + x) (2 * z))) h
  f5 : run P (n + 5) 34 none [.sh (frD (fr (a - t * c) c)), .sh (frD (fr (v * z + x) (2 * z)))] h = .ok false (frD (fr ((a - t * c) * (v * z + x)) (c * (2 * z)))) h
  f6 : run P (n + 5) 32 none [.sh (frD (v * t, 1)), .sh (frD (fr ((a - t * c) * (v * z + x)) (c * (2 * z))))] h = .ok false (frD (fr (v * t * (c * (2 * z)) + (a - t * c) * (v * z + x)) (c * (2 * z)))) h
theorem half_mul {p q : Int} (hq : 0 < q) : fmul (1, 2) (fr p q) = fr p (2 * q) := by rw [← fr12, fmul_fr (by omega) hq, Int.one_mul]
theorem ltW {x : Int} {B : Nat} (h : x.natAbs ≤ B) (hB : B < 18446744073709551616) : x.natAbs < 2 ^ 64 := Nat.lt_of_le_of_lt h hB
theorem bs {x y : Int} {A B : Nat} (h1 : x.natAbs ≤ A) (h2 : y.natAbs ≤ B) : (x + y).natAbs ≤ A + B := Nat.le_trans (Int.natAbs_add_le x y) (Nat.add_le_add h1 h2)
theorem na {x : Int} {A : Nat} (h0 : 0 ≤ x) (h1 : x ≤ A) : x.natAbs ≤ A := by omega
theorem ltP {x : Int} {A : Nat} (h1 : x.natAbs ≤ A) (hB : A < 18446744073709551616) : x < 2 ^ 64 := by omega
theorem tail_ok (k : CarOk v b t) (m : MoOk a c) : ∃ x z, Tail n h v b t a c x z := by
  obtain ⟨x, z, ez, x1, z0, z1⟩ := speed_bd k m
  have c0 : 0 < c := by have := m.c0; omega
  obtain ⟨w1, w2, w3⟩ := k.wb
  obtain ⟨r1, r2, r3, r4, r5, r6, r7⟩ := m.bds k
  have bv : v.natAbs ≤ 100 := na k.v0 k.v1
  have bt : t.natAbs ≤ 10 := na k.t0 k.t1
  have bc : c.natAbs ≤ 100 := na (Int.le_of_lt c0) m.c1
  have bz : z.natAbs ≤ 100 := na (Int.le_trans (by decide) z0) z1
  have z0' : 0 < z := z0
  have b2z : (2 * z).natAbs ≤ 200 := bd (A := 2) (B := 100) (Nat.le_refl _) bz
  have z2 : 0 < 2 * z := Int.mul_pos (by decide) z0'
  have u1 : (v * z).natAbs ≤ 10000 := bd (A := 100) (B := 100) bv bz
  have u0 : (v * z + x).natAbs ≤ 2040000 := bs (A := 10000) (B := 2030000) u1 x1
  have u2 : ((a - t * c) * (v * z + x)).natAbs ≤ 206040000000 := bd (A := 101000) (B := 2040000) r4 u0
  have u3 : (c * (2 * z)).natAbs ≤ 20000 := bd (A := 100) (B := 200) bc b2z
  have u4 : 0 < c * (2 * z) := Int.mul_pos c0 z2
  have st := sz_one (a := t) (ltW bt (by decide))
  have sv := sz_one (a := v) (ltW bv (by decide))
  have sm := sz_fr (a := a) (b := c) (ltW r1 (by decide)) c0 (ltP bc (by decide))
  have s1 := sz_fr (a := x) (b := z) (ltW x1 (by decide)) z0' (ltP bz (by decide))
  have s2 := sz_fr (a := v * z + x) (b := z) (ltW u0 (by decide)) z0' (ltP bz (by decide))
  have s3 := sz_fr (a := v * z + x) (b := 2 * z) (ltW u0 (by decide)) z2 (ltP b2z (by decide))
  have s4 := sz_fr (a := a - t * c) (b := c) (ltW r4 (by decide)) c0 (ltP bc (by decide))
  have s5 := sz_fr (a := (a - t * c) * (v * z + x)) (b := c * (2 * z)) (ltW u2 (by decide)) u4 (ltP u3 (by decide))
  have s6 := sz_one (a := v * t) (ltW w1 (by decide))
  have f1 := minus_run (n := n + 2) (h := h) p33' lowL sm st
  rw [sub_one c0] at f1
  have f2 := lspeed_run (n := n) (h := h) k m
  rw [ez] at f2
  have f3 := plus_run (n := n + 2) (h := h) p32' lowL sv s1
  rw [one_add z0'] at f3
  have f4 := times_run (n := n + 2) (h := h) p34' lowL sz12 s2
  rw [half_mul z0'] at f4
  have f5 := times_run (n := n + 2) (h := h) p34' lowL s4 s3
  rw [fmul_fr c0 z2] at f5
  have f6 := plus_run (n := n + 2) (h := h) p32' lowL s6 s5
  rw [one_add u4] at f6
  exact ⟨x, z, ez, z0, f1, f2, f3, f4, f5, f6⟩
theorem timeP_pos (g : 0 < v) : timeP v b t = fr (t * b + v) b := if_pos g
end
end HX

namespace HX
open PySem (PyData Str)
open PyD
section
variable {n : Nat} {h : Hand} {v b t a c y : Int}
/-- the law's place is the program's -/
theorem lp0 {z x N D : Int} (c0 : 0 < c) (z0 : 0 < z) (hD : 0 < D) (e : (v * t * (c * (2 * z)) + (a - t * c) * (v * z + x)) * D = N * (c * (2 * z))) : fr (v * t * (c * (2 * z)) + (a - t * c) * (v * z + x)) (c * (2 * z)) = fr N D := fr_eq (Int.mul_pos c0 (by omega)) hD e
theorem fr_cross {a b c d : Int} (hb : 0 < b) (hd : 0 < d) (h : fr a b = fr c d) : a * d = c * b := by
  have e1 := fr_val (a := a) hb
  have e2 := fr_val (a := c) hd
  have p := (fr_is (a := a) hb).1
  rw [← h] at e2
  generalize (fr a b).1 = x at *
  generalize (fr a b).2 = y at *
  have : y * (a * d) = y * (c * b) := by grind
  exact Int.eq_of_mul_eq_mul_left (by omega) this
/-- what the tail tells is the place, if it stands there and moves no more, or moves yet -/
theorem tail_place (k : CarOk v b t) (m : MoOk a c) (g0 : 0 < v) (g1 : t * c < a) (g2 : a * b ≤ (t * b + v) * c) {x z : Int} (T : Tail n h v b t a c x z) : fr (v * t * (c * (2 * z)) + (a - t * c) * (v * z + x)) (c * (2 * z)) = placeP v b t a c := by
  have c0 : 0 < c := by have := m.c0; omega
  have ez := T.ez
  have z0 := T.z0
  have b0 := k.b0
  unfold speedP at ez
  rw [if_neg (by omega)] at ez
  have id : (t * b + v) * c - a * b = v * c - b * (a - t * c) := by grind
  unfold placeP
  rw [if_neg (by omega)]
  by_cases g3 : 0 < v * c - b * (a - t * c)
  · rw [if_pos g3] at ez
    have ez := fr_cross c0 (by omega) ez
    rw [if_pos (by rw [Int.mul_comm (a - t * c) b]; omega)]
    have c2 := Int.mul_pos c0 c0
    refine lp0 c0 (by omega) (Int.mul_pos c0 (by omega)) ?_
    grind
  · rw [if_neg g3, ← fr_one 0] at ez
    have ez := fr_cross (by omega) (by omega) ez
    rw [if_neg (by rw [Int.mul_comm (a - t * c) b]; omega)]
    have e : a * b = (t * b + v) * c := by omega
    have x0 : x = 0 := by omega
    subst x0
    refine lp0 c0 (by omega) (by omega) ?_
    grind
theorem lplace_run (k : CarOk v b t) (m : MoOk a c) : run P (n + 6) 40 none [.sh (carD v b t), .sh (frD (fr a c))] h = .ok false (frD (placeP v b t a c)) h := by
  rw [run_eq p40 rfl rfl]
  have c0 : 0 < c := by have := m.c0; omega
  obtain ⟨q1, q2, q3, q4, q5, q6, q7⟩ := m.bds k
  obtain ⟨w1, w2, w3⟩ := k.wb
  have st := sz_one (a := t) (by have := k.t0; have := k.t1; omega)
  have sv := sz_one (a := v) (by have := k.v0; have := k.v1; omega)
  have sm := sz_fr (a := a) (b := c) (by omega) (by omega) (by have := m.c1; omega)
  have e1 := less_run (n := n + 4) (h := h) p36' st sm
  rw [one_lt c0] at e1
  by_cases g1 : t * c < a
  · have g1' : ¬ a < t * c := by omega
    have e2 := ltime_run (n := n + 2) (h := h) k
    rw [timeP_eq] at e2
    have tm := timeMo k
    have ste := sz_fr (a := timeA v b t) (b := timeC v b) (by have := tm.a0; have := tm.a1; have := tm.c1; omega) (by have := tm.c0; omega) (by have := tm.c1; omega)
    have e3 := less_run (n := n + 4) (h := h) p36' ste sm
    rw [flt_fr (by have := tm.c0; omega) c0] at e3
    have m1 := bmul (x := v) (y := t) (by have := k.v0; have := k.v1; omega)
    rw [decide_eq_true g1] at e1
    by_cases g2 : timeA v b t * c < a * timeC v b
    · obtain ⟨x, z, T⟩ := tail_ok (n := n) (h := h) k tm
      have f1 := T.f1
      have f2 := T.f2
      have f3 := T.f3
      have f4 := T.f4
      have f5 := T.f5
      have f6 := T.f6
      rw [decide_eq_true g2] at e3
      by_cases g0 : 0 < v
      · have fin : fr (v * t * (timeC v b * (2 * z)) + (timeA v b t - t * timeC v b) * (v * z + x)) (timeC v b * (2 * z)) = placeP v b t a c := by
          have eA : timeA v b t = t * b + v := if_pos g0
          have eC : timeC v b = b := if_pos g0
          have b0 := k.b0
          rw [eA, eC] at T g2 tm ⊢
          rw [tail_place k tm g0 (by omega) (by omega) T]
          unfold placeP
          have id : (t * b + v) * c - a * b = v * c - b * (a - t * c) := by grind
          have id2 : (t * b + v - t * b) * b = v * b := by grind
          rw [if_neg (by omega), if_neg (by omega), if_neg g1', if_neg (by rw [Int.mul_comm (a - t * c) b]; omega)]
        rw [fin] at f6
        dsimp only [frD] at *
        simp [f__law_place, e1, e2, e3, f1, f2, f3, f4, f5, f6, m1, g0]
      · have fin : placeP v b t a c = (0, 1) := by
          have v0 : v = 0 := by have := k.v0; omega
          subst v0
          have b0 := k.b0
          unfold placeP
          rw [if_neg g1', if_neg (by have := Int.mul_pos (show 0 < a - t * c by omega) (show 0 < b by omega); omega), ← fr_one 0]
          exact fr_eq (by omega) (by omega) (by grind)
        rw [fin]
        dsimp only [frD] at *
        simp [f__law_place, e1, e2, e3, f1, f2, f3, f4, g0]
    · obtain ⟨x, z, T⟩ := tail_ok (n := n) (h := h) k m
      have f1 := T.f1
      have f2 := T.f2
      have f3 := T.f3
      have f4 := T.f4
      have f5 := T.f5
      have f6 := T.f6
      rw [decide_eq_false g2] at e3
      have g0 : 0 < v := by
        apply Int.lt_of_not_ge
        intro hv
        unfold timeA timeC at g2
        rw [if_neg (by omega), if_neg (by omega)] at g2
        have := m.a0
        have h2 := Int.mul_nonneg k.t0 (show 0 ≤ c by omega)
        omega
      rw [tail_place k m g0 g1 (by
        unfold timeA timeC at g2
        rw [if_pos g0, if_pos g0] at g2
        omega) T] at f6
      dsimp only [frD] at *
      simp [f__law_place, e1, e2, e3, f1, f2, f3, f4, f5, f6, m1, g0]
  · rw [decide_eq_false g1] at e1
    have e2 := times_run (n := n + 2) (h := h) p34' lowL sv sm
    rw [one_mul' c0] at e2
    have fin : fr (v * a) c = placeP v b t a c := by
      unfold placeP
      by_cases g2 : a < t * c
      · rw [if_pos g2]
      · have e : a = t * c := by omega
        have b0 := k.b0
        rw [if_neg g2]
        by_cases g0 : 0 < v
        · rw [if_pos (by rw [show a - t * c = 0 by omega, Int.zero_mul]; exact Int.mul_pos g0 c0)]
          refine fr_eq c0 (Int.mul_pos c0 (by have := Int.mul_pos c0 c0; omega)) ?_
          subst e
          grind
        · have v0 : v = 0 := by have := k.v0; omega
          subst v0
          rw [if_neg (by rw [show a - t * c = 0 by omega]; omega)]
          exact fr_eq c0 (by omega) (by grind)
    rw [fin] at e2
    dsimp only [frD] at *
    simp [f__law_place, e1, e2]
theorem lway_run (k : CarOk v b t) : run P (n + 7) 41 none [.sh (carD v b t)] h = .ok false (frD (wayP v b t)) h := by
  rw [run_eq p41 rfl rfl]
  have e1 := ltime_run (n := n + 3) (h := h) k
  rw [timeP_eq] at e1
  have e2 := lplace_run (n := n) (h := h) k (timeMo k)
  have fin : placeP v b t (timeA v b t) (timeC v b) = wayP v b t := by
    have b0 := k.b0
    unfold placeP timeA timeC
    by_cases g0 : 0 < v
    · have id2 : (t * b + v - t * b) * b = v * b := by grind
      rw [if_pos g0, if_pos g0, if_neg (by omega), if_neg (by omega)]
    · have v0 : v = 0 := by have := k.v0; omega
      subst v0
      rw [if_neg g0, if_neg g0]
      split
      · exact fr_eq (by omega) (by omega) (by grind)
      · have t0 : t = 0 := by have := k.t0; omega
        subst t0
        rw [if_neg (by simp)]
  rw [fin] at e2
  dsimp only [frD] at *
  simp [f__law_way, e1, e2]
end
end HX

namespace HX
open PySem (PyData Str)
open PyD
/-! _law_is of the same -/
def IsT (k : Nat) (d : PyData) : Prop := ∀ (n : Nat) (h : Hand), run P (n + k) 27 none [.sh d, .sh d] h = .ok false (.bool true) h
theorem IsT.up {k : Nat} {d : PyData} (s : IsT k d) : IsT (k + 1) d := fun n h => by
  have := s (n + 1) h
  rw [show n + 1 + k = n + (k + 1) by omega] at this
  exact this
theorem isT_none : IsT 1 .none := fun n h => by
  rw [run_eq p27 rfl rfl]
  simp [f__law_is, isTy]
theorem isT_int {i : Int} : IsT 1 (.int i) := fun n h => by
  rw [run_eq p27 rfl rfl]
  simp [f__law_is, isTy, bne_tt, bne_ff, beq_ff]
theorem isT_bool {b : Bool} : IsT 1 (.bool b) := fun n h => by
  rw [run_eq p27 rfl rfl]
  have z : isNoneD (.bool b) = false := rfl
  have e : cop .eq (.bool b) (.bool b) = some true := eq_same Lv.bool (by omega)
  simp [f__law_is, isTy, bne_tt, bne_ff, beq_ff, e, z]
theorem isT_comp {k n : Nat} {h : Hand} {ds : List PyData} {d : PyData} (hd : d = .tuple ds ∨ d = .list ds) (s : ∀ x ∈ ds, IsT k x) {s2 : Sl} : compL [.sh d, .sh d, s2] (.nm 2) (evc (cl P (n + k)) .no) (ev (cl P (n + k)) (.call 27 (.cons (.idx (.var 0) (.var 2)) (.cons (.idx (.var 1) (.var 2)) .nil)))) (rangeD 0 1 ds.length) h = some ((List.range ds.length).map fun _ => .bool true, h) := by
  rw [rangeD_0, compL_mm (f := fun (j : Nat) => PyData.int (j : Int)) (g := fun _ => .bool true) fun j hj => by
    have hj := List.mem_range.mp hj
    have e := s ds[j] (List.getElem_mem hj) n h
    have ei : L2.atI ds (j : Int) = some ds[j] := by
      rw [atI_nat (by omega) (by simpa using hj), Int.toNat_natCast, List.getElem?_eq_getElem hj]
    rcases hd with rfl | rfl <;> simp [stp, e, ei]]
theorem isT_all {m : Nat} : bfn .all [.list ((List.range m).map fun _ => PyData.bool true)] = some (false, .bool true) := by
  rw [bfn_all (f := fun _ : Nat => true)]
  simp
def isI0 : S := (.ife (.cmp .ne (.isi (.var 0) .tuple) (.isi (.var 1) .tuple)) (.cons (.ret (.bl false)) .nil) .nil)
def isI1 : S := (.ife (.cmp .ne (.isi (.var 0) .list) (.isi (.var 1) .list)) (.cons (.ret (.bl false)) .nil) .nil)
def isI2 : S := (.ife (.cmp .ne (.bfn .len (.cons (.var 0) .nil)) (.bfn .len (.cons (.var 1) .nil))) (.cons (.ret (.bl false)) .nil) .nil)
def isI3 : S := (.ret (.bfn .all (.cons (.comp [2] (.nm 2) (.rng1 (.bfn .len (.cons (.var 1) .nil))) .no (.call 27 (.cons (.idx (.var 0) (.var 2)) (.cons (.idx (.var 1) (.var 2)) .nil)))) .nil)))
def isIR : Ss := (.cons (.ife (.isn (.var 1)) (.cons (.ret (.isn (.var 0))) .nil) .nil) (.cons (.ife (.or (.cons (.cmp .ne (.isi (.var 0) .bool) (.isi (.var 1) .bool)) (.cons (.cmp .ne (.isi (.var 0) .int) (.isi (.var 1) .int)) .nil))) (.cons (.ret (.bl false)) .nil) .nil) (.cons (.ret (.and (.cons (.cmp .eq (.isi (.var 0) .str) (.isi (.var 1) .str)) (.cons (.cmp .eq (.var 0) (.var 1)) .nil)))) .nil)))
theorem isI0_T {M : Nat} {h : Hand} {ds : List PyData} : ex (cl P M) none isI0 [.sh (.tuple ds), .sh (.tuple ds), .non] h = .nx [.sh (.tuple ds), .sh (.tuple ds), .non] h := by
  simp [isI0, isTy, bne_tt, bne_ff]
theorem isI1_T {M : Nat} {h : Hand} {ds : List PyData} : ex (cl P M) none isI1 [.sh (.tuple ds), .sh (.tuple ds), .non] h = .nx [.sh (.tuple ds), .sh (.tuple ds), .non] h := by
  simp [isI1, isTy, bne_tt, bne_ff]
theorem isI2_T {M : Nat} {h : Hand} {ds : List PyData} {m : Int} (bl : bfn .len [.tuple ds] = some (false, .int m)) : ex (cl P M) none isI2 [.sh (.tuple ds), .sh (.tuple ds), .non] h = .nx [.sh (.tuple ds), .sh (.tuple ds), .non] h := by
  simp [-bfn_len_tup, isI2, bl]
theorem isI3_T {M : Nat} {h : Hand} {ds X Y : List PyData} (rg : evSrc (cl P M) true (.rng1 (.bfn .len (.cons (.var 1) .nil))) [.sh (.tuple ds), .sh (.tuple ds), .non] h = .ok X [.sh (.tuple ds), .sh (.tuple ds), .non] h) (c : compL [.sh (.tuple ds), .sh (.tuple ds), .non] (.nm 2) (evc (cl P M) .no) (ev (cl P M) (.call 27 (.cons (.idx (.var 0) (.var 2)) (.cons (.idx (.var 1) (.var 2)) .nil)))) X h = some (Y, h)) (ba : bfn .all [.list Y] = some (false, .bool true)) : ex (cl P M) none isI3 [.sh (.tuple ds), .sh (.tuple ds), .non] h = .ret false (.bool true) h := by
  simp [-src_rng1, isI3, rg, c, ba]
theorem isI_T {M : Nat} {h : Hand} {ds : List PyData} {r : Rt} (e : exs (cl P M) none (.cons isI0 (.cons isI1 (.cons isI2 (.cons isI3 .nil)))) [.sh (.tuple ds), .sh (.tuple ds), .non] h = r) (hr : r = .ret false (.bool true) h) : ex (cl P M) none (.ife (.or (.cons (.isi (.var 1) .tuple) (.cons (.isi (.var 1) .list) .nil))) (.cons isI0 (.cons isI1 (.cons isI2 (.cons isI3 .nil)))) .nil) [.sh (.tuple ds), .sh (.tuple ds), .non] h = .ret false (.bool true) h := by
  generalize Ss.cons isI0 (.cons isI1 (.cons isI2 (.cons isI3 .nil))) = B at *
  simp [isTy, e, hr]
theorem isT_stepT {M : Nat} {h : Hand} {ds X Y : List PyData} {m : Int} (bl : bfn .len [.tuple ds] = some (false, .int m)) (rg : evSrc (cl P M) true (.rng1 (.bfn .len (.cons (.var 1) .nil))) [.sh (.tuple ds), .sh (.tuple ds), .non] h = .ok X [.sh (.tuple ds), .sh (.tuple ds), .non] h) (c : compL [.sh (.tuple ds), .sh (.tuple ds), .non] (.nm 2) (evc (cl P M) .no) (ev (cl P M) (.call 27 (.cons (.idx (.var 0) (.var 2)) (.cons (.idx (.var 1) (.var 2)) .nil)))) X h = some (Y, h)) (ba : bfn .all [.list Y] = some (false, .bool true)) : rtC h (exs (cl P M) none f__law_is.body [.sh (.tuple ds), .sh (.tuple ds), .non] h) = .ok false (.bool true) h := by
  have e : exs (cl P M) none (.cons isI0 (.cons isI1 (.cons isI2 (.cons isI3 .nil)))) [.sh (.tuple ds), .sh (.tuple ds), .non] h = .ret false (.bool true) h := by
    rw [seq3 isI0_T, seq3 isI1_T, seq3 (isI2_T bl), ret3 (isI3_T rg c ba)]
  have e2 := isI_T e rfl
  show rtC h (exs (cl P M) none (.cons (.ife (.or (.cons (.isi (.var 1) .tuple) (.cons (.isi (.var 1) .list) .nil))) (.cons isI0 (.cons isI1 (.cons isI2 (.cons isI3 .nil)))) .nil) isIR) [.sh (.tuple ds), .sh (.tuple ds), .non] h) = _
  rw [ret3 e2]
  simp
theorem isI0_L {M : Nat} {h : Hand} {ds : List PyData} : ex (cl P M) none isI0 [.sh (.list ds), .sh (.list ds), .non] h = .nx [.sh (.list ds), .sh (.list ds), .non] h := by
  simp [isI0, isTy, bne_tt, bne_ff]
theorem isI1_L {M : Nat} {h : Hand} {ds : List PyData} : ex (cl P M) none isI1 [.sh (.list ds), .sh (.list ds), .non] h = .nx [.sh (.list ds), .sh (.list ds), .non] h := by
  simp [isI1, isTy, bne_tt, bne_ff]
theorem isI2_L {M : Nat} {h : Hand} {ds : List PyData} {m : Int} (bl : bfn .len [.list ds] = some (false, .int m)) : ex (cl P M) none isI2 [.sh (.list ds), .sh (.list ds), .non] h = .nx [.sh (.list ds), .sh (.list ds), .non] h := by
  simp [-bfn_len_tup, isI2, bl]
theorem isI3_L {M : Nat} {h : Hand} {ds X Y : List PyData} (rg : evSrc (cl P M) true (.rng1 (.bfn .len (.cons (.var 1) .nil))) [.sh (.list ds), .sh (.list ds), .non] h = .ok X [.sh (.list ds), .sh (.list ds), .non] h) (c : compL [.sh (.list ds), .sh (.list ds), .non] (.nm 2) (evc (cl P M) .no) (ev (cl P M) (.call 27 (.cons (.idx (.var 0) (.var 2)) (.cons (.idx (.var 1) (.var 2)) .nil)))) X h = some (Y, h)) (ba : bfn .all [.list Y] = some (false, .bool true)) : ex (cl P M) none isI3 [.sh (.list ds), .sh (.list ds), .non] h = .ret false (.bool true) h := by
  simp [-src_rng1, isI3, rg, c, ba]
theorem isI_L {M : Nat} {h : Hand} {ds : List PyData} {r : Rt} (e : exs (cl P M) none (.cons isI0 (.cons isI1 (.cons isI2 (.cons isI3 .nil)))) [.sh (.list ds), .sh (.list ds), .non] h = r) (hr : r = .ret false (.bool true) h) : ex (cl P M) none (.ife (.or (.cons (.isi (.var 1) .tuple) (.cons (.isi (.var 1) .list) .nil))) (.cons isI0 (.cons isI1 (.cons isI2 (.cons isI3 .nil)))) .nil) [.sh (.list ds), .sh (.list ds), .non] h = .ret false (.bool true) h := by
  generalize Ss.cons isI0 (.cons isI1 (.cons isI2 (.cons isI3 .nil))) = B at *
  simp [isTy, e, hr]
theorem isT_stepL {M : Nat} {h : Hand} {ds X Y : List PyData} {m : Int} (bl : bfn .len [.list ds] = some (false, .int m)) (rg : evSrc (cl P M) true (.rng1 (.bfn .len (.cons (.var 1) .nil))) [.sh (.list ds), .sh (.list ds), .non] h = .ok X [.sh (.list ds), .sh (.list ds), .non] h) (c : compL [.sh (.list ds), .sh (.list ds), .non] (.nm 2) (evc (cl P M) .no) (ev (cl P M) (.call 27 (.cons (.idx (.var 0) (.var 2)) (.cons (.idx (.var 1) (.var 2)) .nil)))) X h = some (Y, h)) (ba : bfn .all [.list Y] = some (false, .bool true)) : rtC h (exs (cl P M) none f__law_is.body [.sh (.list ds), .sh (.list ds), .non] h) = .ok false (.bool true) h := by
  have e : exs (cl P M) none (.cons isI0 (.cons isI1 (.cons isI2 (.cons isI3 .nil)))) [.sh (.list ds), .sh (.list ds), .non] h = .ret false (.bool true) h := by
    rw [seq3 isI0_L, seq3 isI1_L, seq3 (isI2_L bl), ret3 (isI3_L rg c ba)]
  have e2 := isI_L e rfl
  show rtC h (exs (cl P M) none (.cons (.ife (.or (.cons (.isi (.var 1) .tuple) (.cons (.isi (.var 1) .list) .nil))) (.cons isI0 (.cons isI1 (.cons isI2 (.cons isI3 .nil)))) .nil) isIR) [.sh (.list ds), .sh (.list ds), .non] h) = _
  rw [ret3 e2]
  simp
theorem isT_tup {k : Nat} {ds : List PyData} (hl : ds.length ≤ 1000) (s : ∀ x ∈ ds, IsT k x) : IsT (k + 1) (.tuple ds) := fun n h => by
  rw [show n + (k + 1) = n + k + 1 by omega, run_eq p27 rfl rfl]
  have c := isT_comp (n := n) (h := h) (d := .tuple ds) (.inl rfl) s (s2 := .non)
  have rg := src_rng1_nat (C := cl P (n + k)) (o := true) (a := .bfn .len (.cons (.var 1) .nil)) (ρ := [.sh (.tuple ds), .sh (.tuple ds), .non]) (h := h) (m := ds.length) (by simp; exact ⟨rfl, rfl⟩) (by omega)
  exact isT_stepT bfn_len_tup rg c isT_all
theorem isT_list {k : Nat} {ds : List PyData} (hl : ds.length ≤ 1000) (s : ∀ x ∈ ds, IsT k x) : IsT (k + 1) (.list ds) := fun n h => by
  rw [show n + (k + 1) = n + k + 1 by omega, run_eq p27 rfl rfl]
  have c := isT_comp (n := n) (h := h) (d := .list ds) (.inr rfl) s (s2 := .non)
  have rg := src_rng1_nat (C := cl P (n + k)) (o := true) (a := .bfn .len (.cons (.var 1) .nil)) (ρ := [.sh (.list ds), .sh (.list ds), .non]) (h := h) (m := ds.length) (by simp; exact ⟨rfl, rfl⟩) (by omega)
  exact isT_stepL (m := ds.length) rfl rg c isT_all
theorem isT_fr {p : Int × Int} : IsT 2 (frD p) := isT_tup (by simp) fun x hx => by
  simp at hx
  rcases hx with rfl | rfl <;> exact isT_int
theorem isT_car {v b t : Int} : IsT 2 (carD v b t) := isT_tup (by simp) fun x hx => by
  simp at hx
  rcases hx with rfl | rfl | rfl <;> exact isT_int
theorem isT_o {o : Option Nat} : IsT 1 (oD o) := by
  cases o
  · exact isT_none
  · exact isT_int
/-! what is no car -/
theorem isW_I {lo hi : Int} {d : PyData} (h : isW lo hi d = true) : isI d = true := by
  cases d with
  | int i => rfl
  | _ => cases h
theorem iscar_run {n : Nat} {h : Hand} {d : PyData} : run P (n + 2) 44 none [.sh d] h = .ok false (.bool (isB d)) h := by
  rw [run_eq p44 rfl rfl]
  have comp : ∀ (ds : List PyData) (s1 : Sl), compL [s1, .non] (.nm 1) (evc (cl P (n + 1)) .no) (ev (cl P (n + 1)) (.call 29 (.cons (.var 1) .nil))) ds h = some (ds.map fun x => .bool (isI x), h) := fun ds s1 => by
    rw [show ds = ds.map (fun x => x) by simp, compL_mm (f := fun x => x) (g := fun x => .bool (isI x)) fun x _ => by
      have e := isInt_run (P := P) (k := 29) (n := n) (h := h) rfl (Lent.sh (d := x))
      simp [stp, e]]
    simp
  cases d <;> try (simp [f__law_is_car, isB, isTy]; done)
  rename_i ds
  match ds with
  | [] => simp [f__law_is_car, isB, isTy]
  | [x] => simp [f__law_is_car, isB, isTy]
  | [x, y] => simp [f__law_is_car, isB, isTy]
  | x :: y :: z :: w :: r =>
    have hl : ¬ (((x :: y :: z :: w :: r).length : Nat) : Int) = 3 := by simp only [List.length_cons]; omega
    have bl : bfn .len [.tuple (x :: y :: z :: w :: r)] = some (false, .int (((x :: y :: z :: w :: r).length : Nat) : Int)) := bfn_len_tup
    generalize (((x :: y :: z :: w :: r).length : Nat) : Int) = m at *
    simp [-bfn_len_tup, f__law_is_car, isB, isTy, bl, hl]
  | [x, y, z] =>
    have bl : bfn .len [.tuple [x, y, z]] = some (false, .int 3) := rfl
    have cm := fun s1 => comp [x, y, z] s1
    rw [show ([x, y, z].map fun x => PyData.bool (isI x)) = [.bool (isI x), .bool (isI y), .bool (isI z)] from rfl] at cm
    have ba := fun p q r : Bool => bfn_all3 (p := p) (q := q) (r := r)
    have eB : isB (.tuple [x, y, z]) = (isW 0 100 x && (isW 1 20 y && isW 0 10 z)) := rfl
    by_cases q : (isI x && (isI y && isI z)) = true
    · rw [Bool.and_eq_true, Bool.and_eq_true] at q
      obtain ⟨q1, q2, q3⟩ := q
      rw [q1, q2, q3] at cm
      obtain ⟨v, rfl⟩ : ∃ v, x = .int v := by cases x <;> first | exact ⟨_, rfl⟩ | cases q1
      obtain ⟨b, rfl⟩ : ∃ v, y = .int v := by cases y <;> first | exact ⟨_, rfl⟩ | cases q2
      obtain ⟨t, rfl⟩ : ∃ v, z = .int v := by cases z <;> first | exact ⟨_, rfl⟩ | cases q3
      rw [eB]
      simp only [isW]
      by_cases g1 : 0 ≤ v
      rotate_left
      · simp [-bfn_len_tup, f__law_is_car, isTy, bl, cm, ba, g1]
      by_cases g2 : v ≤ 100
      rotate_left
      · simp [-bfn_len_tup, f__law_is_car, isTy, bl, cm, ba, g1, g2]
      by_cases g3 : 1 ≤ b
      rotate_left
      · simp [-bfn_len_tup, f__law_is_car, isTy, bl, cm, ba, g1, g2, g3]
      by_cases g4 : b ≤ 20
      rotate_left
      · simp [-bfn_len_tup, f__law_is_car, isTy, bl, cm, ba, g1, g2, g3, g4]
      by_cases g5 : 0 ≤ t
      rotate_left
      · simp [-bfn_len_tup, f__law_is_car, isTy, bl, cm, ba, g1, g2, g3, g4, g5]
      by_cases g6 : t ≤ 10
      rotate_left
      · simp [-bfn_len_tup, f__law_is_car, isTy, bl, cm, ba, g1, g2, g3, g4, g5, g6]
      simp [-bfn_len_tup, f__law_is_car, isTy, bl, cm, ba, g1, g2, g3, g4, g5, g6]
    · have eB2 : isB (.tuple [x, y, z]) = false := by
        rw [eB]
        apply Bool.eq_false_iff.mpr
        intro w
        apply q
        rw [Bool.and_eq_true, Bool.and_eq_true] at w ⊢
        exact ⟨isW_I w.1, isW_I w.2.1, isW_I w.2.2⟩
      rw [eB2]
      have q := Bool.eq_false_iff.mpr q
      have ba2 := ba (isI x) (isI y) (isI z)
      rw [q] at ba2
      simp [-bfn_len_tup, f__law_is_car, isTy, bl, cm, ba2]
def NoC (d : PyData) : Prop := (∀ lo hi, isW lo hi d = false) ∧ isB d = false
def dpB : Ss := (.cons (.asg (.nm 1) (.ife (.cmp .eq (.call 25 (.cons (.var 0) (.cons (.int 2) .nil))) (.int 0)) (.tup (.cons (.str "?") (.cons (.var 1) .nil))) (.lst (.cons (.var 1) .nil)))) .nil)
theorem deep_run {n : Nat} {h : List PyData} (hh : Hd h) : ∃ fr d h', run P (n + 2) 28 none [.hnd] (some h) = .ok fr d (some h') ∧ NoC d ∧ Hd h' := by
  obtain ⟨r, h2, e2, r0, r1, hh2⟩ := draw_run (n := n) (m := 30) p25 hh (by omega) (by omega)
  have key := forL_inv (t := .nm 2) (b := exs (cl P (n + 1)) none dpB)
    (fun _ ρ h => ∃ d s2 h', (ρ = [.hnd, .sh d, s2] ∨ ρ = [.hnd, .own d, s2]) ∧ h = some h' ∧ NoC d ∧ Hd h') (fun y ys ρ h i => by
      obtain ⟨d, s2, h', hρ, rfl, bd, hh⟩ := i
      obtain ⟨r, h2, e2, r0, r1, hh2⟩ := draw_run (n := n) (m := 2) p25 hh (by omega) (by omega)
      by_cases q : r = 0
      · rcases hρ with rfl | rfl
        · exact ⟨[.hnd, .sh (.tuple [.str "?", d]), .sh y], some h2, by simp [turn, dpB, e2, q], _, _, h2, .inl rfl, rfl, ⟨fun _ _ => rfl, rfl⟩, hh2⟩
        · exact ⟨[.hnd, .sh (.tuple [.str "?", d]), .sh y], some h2, by simp [turn, dpB, e2, q], _, _, h2, .inl rfl, rfl, ⟨fun _ _ => rfl, rfl⟩, hh2⟩
      · rcases hρ with rfl | rfl
        · exact ⟨[.hnd, .own (.list [d]), .sh y], some h2, by simp [turn, dpB, e2, q], _, _, h2, .inr rfl, rfl, ⟨fun _ _ => rfl, rfl⟩, hh2⟩
        · exact ⟨[.hnd, .own (.list [d]), .sh y], some h2, by simp [turn, dpB, e2, q], _, _, h2, .inr rfl, rfl, ⟨fun _ _ => rfl, rfl⟩, hh2⟩)
    (rangeD 0 1 r.toNat) [.hnd, .sh (.str "?"), .non] (some h2) ⟨.str "?", .non, h2, .inl rfl, rfl, ⟨fun _ _ => rfl, rfl⟩, hh2⟩
  obtain ⟨ρ', h3, e3, d, s2, h4, hρ, rfl, bd, hh4⟩ := key
  have g : rngOk r = true := by unfold rngOk; simp; omega
  have g2 : r ≤ 16777216 := by omega
  unfold dpB at e3
  rw [run_eq p28 rfl rfl]
  rcases hρ with rfl | rfl
  · exact ⟨false, d, h4, by simp [f__law_deep, e2, g, g2, e3], bd, hh4⟩
  · exact ⟨true, d, h4, by simp [f__law_deep, e2, g, g2, e3], bd, hh4⟩
def C13 : List PyData := [.none, .str "?", .tuple [.int 1, .int 1], .tuple [.int 101, .int 1, .int 0], .tuple [.int (-1), .int 1, .int 0], .tuple [.int 1, .int 0, .int 0], .tuple [.int 1, .int 21, .int 0], .tuple [.int 1, .int 1, .int 11], .tuple [.int 1, .int 1, .int (-1)], .list [.int 1, .int 1, .int 1], .tuple [.bool true, .int 1, .int 1], .tuple [.int 1, .int 1, .int 1, .int 1], .int 5]
def C3 (d : PyData) : List PyData := [.tuple [.str "?", .int 1, .int 1], .tuple [.int 1, .none, .int 1], d]
theorem C_bad {d : PyData} (hd : NoC d) : ∀ x ∈ C13 ++ C3 d, isB x = false := by
  intro x h
  unfold C13 C3 at h
  simp only [List.cons_append, List.nil_append, List.mem_cons, List.not_mem_nil, or_false] at h
  rcases h with rfl | rfl | rfl | rfl | rfl | rfl | rfl | rfl | rfl | rfl | rfl | rfl | rfl | rfl | rfl | rfl <;> first | exact hd.2 | rfl | decide +kernel
theorem nocar_run {n : Nat} {h : List PyData} (hh : Hd h) : ∃ d h', run P (n + 3) 42 none [.hnd] (some h) = .ok false d (some h') ∧ isB d = false ∧ Hd h' := by
  obtain ⟨fr, d, h1, e1, bd, hh1⟩ := deep_run (n := n) hh
  obtain ⟨x, h2, e2, m2, hh2⟩ := any_run (n := n) (a := .sh (.list (C13 ++ C3 d))) p26 p25 hh1 .sh (by simp [C13]) (by simp [C13, C3])
  refine ⟨x, h2, ?_, C_bad bd x m2, hh2⟩
  have eb : bop .add (.list C13) (.list (C3 d)) = some (true, .list (C13 ++ C3 d)) := bop_lst (by simp [C13, C3])
  rw [run_eq p42 rfl rfl]
  generalize C13 ++ C3 d = L at *
  unfold C13 C3 at eb
  simp [f__law_no_car, e1, e2, eb]
def N7 (m : Int) (d : PyData) : List PyData := [.int (m + 1), .int (-1), .none, .bool true, .str "?", .tuple [.int 1], d]
theorem N_bad {m : Int} {d : PyData} (hd : NoC d) : ∀ x ∈ N7 m d, isW 0 m x = false := by
  intro x h
  unfold N7 at h
  simp only [List.mem_cons, List.not_mem_nil, or_false] at h
  rcases h with rfl | rfl | rfl | rfl | rfl | rfl | rfl <;> first | exact hd.1 _ _ | rfl | skip
  show (decide (0 ≤ m + 1) && decide (m + 1 ≤ m)) = false
  rw [decide_eq_false (p := m + 1 ≤ m) (by omega), Bool.and_false]
theorem nonum_run {n : Nat} {h : List PyData} {m : Int} (hh : Hd h) : ∃ d h', run P (n + 3) 43 none [.hnd, .sh (.int m)] (some h) = .ok false d (some h') ∧ isW 0 m d = false ∧ Hd h' := by
  obtain ⟨fr, d, h1, e1, bd, hh1⟩ := deep_run (n := n) hh
  obtain ⟨x, h2, e2, m2, hh2⟩ := any_run (n := n) (a := .sh (.list (N7 m d))) p26 p25 hh1 .sh (by simp [N7]) (by simp [N7])
  refine ⟨x, h2, ?_, N_bad bd x m2, hh2⟩
  rw [run_eq p43 rfl rfl]
  unfold N7 at e2
  simp [f__law_no_number, e1, e2]
theorem car_run {n : Nat} {h : List PyData} (hh : Hd h) : ∃ v b t h', run P (n + 3) 37 none [.hnd] (some h) = .ok false (carD v b t) (some h') ∧ CarOk v b t ∧ Hd h' := by
  obtain ⟨x, h1, e0, m0, hh1⟩ := any_run (n := n) (a := .sh (.list [.int 4, .int 30, .int 101])) p26 p25 hh .sh (by simp) (by simp)
  obtain ⟨w, rfl, hw⟩ : ∃ w : Int, x = .int w ∧ 1 ≤ w ∧ w ≤ 101 := by
    simp at m0
    rcases m0 with rfl | rfl | rfl
    · exact ⟨4, rfl, by omega, by omega⟩
    · exact ⟨30, rfl, by omega, by omega⟩
    · exact ⟨101, rfl, by omega, by omega⟩
  obtain ⟨v, h2, e1, v0, v1, hh2⟩ := draw_run (n := n + 1) (m := w) p25 hh1 (by omega) (by omega)
  obtain ⟨b, h3, e2, b0, b1, hh3⟩ := draw_run (n := n + 1) (m := 20) p25 hh2 (by omega) (by omega)
  obtain ⟨t, h4, e3, t0, t1, hh4⟩ := draw_run (n := n + 1) (m := 11) p25 hh3 (by omega) (by omega)
  refine ⟨v, 1 + b, t, h4, ?_, ⟨by omega, by omega, by omega, by omega, by omega, by omega⟩, hh4⟩
  rw [run_eq p37 rfl rfl]
  simp [f__law_car, e0, e1, e2, e3]
end HX

--NS=9
namespace HX
open PySem (PyData Str)
open PyD
/-! a car's ways, told right -/
def ir0 : S := (.par [2, 3] (.cons (.call 41 (.cons (.var 1) .nil)) (.cons (.call 38 (.cons (.var 1) .nil)) .nil)))
def ir1 : S := (.asg (.nm 4) (.bin .add (.int 1) (.call 25 (.cons (.var 0) (.cons (.int 9) .nil)))))
def ir2 : S := (.ife (.nt (.call 27 (.cons (.lst (.cons (.call 12 (.cons (.var 1) .nil)) (.cons (.call 14 (.cons (.var 1) .nil)) (.cons (.call 21 (.cons (.var 1) .nil)) .nil)))) (.cons (.lst (.cons (.var 2) (.cons (.var 3) (.cons (.ife (.cmp .gt (.idx (.var 3) (.int 0)) (.int 0)) (.call 35 (.cons (.var 2) (.cons (.var 3) .nil))) (.tup (.cons (.int 0) (.cons (.int 1) .nil)))) .nil)))) .nil)))) (.cons (.ret (.bl false)) .nil) .nil)
def ir3 : S := (.asg (.nm 5) (.bin .add (.bin .fdiv (.bin .mul (.idx (.var 3) (.int 0)) (.var 4)) (.idx (.var 3) (.int 1))) (.bin .mul (.int 2) (.var 4))))
def ir4 : S := (.for_ (.nm 6) (.val (.tup (.cons (.call 31 (.cons (.call 25 (.cons (.var 0) (.cons (.bin .add (.var 5) (.int 1)) .nil))) (.cons (.var 4) .nil))) (.cons (.tup (.cons (.idx (.var 1) (.int 2)) (.cons (.int 1) .nil))) (.cons (.tup (.cons (.int 0) (.cons (.int 1) .nil))) (.cons (.tup (.cons (.int 1000) (.cons (.int 1) .nil))) .nil)))))) (.cons (.ife (.nt (.call 27 (.cons (.lst (.cons (.call 16 (.cons (.var 1) (.cons (.var 6) .nil))) (.cons (.call 18 (.cons (.var 1) (.cons (.var 6) .nil))) .nil))) (.cons (.lst (.cons (.call 40 (.cons (.var 1) (.cons (.var 6) .nil))) (.cons (.call 39 (.cons (.var 1) (.cons (.var 6) .nil))) .nil))) .nil)))) (.cons (.ret (.bl false)) .nil) .nil) .nil))
def ir4F : Ss := (.cons (.ife (.nt (.call 27 (.cons (.lst (.cons (.call 16 (.cons (.var 1) (.cons (.var 6) .nil))) (.cons (.call 18 (.cons (.var 1) (.cons (.var 6) .nil))) .nil))) (.cons (.lst (.cons (.call 40 (.cons (.var 1) (.cons (.var 6) .nil))) (.cons (.call 39 (.cons (.var 1) (.cons (.var 6) .nil))) .nil))) .nil)))) (.cons (.ret (.bl false)) .nil) .nil) .nil)
def ir5 : S := (.asg (.nm 7) (.call 25 (.cons (.var 0) (.cons (.bin .add (.idx (.var 1) (.int 0)) (.int 1)) .nil))))
def ir6 : S := (.asg (.nm 8) (.tup (.cons (.bin .sub (.idx (.var 1) (.int 0)) (.var 7)) (.cons (.idx (.var 1) (.int 1)) (.cons (.idx (.var 1) (.int 2)) .nil)))))
def ir7 : S := (.ife (.nt (.call 27 (.cons (.lst (.cons (.call 22 (.cons (.var 1) (.cons (.var 7) .nil))) (.cons (.call 23 (.cons (.var 1) (.cons (.var 7) .nil))) .nil))) (.cons (.lst (.cons (.var 8) (.cons (.call 33 (.cons (.var 2) (.cons (.call 41 (.cons (.var 8) .nil)) .nil))) .nil))) .nil)))) (.cons (.ret (.bl false)) .nil) .nil)
def ir8 : S := (.ret (.isb (.call 36 (.cons (.call 40 (.cons (.var 1) (.cons (.var 3) .nil))) (.cons (.var 2) .nil))) false))
theorem ir_z0 {M : Nat} {h : Hand} {T W t : PyData} {s2 s3 s4 s5 s6 s7 s8 : Sl} (e1 : run P M 41 none [.sh T] h = .ok false W h) (e2 : run P M 38 none [.sh T] h = .ok false t h) : ex (cl P M) none ir0 [.hnd, .sh T, s2, s3, s4, s5, s6, s7, s8] h = .nx [.hnd, .sh T, .sh W, .sh t, s4, s5, s6, s7, s8] h := by
  simp [ir0, e1, e2]
theorem ir_z1 {M : Nat} {h h1 : Hand} {r : Int} {s1 s2 s3 s4 s5 s6 s7 s8 : Sl} (e : run P M 25 none [.hnd, .sh (.int 9)] h = .ok false (.int r) h1) : ex (cl P M) none ir1 [.hnd, s1, s2, s3, s4, s5, s6, s7, s8] h = .nx [.hnd, s1, s2, s3, .sh (.int (1 + r)), s5, s6, s7, s8] h1 := by
  simp [ir1, e]
theorem ir_z2a {M : Nat} {h : Hand} {T W m : PyData} {a c : Int} {s4 s5 s6 s7 s8 : Sl} (g : 0 < a) (e1 : run P M 12 none [.sh T] h = .ok false W h) (e2 : run P M 14 none [.sh T] h = .ok false (.tuple [.int a, .int c]) h) (e3 : run P M 21 none [.sh T] h = .ok false m h) (e4 : run P M 35 none [.sh W, .sh (.tuple [.int a, .int c])] h = .ok false m h) (e5 : run P M 27 none [.sh (.list [W, .tuple [.int a, .int c], m]), .sh (.list [W, .tuple [.int a, .int c], m])] h = .ok false (.bool true) h) : ex (cl P M) none ir2 [.hnd, .sh T, .sh W, .sh (.tuple [.int a, .int c]), s4, s5, s6, s7, s8] h = .nx [.hnd, .sh T, .sh W, .sh (.tuple [.int a, .int c]), s4, s5, s6, s7, s8] h := by
  simp [ir2, e1, e2, e3, e4, e5, g]
theorem ir_z2b {M : Nat} {h : Hand} {T W : PyData} {a c : Int} {s4 s5 s6 s7 s8 : Sl} (g : ¬ 0 < a) (e1 : run P M 12 none [.sh T] h = .ok false W h) (e2 : run P M 14 none [.sh T] h = .ok false (.tuple [.int a, .int c]) h) (e3 : run P M 21 none [.sh T] h = .ok false (.tuple [.int 0, .int 1]) h) (e5 : run P M 27 none [.sh (.list [W, .tuple [.int a, .int c], .tuple [.int 0, .int 1]]), .sh (.list [W, .tuple [.int a, .int c], .tuple [.int 0, .int 1]])] h = .ok false (.bool true) h) : ex (cl P M) none ir2 [.hnd, .sh T, .sh W, .sh (.tuple [.int a, .int c]), s4, s5, s6, s7, s8] h = .nx [.hnd, .sh T, .sh W, .sh (.tuple [.int a, .int c]), s4, s5, s6, s7, s8] h := by
  simp [ir2, e1, e2, e3, e5, g]
theorem ir_z3 {M : Nat} {h : Hand} {a c d : Int} {s1 s2 s5 s6 s7 s8 : Sl} (m1 : bop .mul (.int a) (.int d) = some (false, .int (a * d))) (m2 : bop .fdiv (.int (a * d)) (.int c) = some (false, .int (a * d / c))) (m3 : bop .mul (.int 2) (.int d) = some (false, .int (2 * d))) : ex (cl P M) none ir3 [.hnd, s1, s2, .sh (.tuple [.int a, .int c]), .sh (.int d), s5, s6, s7, s8] h = .nx [.hnd, s1, s2, .sh (.tuple [.int a, .int c]), .sh (.int d), .sh (.int (a * d / c + 2 * d)), s6, s7, s8] h := by
  simp [ir3, m1, m2, m3]
theorem ir_t4 {M : Nat} {h : Hand} {T d x y : PyData} {s2 s3 s4 s5 s6 s7 s8 : Sl} (e1 : run P M 16 none [.sh T, .sh d] h = .ok false x h) (e2 : run P M 18 none [.sh T, .sh d] h = .ok false y h) (e3 : run P M 40 none [.sh T, .sh d] h = .ok false x h) (e4 : run P M 39 none [.sh T, .sh d] h = .ok false y h) (e5 : run P M 27 none [.sh (.list [x, y]), .sh (.list [x, y])] h = .ok false (.bool true) h) : turn (.nm 6) (exs (cl P M) none ir4F) d [.hnd, .sh T, s2, s3, s4, s5, s6, s7, s8] h = .nx [.hnd, .sh T, s2, s3, s4, s5, .sh d, s7, s8] h := by
  simp [turn, ir4F, e1, e2, e3, e4, e5]
theorem isT_ff {p q : Int × Int} : IsT 3 (.list [frD p, frD q]) := isT_list (by simp) fun x hx => by
  simp at hx
  rcases hx with rfl | rfl
  · exact isT_fr (p := p)
  · exact isT_fr (p := q)
theorem isT_fff {p q r : Int × Int} : IsT 3 (.list [frD p, frD q, frD r]) := isT_list (by simp) fun x hx => by
  simp at hx
  rcases hx with rfl | rfl | rfl
  · exact isT_fr (p := p)
  · exact isT_fr (p := q)
  · exact isT_fr (p := r)
def Mo (d : PyData) : Prop := ∃ a c : Int, d = frD (fr a c) ∧ MoOk a c
theorem ir_loop {n : Nat} {h : Hand} {v b t : Int} (k : CarOk v b t) {s2 s3 s4 s5 s7 s8 : Sl} : ∀ (xs : List PyData) (s6 : Sl), (∀ d ∈ xs, Mo d) → ∃ s6', forL (.nm 6) (exs (cl P (n + 8)) none ir4F) xs [.hnd, .sh (carD v b t), s2, s3, s4, s5, s6, s7, s8] h = .nx [.hnd, .sh (carD v b t), s2, s3, s4, s5, s6', s7, s8] h
  | [], s6, _ => ⟨s6, rfl⟩
  | x :: xs, s6, hx => by
    obtain ⟨a, c, rfl, m⟩ := hx _ (List.mem_cons_self ..)
    have e1 := placeat_run (n := n + 1) (h := h) k m
    have e2 := speed_run (n := n + 1) (h := h) k m
    have e3 := lplace_run (n := n + 2) (h := h) k m
    have e4 := lspeed_run (n := n + 3) (h := h) k m
    have e5 := isT_ff (p := placeP v b t a c) (q := speedP v b t a c) (n + 5) h
    obtain ⟨s6', e⟩ := ir_loop (n := n) (h := h) k (s2 := s2) (s3 := s3) (s4 := s4) (s5 := s5) (s7 := s7) (s8 := s8) xs (.sh (frD (fr a c))) fun d hd => hx d (List.mem_cons_of_mem _ hd)
    exact ⟨s6', (forL_nx (ir_t4 e1 e2 e3 e4 e5)).trans e⟩
theorem ir_z4 {M : Nat} {h h1 : Hand} {x : PyData} {v b t e r d : Int} {s2 s3 s6 s7 s8 : Sl} {R : Rt} (e1 : run P M 25 none [.hnd, .sh (.int (e + 1))] h = .ok false (.int r) h1) (e2 : run P M 31 none [.sh (.int r), .sh (.int d)] h1 = .ok false x h1) (el : forL (.nm 6) (exs (cl P M) none ir4F) [x, .tuple [.int t, .int 1], .tuple [.int 0, .int 1], .tuple [.int 1000, .int 1]] [.hnd, .sh (carD v b t), s2, s3, .sh (.int d), .sh (.int e), s6, s7, s8] h1 = R) : ex (cl P M) none ir4 [.hnd, .sh (carD v b t), s2, s3, .sh (.int d), .sh (.int e), s6, s7, s8] h = R := by
  unfold ir4F at el
  simp [ir4, e1, e2, el]
theorem ir_z5 {M : Nat} {h h1 : Hand} {v b t r : Int} {s2 s3 s4 s5 s6 s7 s8 : Sl} (e : run P M 25 none [.hnd, .sh (.int (v + 1))] h = .ok false (.int r) h1) : ex (cl P M) none ir5 [.hnd, .sh (carD v b t), s2, s3, s4, s5, s6, s7, s8] h = .nx [.hnd, .sh (carD v b t), s2, s3, s4, s5, s6, .sh (.int r), s8] h1 := by
  simp [ir5, e]
theorem ir_z6 {M : Nat} {h : Hand} {v b t r : Int} {s2 s3 s4 s5 s6 s8 : Sl} : ex (cl P M) none ir6 [.hnd, .sh (carD v b t), s2, s3, s4, s5, s6, .sh (.int r), s8] h = .nx [.hnd, .sh (carD v b t), s2, s3, s4, s5, s6, .sh (.int r), .sh (carD (v - r) b t)] h := by
  simp [ir6]
theorem ir_z7 {M : Nat} {h : Hand} {T W L W2 s : PyData} {r : Int} {s3 s4 s5 s6 : Sl} (e1 : run P M 22 none [.sh T, .sh (.int r)] h = .ok false L h) (e2 : run P M 23 none [.sh T, .sh (.int r)] h = .ok false s h) (e3 : run P M 41 none [.sh L] h = .ok false W2 h) (e4 : run P M 33 none [.sh W, .sh W2] h = .ok false s h) (e5 : run P M 27 none [.sh (.list [L, s]), .sh (.list [L, s])] h = .ok false (.bool true) h) : ex (cl P M) none ir7 [.hnd, .sh T, .sh W, s3, s4, s5, s6, .sh (.int r), .sh L] h = .nx [.hnd, .sh T, .sh W, s3, s4, s5, s6, .sh (.int r), .sh L] h := by
  simp [ir7, e1, e2, e3, e4, e5]
theorem ir_z8 {M : Nat} {h : Hand} {T W t : PyData} {s4 s5 s6 s7 s8 : Sl} (e1 : run P M 40 none [.sh T, .sh t] h = .ok false W h) (e2 : run P M 36 none [.sh W, .sh W] h = .ok false (.bool false) h) : ex (cl P M) none ir8 [.hnd, .sh T, .sh W, .sh t, s4, s5, s6, s7, s8] h = .ret false (.bool true) h := by
  simp [ir8, e1, e2]
section
variable {n : Nat} {h : Hand} {v b t : Int}
theorem time_num (k : CarOk v b t) : 0 < (timeP v b t).1 ↔ 0 < v := by
  unfold timeP
  by_cases g : 0 < v
  · rw [if_pos g]
    have := Int.mul_nonneg k.t0 (show 0 ≤ b by have := k.b0; omega)
    have := (fr_num (a := t * b + v) (b := b) (h := by have := k.b0; omega)).mpr (by omega)
    exact ⟨fun _ => g, fun _ => this⟩
  · rw [if_neg g]
    exact ⟨fun z => by simp at z, fun z => absurd z g⟩
theorem time_bd (k : CarOk v b t) : 0 ≤ (timeP v b t).1 ∧ (timeP v b t).1 ≤ 110 * (timeP v b t).2 ∧ 0 < (timeP v b t).2 ∧ (timeP v b t).2 ≤ 20 := by
  unfold timeP
  have h1 := Int.mul_nonneg k.t0 (show 0 ≤ b by have := k.b0; omega)
  have h2 := Int.mul_le_mul_of_nonneg_right k.t1 (show 0 ≤ b by have := k.b0; omega)
  obtain ⟨v0, v1, b0, b1, t0, t1⟩ := k
  by_cases g : 0 < v
  · rw [if_pos g]
    obtain ⟨_, p2, p3⟩ := fr_bd (a := t * b + v) (b := b) (by omega)
    exact ⟨fr_nn (by omega) (by omega), fr_top (by omega) (by omega), p2, by omega⟩
  · rw [if_neg g]
    exact ⟨by decide, by decide, by decide, by decide⟩
theorem end_bd (k : CarOk v b t) {d : Int} (hd : 1 ≤ d ∧ d ≤ 9) : 0 ≤ (timeP v b t).1 * d / (timeP v b t).2 ∧ (timeP v b t).1 * d / (timeP v b t).2 ≤ 110 * d := by
  obtain ⟨t0, t1, t2, t3⟩ := time_bd k
  generalize (timeP v b t).1 = x at *
  generalize (timeP v b t).2 = y at *
  refine ⟨Int.ediv_nonneg (Int.mul_nonneg t0 (by omega)) (by omega), ?_⟩
  have h1 := Int.mul_le_mul_of_nonneg_right t1 (show 0 ≤ d by omega)
  refine Int.ediv_le_of_le_mul t2 ?_
  have : 110 * y * d = 110 * d * y := by grind
  omega
theorem lover_run (k : CarOk v b t) (g : 0 < v) : run P (n + 3) 35 none [.sh (frD (wayP v b t)), .sh (frD (timeP v b t))] h = .ok false (frD (meanP v b t)) h := by
  have nm := (time_num k).mpr g
  have tb : 0 ≤ t * b := Int.mul_nonneg k.t0 (by have := k.b0; omega)
  have st : Sz (timeP v b t) := by
    obtain ⟨t0, t1, t2, t3⟩ := time_bd k
    exact ⟨by omega, t2, by omega⟩
  have e := over_run (n := n) (h := h) p35' lowL (wayP_sz k) st nm
  rw [e]
  unfold meanP timeP
  rw [if_pos g, if_pos g, fdvd_fr (by have := k.b0; omega) (by omega) (by have := k.b0; omega)]
theorem placeP_time (k : CarOk v b t) : placeP v b t (timeA v b t) (timeC v b) = wayP v b t := by
  have b0 := k.b0
  unfold placeP timeA timeC
  by_cases g0 : 0 < v
  · have id2 : (t * b + v - t * b) * b = v * b := by grind
    rw [if_pos g0, if_pos g0, if_neg (by omega), if_neg (by omega)]
  · have v0 : v = 0 := by have := k.v0; omega
    subst v0
    rw [if_neg g0, if_neg g0]
    split
    · exact fr_eq (by omega) (by omega) (by grind)
    · have t0 : t = 0 := by have := k.t0; omega
      subst t0
      rw [if_neg (by simp)]
theorem isright_run {h : List PyData} (k : CarOk v b t) (hh : Hd h) : ∃ h', run P (n + 9) 45 none [.hnd, .sh (carD v b t)] (some h) = .ok false (.bool true) (some h') ∧ Hd h' := by
  obtain ⟨r, h1, f1, r0, r1, hh1⟩ := draw_run (n := n + 7) (m := 9) p25 hh (by omega) (by omega)
  obtain ⟨t0, t1, t2, t3⟩ := time_bd k
  obtain ⟨b0, b1⟩ := end_bd k (d := 1 + r) (by omega)
  obtain ⟨q, h2, f2, q0, q1, hh2⟩ := draw_run (n := n + 7) (m := (timeP v b t).1 * (1 + r) / (timeP v b t).2 + 2 * (1 + r) + 1) p25 hh1 (by omega) (by omega)
  obtain ⟨y, h3, f3, y0, y1, hh3⟩ := draw_run (n := n + 7) (m := v + 1) p25 hh2 (by have := k.v0; omega) (by have := k.v1; omega)
  refine ⟨h3, ?_, hh3⟩
  rw [run_eq p45 rfl rfl]
  show rtC _ (exs (cl P (n + 8)) none (.cons ir0 (.cons ir1 (.cons ir2 (.cons ir3 (.cons ir4 (.cons ir5 (.cons ir6 (.cons ir7 (.cons ir8 .nil))))))))) [.hnd, .sh (carD v b t), .non, .non, .non, .non, .non, .non, .non] (some h)) = _
  have z0 := fun {s2 s3 s4 s5 s6 s7 s8 : Sl} => ir_z0 (s2 := s2) (s3 := s3) (s4 := s4) (s5 := s5) (s6 := s6) (s7 := s7) (s8 := s8) (lway_run (n := n + 1) (h := some h) k) (ltime_run (n := n + 5) (h := some h) k)
  have z2 : ∀ {s4 s5 s6 s7 s8 : Sl}, ex (cl P (n + 8)) none ir2 [.hnd, .sh (carD v b t), .sh (frD (wayP v b t)), .sh (frD (timeP v b t)), s4, s5, s6, s7, s8] (some h1) = .nx [.hnd, .sh (carD v b t), .sh (frD (wayP v b t)), .sh (frD (timeP v b t)), s4, s5, s6, s7, s8] (some h1) := by
    intro s4 s5 s6 s7 s8
    by_cases g : 0 < v
    · exact ir_z2a ((time_num k).mpr g) (swy_run (n := n + 3) k) (stime_run (n := n + 3) k) (mean_run (n := n + 2) k) (lover_run (n := n + 5) k g) (isT_fff (n + 5) _)
    · have e := mean_run (n := n + 2) (h := some h1) k
      have e0 : meanP v b t = (0, 1) := if_neg g
      rw [e0] at e
      exact ir_z2b (fun z => g ((time_num k).mp z)) (swy_run (n := n + 3) k) (stime_run (n := n + 3) k) e (isT_fff (p := wayP v b t) (q := timeP v b t) (r := (0, 1)) (n + 5) _)
  have m1 : bop .mul (.int (timeP v b t).1) (.int (1 + r)) = some (false, .int ((timeP v b t).1 * (1 + r))) := bmul (by omega)
  have m2 : bop .fdiv (.int ((timeP v b t).1 * (1 + r))) (.int (timeP v b t).2) = some (false, .int ((timeP v b t).1 * (1 + r) / (timeP v b t).2)) := bop_div_int ⟨t2, by omega⟩
  have m3 : bop .mul (.int 2) (.int (1 + r)) = some (false, .int (2 * (1 + r))) := bmul (by decide)
  have lo := lowL (n + 6) (some h2) q (1 + r) (by omega) (by omega)
  obtain ⟨s6, el⟩ := ir_loop (n := n) (h := some h2) k (s2 := .sh (frD (wayP v b t))) (s3 := .sh (frD (timeP v b t))) (s4 := .sh (.int (1 + r))) (s5 := .sh (.int ((timeP v b t).1 * (1 + r) / (timeP v b t).2 + 2 * (1 + r)))) (s7 := .non) (s8 := .non) [frD (fr q (1 + r)), .tuple [.int t, .int 1], .tuple [.int 0, .int 1], .tuple [.int 1000, .int 1]] .non (by
    intro d hd
    simp only [List.mem_cons, List.not_mem_nil, or_false] at hd
    rcases hd with rfl | rfl | rfl | rfl
    · exact ⟨q, 1 + r, rfl, q0, by omega, by omega, by omega⟩
    · exact ⟨t, 1, by rw [fr_one], k.t0, by have := k.t1; omega, by omega, by omega⟩
    · exact ⟨0, 1, by rw [fr_one], by omega, by omega, by omega, by omega⟩
    · exact ⟨1000, 1, by rw [fr_one], by omega, by omega, by omega, by omega⟩)
  have hy : 0 ≤ y ∧ y ≤ v := ⟨y0, by omega⟩
  have z7a := slow_run (n := n + 3) (h := some h3) k hy
  have z7b := saved_run (n := n + 2) (h := some h3) k hy
  have z7c := lway_run (n := n + 1) (h := some h3) (k.less hy)
  have z7d := minus_run (n := n + 5) (h := some h3) p33' lowL (wayP_sz k) (wayP_sz (k.less hy))
  have z7e : IsT 3 (.list [carD (v - y) b t, frD (savedP v b t y)]) := isT_list (by simp) fun x hx => by
    simp at hx
    rcases hx with rfl | rfl
    · exact isT_car
    · exact isT_fr (p := savedP v b t y)
  have z8a := lplace_run (n := n + 2) (h := some h3) k (timeMo k)
  rw [placeP_time k, ← timeP_eq] at z8a
  have z8b := less_run (n := n + 7) (h := some h3) p36' (wayP_sz k) (wayP_sz k)
  rw [show flt (wayP v b t) (wayP v b t) = false from decide_eq_false (by omega)] at z8b
  rw [seq3 z0, seq3 (ir_z1 f1), seq3 z2, seq3 (ir_z3 m1 m2 m3), seq3 (ir_z4 f2 lo el), seq3 (ir_z5 f3), seq3 ir_z6, seq3 (ir_z7 z7a z7b z7c z7d (z7e (n + 5) _)), ret3 (ir_z8 z8a z8b)]
  simp
end
end HX

--NS=8
namespace HX
open PySem (PyData Str)
open PyD
/-! wishes -/
def wi0 : S := (.asg (.tp (.cons (.nm 2) (.cons (.nm 3) (.cons (.nm 4) .nil)))) (.var 1))
def wi1 : S := (.asg (.nm 5) (.call 25 (.cons (.var 0) (.cons (.call 26 (.cons (.var 0) (.cons (.lst (.cons (.int 10) (.cons (.int 300) (.cons (.int 3000) .nil)))) .nil))) .nil))))
def wi2 : S := (.asg (.nm 6) (.comp [7] (.nm 7) (.rng1 (.int 101)) (.so (.nt (.call 36 (.cons (.tup (.cons (.var 5) (.cons (.int 1) .nil))) (.cons (.call 41 (.cons (.tup (.cons (.var 7) (.cons (.var 3) (.cons (.var 4) .nil)))) .nil)) .nil))))) (.var 7)))
def wi3 : S := (.ife (.nt (.call 27 (.cons (.call 19 (.cons (.var 5) (.cons (.var 3) (.cons (.var 4) .nil)))) (.cons (.idx (.var 6) (.neg (.int 1))) .nil)))) (.cons (.ret (.bl false)) .nil) .nil)
def wi4 : S := (.asg (.nm 6) (.comp [7] (.nm 7) (.rng2 (.int 1) (.int 21)) (.so (.nt (.call 36 (.cons (.tup (.cons (.var 5) (.cons (.int 1) .nil))) (.cons (.call 41 (.cons (.tup (.cons (.var 2) (.cons (.var 7) (.cons (.var 4) .nil)))) .nil)) .nil))))) (.var 7)))
def wi5 : S := (.ret (.call 27 (.cons (.call 20 (.cons (.var 5) (.cons (.var 2) (.cons (.var 4) .nil)))) (.cons (.ife (.cmp .ne (.var 6) (.lst .nil)) (.idx (.var 6) (.int 0)) .non) .nil))))
def wc1 : E := (.nt (.call 36 (.cons (.tup (.cons (.var 5) (.cons (.int 1) .nil))) (.cons (.call 41 (.cons (.tup (.cons (.var 7) (.cons (.var 3) (.cons (.var 4) .nil)))) .nil)) .nil))))
def wc2 : E := (.nt (.call 36 (.cons (.tup (.cons (.var 5) (.cons (.int 1) .nil))) (.cons (.call 41 (.cons (.tup (.cons (.var 2) (.cons (.var 7) (.cons (.var 4) .nil)))) .nil)) .nil))))
theorem asc_max : ∀ (xs : List Int) (x : Int), (x :: xs).Pairwise (· < ·) → (x :: xs)[(x :: xs).length - 1]? = some (xs.foldl max x)
  | [], x, _ => rfl
  | y :: ys, x, h => by
    obtain ⟨h1, h2⟩ := List.pairwise_cons.mp h
    have := asc_max ys y h2
    have e : max x y = y := by
      have := h1 y (List.mem_cons_self ..)
      omega
    rw [List.foldl_cons, e, ← this]
    rfl
section
variable {n : Nat} {h : Hand} {v b t y : Int}
theorem lroom_run (k : CarOk v b t) (hy : 0 ≤ y ∧ y ≤ 100000) : run P (n + 1) 36 none [.sh (.tuple [.int y, .int 1]), .sh (frD (wayP v b t))] h = .ok false (.bool (!roomP y v b t)) h := by
  obtain ⟨w1, w2, w3⟩ := k.wb
  have h1 : (v * t * (2 * b)).natAbs ≤ 1000 * 40 := bd w1 (by have := k.b0; have := k.b1; omega)
  obtain ⟨v0, v1, b0, b1, t0, t1⟩ := k
  have e := less_run (n := n) (h := h) p36' (sz_one (a := y) (by omega)) (sz_fr (a := v * t * (2 * b) + v * v) (b := 2 * b) (by omega) (by omega) (by omega))
  unfold roomP
  rw [Bool.not_not]
  exact e
theorem wi_c1 (hb : 1 ≤ b ∧ b ≤ 20) (ht : 0 ≤ t ∧ t ≤ 10) (hy : 0 ≤ y ∧ y ≤ 100000) {s1 s2 s6 s7 : Sl} : compL [.hnd, s1, s2, .sh (.int b), .sh (.int t), .sh (.int y), s6, s7] (.nm 7) (evc (cl P (n + 8)) (.so wc1)) (ev (cl P (n + 8)) (.var 7)) ((List.range 101).map iN) h = some ((topL y b t).map iN, h) := by
  rw [compL_mf iN (fun k : Nat => if roomP y (k : Int) b t then some (iN k) else none) fun k hk => by
    have hk := List.mem_range.mp hk
    have kk : CarOk (k : Int) b t := ⟨by omega, by omega, hb.1, hb.2, ht.1, ht.2⟩
    have f1 := lway_run (n := n + 1) (h := h) kk
    have f2 := lroom_run (n := n + 7) (h := h) kk hy
    dsimp only [frD] at f1 f2
    cases q : roomP y (k : Int) b t <;> rw [q] at f2 <;> simp [stp, wc1, f1, f2]]
  rw [fm_filter]
  rfl
theorem wi_c2 (hv : 0 ≤ v ∧ v ≤ 100) (ht : 0 ≤ t ∧ t ≤ 10) (hy : 0 ≤ y ∧ y ≤ 100000) {s1 s3 s6 s7 : Sl} : compL [.hnd, s1, .sh (.int v), s3, .sh (.int t), .sh (.int y), s6, s7] (.nm 7) (evc (cl P (n + 8)) (.so wc2)) (ev (cl P (n + 8)) (.var 7)) ((List.range' 1 20).map iN) h = some ((brkL y v t).map iN, h) := by
  rw [compL_mf iN (fun k : Nat => if roomP y v (k : Int) t then some (iN k) else none) fun k hk => by
    have hk := List.mem_range'_1.mp hk
    have kk : CarOk v (k : Int) t := ⟨hv.1, hv.2, by omega, by omega, ht.1, ht.2⟩
    have f1 := lway_run (n := n + 1) (h := h) kk
    have f2 := lroom_run (n := n + 7) (h := h) kk hy
    dsimp only [frD] at f1 f2
    cases q : roomP y v (k : Int) t <;> rw [q] at f2 <;> simp [stp, wc2, f1, f2]]
  rw [fm_filter]
  rfl
theorem top_last (hb : 1 ≤ b ∧ b ≤ 20) (hy : 0 ≤ y ∧ y ≤ 100000) : L2.atI ((topL y b t).map iN) (-1) = some (.int (topP y b t)) := by
  have pw : ((topL y b t).map fun k : Nat => (k : Int)).Pairwise (· < ·) := by
    rw [List.pairwise_map]
    refine List.Pairwise.imp (fun h => Int.ofNat_lt.mpr h) ?_
    exact List.Pairwise.filter _ List.pairwise_lt_range
  have eT : (topL y b t).map iN = ((topL y b t).map fun k : Nat => (k : Int)).map PyData.int := by
    rw [List.map_map]
    rfl
  rw [eT, atI_neg1, List.length_map, List.getElem?_map]
  rw [topL_cons hb hy, List.map_cons] at pw ⊢
  rw [asc_max _ _ pw]
  unfold topP
  rfl
end
theorem wi_z0 {M : Nat} {h : Hand} {v b t : Int} {s5 s6 s7 : Sl} : ex (cl P M) none wi0 [.hnd, .sh (carD v b t), s2, s3, s4, s5, s6, s7] h = .nx [.hnd, .sh (carD v b t), .sh (.int v), .sh (.int b), .sh (.int t), s5, s6, s7] h := by
  simp [wi0]
theorem wi_z1 {M : Nat} {h h1 h2 : Hand} {m r : Int} {s1 s2 s3 s4 s6 s7 : Sl} (e1 : run P M 26 none [.hnd, .sh (.list [.int 10, .int 300, .int 3000])] h = .ok false (.int m) h1) (e2 : run P M 25 none [.hnd, .sh (.int m)] h1 = .ok false (.int r) h2) : ex (cl P M) none wi1 [.hnd, s1, s2, s3, s4, .non, s6, s7] h = .nx [.hnd, s1, s2, s3, s4, .sh (.int r), s6, s7] h2 := by
  simp [wi1, e1, e2]
theorem wi_z2 {M : Nat} {h : Hand} {b t y : Int} {X Y : List PyData} {s1 s2 : Sl} (rg : evSrc (cl P M) true (.rng1 (.int 101)) [.hnd, s1, s2, .sh (.int b), .sh (.int t), .sh (.int y), .non, .non] h = .ok X [.hnd, s1, s2, .sh (.int b), .sh (.int t), .sh (.int y), .non, .non] h) (c : compL [.hnd, lendS s1, lendS s2, .sh (.int b), .sh (.int t), .sh (.int y), .non, .non] (.nm 7) (evc (cl P M) (.so wc1)) (ev (cl P M) (.var 7)) X h = some (Y, h)) : ex (cl P M) none wi2 [.hnd, s1, s2, .sh (.int b), .sh (.int t), .sh (.int y), .non, .non] h = .nx [.hnd, s1, s2, .sh (.int b), .sh (.int t), .sh (.int y), .own (.list Y), .non] h := by
  unfold wc1 at c
  simp [-src_rng1, wi2, rg, c]
theorem wi_z3 {M : Nat} {h : Hand} {b t y T : Int} {Y : List PyData} {s1 s2 s7 : Sl} (e1 : run P M 19 none [.sh (.int y), .sh (.int b), .sh (.int t)] h = .ok false (.int T) h) (ei : L2.atI Y (-1) = some (.int T)) (e2 : run P M 27 none [.sh (.int T), .sh (.int T)] h = .ok false (.bool true) h) : ex (cl P M) none wi3 [.hnd, s1, s2, .sh (.int b), .sh (.int t), .sh (.int y), .own (.list Y), s7] h = .nx [.hnd, s1, s2, .sh (.int b), .sh (.int t), .sh (.int y), .own (.list Y), s7] h := by
  simp [wi3, e1, ei, e2]
theorem wi_z4 {M : Nat} {h : Hand} {v t y : Int} {X Y Z : List PyData} {s1 s3 : Sl} (rg : evSrc (cl P M) true (.rng2 (.int 1) (.int 21)) [.hnd, s1, .sh (.int v), s3, .sh (.int t), .sh (.int y), .own (.list Z), .non] h = .ok X [.hnd, s1, .sh (.int v), s3, .sh (.int t), .sh (.int y), .own (.list Z), .non] h) (c : compL [.hnd, lendS s1, .sh (.int v), lendS s3, .sh (.int t), .sh (.int y), .bor (.list Z), .non] (.nm 7) (evc (cl P M) (.so wc2)) (ev (cl P M) (.var 7)) X h = some (Y, h)) : ex (cl P M) none wi4 [.hnd, s1, .sh (.int v), s3, .sh (.int t), .sh (.int y), .own (.list Z), .non] h = .nx [.hnd, s1, .sh (.int v), s3, .sh (.int t), .sh (.int y), .own (.list Y), .non] h := by
  unfold wc2 at c
  simp [-src_rng2, wi4, rg, c]
theorem wi_z5 {M : Nat} {h : Hand} {v t y : Int} {L : List Nat} {s1 s3 s7 : Sl} (e1 : run P M 20 none [.sh (.int y), .sh (.int v), .sh (.int t)] h = .ok false (oD L.head?) h) (e2 : run P M 27 none [.sh (oD L.head?), .sh (oD L.head?)] h = .ok false (.bool true) h) : ex (cl P M) none wi5 [.hnd, s1, .sh (.int v), s3, .sh (.int t), .sh (.int y), .own (.list (L.map iN)), s7] h = .ret false (.bool true) h := by
  have nn := ne_nil (l := L.map fun k : Nat => (k : Int))
  rw [List.map_map] at nn
  have nn : cop .ne (.list (L.map iN)) (.list []) = some (!(L.map fun k : Nat => (k : Int)).isEmpty) := nn
  cases L with
  | nil =>
    have nn : cop .ne (.list []) (.list []) = some false := nn
    simp [oD] at e1 e2
    simp [wi5, e1, e2, nn]
  | cons x xs =>
    have nn : cop .ne (.list (iN x :: xs.map iN)) (.list []) = some true := nn
    simp [oD] at e1 e2
    simp [wi5, e1, e2, nn]
theorem wishes_run {n : Nat} {h : List PyData} {v b t : Int} (k : CarOk v b t) (hh : Hd h) : ∃ h', run P (n + 9) 46 none [.hnd, .sh (carD v b t)] (some h) = .ok false (.bool true) (some h') ∧ Hd h' := by
  obtain ⟨x, h1, f1, m1, hh1⟩ := any_run (n := n + 6) (a := .sh (.list [.int 10, .int 300, .int 3000])) p26 p25 hh .sh (by simp) (by simp)
  obtain ⟨w, rfl, hw⟩ : ∃ w : Int, x = .int w ∧ 1 ≤ w ∧ w ≤ 3000 := by
    simp at m1
    rcases m1 with rfl | rfl | rfl
    · exact ⟨10, rfl, by omega, by omega⟩
    · exact ⟨300, rfl, by omega, by omega⟩
    · exact ⟨3000, rfl, by omega, by omega⟩
  obtain ⟨y, h2, f2, y0, y1, hh2⟩ := draw_run (n := n + 7) (m := w) p25 hh1 (by omega) (by omega)
  refine ⟨h2, ?_, hh2⟩
  rw [run_eq p46 rfl rfl]
  show rtC _ (exs (cl P (n + 8)) none (.cons wi0 (.cons wi1 (.cons wi2 (.cons wi3 (.cons wi4 (.cons wi5 .nil)))))) [.hnd, .sh (carD v b t), .non, .non, .non, .non, .non, .non] (some h)) = _
  have hb : 1 ≤ b ∧ b ≤ 20 := ⟨k.b0, k.b1⟩
  have ht : 0 ≤ t ∧ t ≤ 10 := ⟨k.t0, k.t1⟩
  have hv : 0 ≤ v ∧ v ≤ 100 := ⟨k.v0, k.v1⟩
  have hy : 0 ≤ y ∧ y ≤ 100000 := ⟨y0, by omega⟩
  have rg := src_rng1_nat (C := cl P (n + 8)) (o := true) (a := .int 101) (ρ := [.hnd, .sh (carD v b t), .sh (.int v), .sh (.int b), .sh (.int t), .sh (.int y), .non, .non]) (h := some h2) (m := 101) rfl (by omega)
  rw [show rangeD 0 1 101 = (List.range 101).map iN from rfl] at rg
  have rg2 := src_rng2_nat (C := cl P (n + 8)) (o := true) (a := .int 1) (b := .int 21) (ρ := [.hnd, .sh (carD v b t), .sh (.int v), .sh (.int b), .sh (.int t), .sh (.int y), .own (.list ((topL y b t).map iN)), .non]) (h := some h2) (m := 21) rfl rfl (by omega)
  rw [show rangeD 1 1 (21 - 1) = (List.range' 1 20).map iN from rfl] at rg2
  have z3 := top_run (n := n + 2) (h := some h2) hb ht hy
  have z5 := brk_run (n := n + 2) (h := some h2) hv ht hy
  rw [seq3 wi_z0, seq3 (wi_z1 f1 f2), seq3 (wi_z2 rg (wi_c1 hb ht hy)), seq3 (wi_z3 z3 (top_last hb hy) (isT_int (n + 7) _)), seq3 (wi_z4 rg2 (wi_c2 hv ht hy)), ret3 (wi_z5 z5 (isT_o (n + 7) _))]
  simp
end HX

--NS=7
namespace HX
open PySem (PyData Str)
open PyD
/-! refused -/
theorem said_at {n : Nat} {th : Hand → Cr} {h : Hand} : run P (n + 1) 1000 (some th) [] h = saidC P (n + 1) 1000 h (th h) := by
  unfold saidC
  rw [run_eq p1000 rfl rfl, run_eq p1000 rfl rfl]
  rfl
theorem said1 {n : Nat} {h h' : List PyData} : saidC P (n + 1) 1000 (some h) (.exc 1 (some h')) = .ok false (.str "brakes") (some h') := by
  unfold saidC
  rw [run_eq p1000 rfl rfl]
  simp [f__law_word, mc1, mi1, isLst]
theorem said2 {n : Nat} {h h' : List PyData} : saidC P (n + 1) 1000 (some h) (.exc 2 (some h')) = .ok false (.str "road") (some h') := by
  unfold saidC
  rw [run_eq p1000 rfl rfl]
  simp [f__law_word, mc2, mi2, isLst]
theorem lam1 {n : Nat} {ρ : Env} {body : E} {h h' : List PyData} (e : ∃ ρ', ev (cl P (n + 1)) body (lend ρ) (some h) = .exc 1 ρ' (some h')) : ev (cl P (n + 1)) (.lamc 1000 body) ρ (some h) = .ok (false, .str "brakes") ρ (some h') := by
  obtain ⟨ρ', e⟩ := e
  simp [said_at, e, said1]
theorem lam2 {n : Nat} {ρ : Env} {body : E} {h h' : List PyData} (e : ∃ ρ', ev (cl P (n + 1)) body (lend ρ) (some h) = .exc 2 ρ' (some h')) : ev (cl P (n + 1)) (.lamc 1000 body) ρ (some h) = .ok (false, .str "road") ρ (some h') := by
  obtain ⟨ρ', e⟩ := e
  simp [said_at, e, said2]
abbrev lE (T x o f : PyData) (s5 : Sl) : Env := [.hnd, .sh T, .sh x, .sh o, .sh f, s5, .non]
theorem app0 {n : Nat} {body : E} {h h' : List PyData} {T x o f : PyData} (e : ∀ s5, ∃ ρ', ev (cl P (n + 1)) body (lE T x o f s5) (some h) = .exc 1 ρ' (some h')) : ex (cl P (n + 1)) none (.asg (.nm 5) (.lst (.cons (.lamc 1000 body) .nil))) (lE T x o f .non) (some h) = .nx (lE T x o f (.own (.list [.str "brakes"]))) (some h') := by
  have l1 := fun s5 => lam1 (n := n) (h := h) (h' := h') (ρ := lE T x o f s5) (body := body) (e _)
  simp [-ev_lamc, l1]
theorem app1 {n : Nat} {body : E} {h h' : List PyData} {T x o f : PyData} {L : List PyData} (e : ∀ s5, ∃ ρ', ev (cl P (n + 1)) body (lE T x o f s5) (some h) = .exc 1 ρ' (some h')) (hL : L.length < big) : ex (cl P (n + 1)) none (.app 5 (.lamc 1000 body)) (lE T x o f (.own (.list L))) (some h) = .nx (lE T x o f (.own (.list (L ++ [.str "brakes"])))) (some h') := by
  have l1 := lam1 (n := n) (h := h) (h' := h') (ρ := lE T x o f (.own (.list L))) (body := body) (e _)
  simp [-ev_lamc, l1, hL]
theorem app2 {n : Nat} {body : E} {h h' : List PyData} {T x o f : PyData} {L : List PyData} (e : ∀ s5, ∃ ρ', ev (cl P (n + 1)) body (lE T x o f s5) (some h) = .exc 2 ρ' (some h')) (hL : L.length < big) : ex (cl P (n + 1)) none (.app 5 (.lamc 1000 body)) (lE T x o f (.own (.list L))) (some h) = .nx (lE T x o f (.own (.list (L ++ [.str "road"])))) (some h') := by
  have l1 := lam2 (n := n) (h := h) (h' := h') (ρ := lE T x o f (.own (.list L))) (body := body) (e _)
  simp [-ev_lamc, l1, hL]
def re0 : S := (.par [2, 3] (.cons (.call 42 (.cons (.var 0) .nil)) (.cons (.call 26 (.cons (.var 0) (.cons (.lst (.cons .non (.cons (.str "?") (.cons (.tup (.cons (.neg (.int 1)) (.cons (.int 2) .nil))) (.cons (.tup (.cons (.int 1001) (.cons (.int 1) .nil))) (.cons (.tup (.cons (.int 1) (.cons (.int 101) .nil))) (.cons (.tup (.cons (.int 2) (.cons (.int 4) .nil))) (.cons (.tup (.cons (.int 1) (.cons (.int 0) .nil))) (.cons (.lst (.cons (.int 1) (.cons (.int 2) .nil))) (.cons (.int 5) (.cons (.tup (.cons (.bl true) (.cons (.int 2) .nil))) .nil))))))))))) .nil))) .nil)))
def re1 : S := (.asg (.nm 4) (.call 43 (.cons (.var 0) (.cons (.bin .pow (.int 10) (.int 5)) .nil))))
def re2 : S := (.asg (.nm 5) (.lst (.cons (.lamc 1000 (.call 12 (.cons (.var 2) .nil))) .nil)))
def re3 : S := (.app 5 (.lamc 1000 (.call 14 (.cons (.var 2) .nil))))
def re4 : S := (.app 5 (.lamc 1000 (.call 16 (.cons (.var 2) (.cons (.var 3) .nil)))))
def re5 : S := (.app 5 (.lamc 1000 (.call 16 (.cons (.var 1) (.cons (.var 3) .nil)))))
def re6 : S := (.app 5 (.lamc 1000 (.call 18 (.cons (.var 1) (.cons (.var 3) .nil)))))
def re7 : S := (.app 5 (.lamc 1000 (.call 21 (.cons (.var 2) .nil))))
def re8 : S := (.app 5 (.lamc 1000 (.call 22 (.cons (.var 2) (.cons (.str "?") .nil)))))
def re9 : S := (.app 5 (.lamc 1000 (.call 22 (.cons (.var 1) (.cons (.call 43 (.cons (.var 0) (.cons (.idx (.var 1) (.int 0)) .nil))) .nil)))))
def re10 : S := (.app 5 (.lamc 1000 (.call 23 (.cons (.var 1) (.cons (.call 43 (.cons (.var 0) (.cons (.idx (.var 1) (.int 0)) .nil))) .nil)))))
def re11 : S := (.app 5 (.lamc 1000 (.call 19 (.cons (.var 4) (.cons (.call 26 (.cons (.var 0) (.cons (.lst (.cons (.int 0) (.cons (.int 21) (.cons .non .nil)))) .nil))) (.cons (.int 1) .nil))))))
def re12 : S := (.app 5 (.lamc 1000 (.call 19 (.cons (.var 4) (.cons (.int 1) (.cons (.call 43 (.cons (.var 0) (.cons (.int 10) .nil))) .nil))))))
def re13 : S := (.app 5 (.lamc 1000 (.call 19 (.cons (.var 4) (.cons (.int 1) (.cons (.int 1) .nil))))))
def re14 : S := (.app 5 (.lamc 1000 (.call 20 (.cons (.var 4) (.cons (.call 43 (.cons (.var 0) (.cons (.int 100) .nil))) (.cons (.int 1) .nil))))))
def re15 : S := (.app 5 (.lamc 1000 (.call 20 (.cons (.var 4) (.cons (.int 9) (.cons (.int 1) .nil))))))
def re16 : S := (.asg (.nm 6) (.lst (.cons (.str "brakes") (.cons (.str "brakes") (.cons (.str "brakes") (.cons (.str "road") (.cons (.str "road") (.cons (.str "brakes") (.cons (.str "brakes") (.cons (.str "road") (.cons (.str "road") (.cons (.str "brakes") (.cons (.str "brakes") (.cons (.str "road") (.cons (.str "brakes") (.cons (.str "road") .nil))))))))))))))))
def re17 : S := (.ret (.cmp .eq (.var 5) (.var 6)))
abbrev w14 : List PyData := [.str "brakes", .str "brakes", .str "brakes", .str "road", .str "road", .str "brakes", .str "brakes", .str "road", .str "road", .str "brakes", .str "brakes", .str "road", .str "brakes", .str "road"]
theorem w_eq : cop .eq (.list w14) (.list w14) = some true := by
  refine eq_same (n := 1) (Lv.list fun d hd => ?_) (by omega)
  have h1 : Lv 0 (.str "brakes") := Lv.str (by decide +kernel)
  have h2 : Lv 0 (.str "road") := Lv.str (by decide +kernel)
  simp only [List.mem_cons, List.not_mem_nil, or_false] at hd
  rcases hd with rfl | rfl | rfl | rfl | rfl | rfl | rfl | rfl | rfl | rfl | rfl | rfl | rfl | rfl <;> assumption
def O10 : List PyData := [.none, .str "?", .tuple [.int (-1), .int 2], .tuple [.int 1001, .int 1], .tuple [.int 1, .int 101], .tuple [.int 2, .int 4], .tuple [.int 1, .int 0], .list [.int 1, .int 2], .int 5, .tuple [.bool true, .int 2]]
theorem O_bad : ∀ x ∈ O10, isMo x = false ∧ ∀ a b : Int, x = .tuple [.int a, .int b] → b.natAbs < 2 ^ 200 := by
  intro x h
  unfold O10 at h
  simp only [List.mem_cons, List.not_mem_nil, or_false] at h
  rcases h with rfl | rfl | rfl | rfl | rfl | rfl | rfl | rfl | rfl | rfl <;> refine ⟨by decide +kernel, fun a b e => ?_⟩ <;> first | (cases e; done) | (simp at e; try omega)
def T3 : List PyData := [.int 0, .int 21, .none]
theorem T_bad : ∀ x ∈ T3, isB (.tuple [.int 0, x, .int 1]) = false := by
  intro x h
  unfold T3 at h
  simp only [List.mem_cons, List.not_mem_nil, or_false] at h
  rcases h with rfl | rfl | rfl <;> decide +kernel
theorem re_z0 {M : Nat} {h h1 h2 : Hand} {x o : PyData} {s1 s2 s3 s4 s5 s6 : Sl} (e1 : run P M 42 none [.hnd] h = .ok false x h1) (e2 : run P M 26 none [.hnd, .sh (.list O10)] h1 = .ok false o h2) : ex (cl P M) none re0 [.hnd, s1, s2, s3, s4, s5, s6] h = .nx [.hnd, s1, .sh x, .sh o, s4, s5, s6] h2 := by
  unfold O10 at e2
  simp [re0, e1, e2]
theorem re_z1 {M : Nat} {h h1 : Hand} {f : PyData} {s1 s2 s3 s4 s5 s6 : Sl} (e1 : run P M 43 none [.hnd, .sh (.int 100000)] h = .ok false f h1) : ex (cl P M) none re1 [.hnd, s1, s2, s3, s4, s5, s6] h = .nx [.hnd, s1, s2, s3, .sh f, s5, s6] h1 := by
  simp [re1, pow5, e1]
theorem re_zd {M : Nat} {h : Hand} {s1 s2 s3 s4 s5 s6 : Sl} : ex (cl P M) none re16 [.hnd, s1, s2, s3, s4, s5, s6] h = .nx [.hnd, s1, s2, s3, s4, s5, .own (.list w14)] h := by
  simp [re16]
theorem re_zr {M : Nat} {h : Hand} {s1 s2 s3 s4 : Sl} : ex (cl P M) none re17 [.hnd, s1, s2, s3, s4, .own (.list w14), .own (.list w14)] h = .ret false (.bool true) h := by
  have q := w_eq
  generalize w14 = w at *
  simp [re17, q]
theorem isB3 {z : PyData} (q : isW 0 10 z = false) : isB (.tuple [.int 0, .int 1, z]) = false := by
  show (isW 0 100 (.int 0) && (isW 1 20 (.int 1) && isW 0 10 z)) = false
  rw [q, Bool.and_false, Bool.and_false]
theorem isB4 {y : PyData} (q : isW 0 100 y = false) : isB (.tuple [y, .int 1, .int 1]) = false := by
  show (isW 0 100 y && (isW 1 20 (.int 1) && isW 0 10 (.int 1))) = false
  rw [q, Bool.false_and]
theorem refused_run {n : Nat} {h : List PyData} {v b t : Int} (k : CarOk v b t) (hh : Hd h) : ∃ h', run P (n + 9) 47 none [.hnd, .sh (carD v b t)] (some h) = .ok false (.bool true) (some h') ∧ Hd h' := by
  obtain ⟨x, h1, f1, bx, hh1⟩ := nocar_run (n := n + 5) hh
  obtain ⟨o, h2, f2, mo, hh2⟩ := any_run (n := n + 6) (a := .sh (.list O10)) p26 p25 hh1 .sh (by simp [O10]) (by simp [O10])
  obtain ⟨bo, bo2⟩ := O_bad o mo
  obtain ⟨f, h3, f3, bf, hh3⟩ := nonum_run (n := n + 5) (m := 100000) hh2
  obtain ⟨u1, h4, f4, bu1, hh4⟩ := nonum_run (n := n + 5) (m := v) hh3
  obtain ⟨u2, h5, f5, bu2, hh5⟩ := nonum_run (n := n + 5) (m := v) hh4
  obtain ⟨u3, h6, f6, mu3, hh6⟩ := any_run (n := n + 6) (a := .sh (.list T3)) p26 p25 hh5 .sh (by simp [T3]) (by simp [T3])
  have bu3 := T_bad u3 mu3
  obtain ⟨u4, h7, f7, bu4, hh7⟩ := nonum_run (n := n + 5) (m := 10) hh6
  obtain ⟨u5, h8, f8, bu5, hh8⟩ := nonum_run (n := n + 5) (m := 100) hh7
  unfold T3 at f6
  have k0 := stop_bad (n := n + 3) (h := some h3) bx
  have k1 := time_bad (n := n + 3) (h := some h3) bx
  have k2 := place_bad (n := n + 3) (h := some h3) (e := o) bx
  have k3 := place_odd (n := n + 3) (h := some h3) k bo2 bo
  have k4 := speed_odd (n := n + 3) (h := some h3) k bo2 bo
  have k5 := mean_bad (n := n + 2) (h := some h3) bx
  have k6 := slow_bad (n := n + 3) (h := some h3) (e := .str "?") bx
  have k7 := slow_odd (n := n + 3) (h := some h4) k bu1
  have k8 := saved_odd (n := n + 2) (h := some h5) k bu2
  have k9 := top_bad (n := n + 3) (h := some h6) (x := f) bu3
  have k10 := top_bad (n := n + 3) (h := some h7) (x := f) (isB3 bu4)
  have k11 := top_odd (n := n + 3) (h := some h7) (b := 1) (t := 1) (by omega) (by omega) bf
  have k12 := brk_bad (n := n + 3) (h := some h8) (x := f) (isB4 bu5)
  have k13 := brk_odd (n := n + 3) (h := some h8) (v := 9) (t := 1) (by omega) (by omega) bf
  refine ⟨h8, ?_, hh8⟩
  rw [run_eq p47 rfl rfl]
  show rtC _ (exs (cl P (n + 8)) none (.cons re0 (.cons re1 (.cons re2 (.cons re3 (.cons re4 (.cons re5 (.cons re6 (.cons re7 (.cons re8 (.cons re9 (.cons re10 (.cons re11 (.cons re12 (.cons re13 (.cons re14 (.cons re15 (.cons re16 (.cons re17 .nil)))))))))))))))))) [.hnd, .sh (carD v b t), .non, .non, .non, .non, .non] (some h)) = _
  have z0 : ex (cl P (n + 8)) none re2 (lE (carD v b t) x o f .non) (some h3) = .nx (lE (carD v b t) x o f (.own (.list [.str "brakes"]))) (some h3) := app0 (n := n + 7) fun s5 => by simp [k0]
  have z1 : ex (cl P (n + 8)) none re3 (lE (carD v b t) x o f (.own (.list [.str "brakes"]))) (some h3) = .nx (lE (carD v b t) x o f (.own (.list [.str "brakes", .str "brakes"]))) (some h3) := app1 (n := n + 7) (L := [.str "brakes"]) (fun s5 => by simp [k1]) (by decide +kernel)
  have z2 : ex (cl P (n + 8)) none re4 (lE (carD v b t) x o f (.own (.list [.str "brakes", .str "brakes"]))) (some h3) = .nx (lE (carD v b t) x o f (.own (.list [.str "brakes", .str "brakes", .str "brakes"]))) (some h3) := app1 (n := n + 7) (L := [.str "brakes", .str "brakes"]) (fun s5 => by simp [k2]) (by decide +kernel)
  have z3 : ex (cl P (n + 8)) none re5 (lE (carD v b t) x o f (.own (.list [.str "brakes", .str "brakes", .str "brakes"]))) (some h3) = .nx (lE (carD v b t) x o f (.own (.list [.str "brakes", .str "brakes", .str "brakes", .str "road"]))) (some h3) := app2 (n := n + 7) (L := [.str "brakes", .str "brakes", .str "brakes"]) (fun s5 => by simp [k3]) (by decide +kernel)
  have z4 : ex (cl P (n + 8)) none re6 (lE (carD v b t) x o f (.own (.list [.str "brakes", .str "brakes", .str "brakes", .str "road"]))) (some h3) = .nx (lE (carD v b t) x o f (.own (.list [.str "brakes", .str "brakes", .str "brakes", .str "road", .str "road"]))) (some h3) := app2 (n := n + 7) (L := [.str "brakes", .str "brakes", .str "brakes", .str "road"]) (fun s5 => by simp [k4]) (by decide +kernel)
  have z5 : ex (cl P (n + 8)) none re7 (lE (carD v b t) x o f (.own (.list [.str "brakes", .str "brakes", .str "brakes", .str "road", .str "road"]))) (some h3) = .nx (lE (carD v b t) x o f (.own (.list [.str "brakes", .str "brakes", .str "brakes", .str "road", .str "road", .str "brakes"]))) (some h3) := app1 (n := n + 7) (L := [.str "brakes", .str "brakes", .str "brakes", .str "road", .str "road"]) (fun s5 => by simp [k5]) (by decide +kernel)
  have z6 : ex (cl P (n + 8)) none re8 (lE (carD v b t) x o f (.own (.list [.str "brakes", .str "brakes", .str "brakes", .str "road", .str "road", .str "brakes"]))) (some h3) = .nx (lE (carD v b t) x o f (.own (.list [.str "brakes", .str "brakes", .str "brakes", .str "road", .str "road", .str "brakes", .str "brakes"]))) (some h3) := app1 (n := n + 7) (L := [.str "brakes", .str "brakes", .str "brakes", .str "road", .str "road", .str "brakes"]) (fun s5 => by simp [k6]) (by decide +kernel)
  have z7 : ex (cl P (n + 8)) none re9 (lE (carD v b t) x o f (.own (.list [.str "brakes", .str "brakes", .str "brakes", .str "road", .str "road", .str "brakes", .str "brakes"]))) (some h3) = .nx (lE (carD v b t) x o f (.own (.list [.str "brakes", .str "brakes", .str "brakes", .str "road", .str "road", .str "brakes", .str "brakes", .str "road"]))) (some h4) := app2 (n := n + 7) (L := [.str "brakes", .str "brakes", .str "brakes", .str "road", .str "road", .str "brakes", .str "brakes"]) (fun s5 => by simp [k7, f4]) (by decide +kernel)
  have z8 : ex (cl P (n + 8)) none re10 (lE (carD v b t) x o f (.own (.list [.str "brakes", .str "brakes", .str "brakes", .str "road", .str "road", .str "brakes", .str "brakes", .str "road"]))) (some h4) = .nx (lE (carD v b t) x o f (.own (.list [.str "brakes", .str "brakes", .str "brakes", .str "road", .str "road", .str "brakes", .str "brakes", .str "road", .str "road"]))) (some h5) := app2 (n := n + 7) (L := [.str "brakes", .str "brakes", .str "brakes", .str "road", .str "road", .str "brakes", .str "brakes", .str "road"]) (fun s5 => by simp [k8, f5]) (by decide +kernel)
  have z9 : ex (cl P (n + 8)) none re11 (lE (carD v b t) x o f (.own (.list [.str "brakes", .str "brakes", .str "brakes", .str "road", .str "road", .str "brakes", .str "brakes", .str "road", .str "road"]))) (some h5) = .nx (lE (carD v b t) x o f (.own (.list [.str "brakes", .str "brakes", .str "brakes", .str "road", .str "road", .str "brakes", .str "brakes", .str "road", .str "road", .str "brakes"]))) (some h6) := app1 (n := n + 7) (L := [.str "brakes", .str "brakes", .str "brakes", .str "road", .str "road", .str "brakes", .str "brakes", .str "road", .str "road"]) (fun s5 => by simp [k9, f6]) (by decide +kernel)
  have z10 : ex (cl P (n + 8)) none re12 (lE (carD v b t) x o f (.own (.list [.str "brakes", .str "brakes", .str "brakes", .str "road", .str "road", .str "brakes", .str "brakes", .str "road", .str "road", .str "brakes"]))) (some h6) = .nx (lE (carD v b t) x o f (.own (.list [.str "brakes", .str "brakes", .str "brakes", .str "road", .str "road", .str "brakes", .str "brakes", .str "road", .str "road", .str "brakes", .str "brakes"]))) (some h7) := app1 (n := n + 7) (L := [.str "brakes", .str "brakes", .str "brakes", .str "road", .str "road", .str "brakes", .str "brakes", .str "road", .str "road", .str "brakes"]) (fun s5 => by simp [k10, f7]) (by decide +kernel)
  have z11 : ex (cl P (n + 8)) none re13 (lE (carD v b t) x o f (.own (.list [.str "brakes", .str "brakes", .str "brakes", .str "road", .str "road", .str "brakes", .str "brakes", .str "road", .str "road", .str "brakes", .str "brakes"]))) (some h7) = .nx (lE (carD v b t) x o f (.own (.list [.str "brakes", .str "brakes", .str "brakes", .str "road", .str "road", .str "brakes", .str "brakes", .str "road", .str "road", .str "brakes", .str "brakes", .str "road"]))) (some h7) := app2 (n := n + 7) (L := [.str "brakes", .str "brakes", .str "brakes", .str "road", .str "road", .str "brakes", .str "brakes", .str "road", .str "road", .str "brakes", .str "brakes"]) (fun s5 => by simp [k11]) (by decide +kernel)
  have z12 : ex (cl P (n + 8)) none re14 (lE (carD v b t) x o f (.own (.list [.str "brakes", .str "brakes", .str "brakes", .str "road", .str "road", .str "brakes", .str "brakes", .str "road", .str "road", .str "brakes", .str "brakes", .str "road"]))) (some h7) = .nx (lE (carD v b t) x o f (.own (.list [.str "brakes", .str "brakes", .str "brakes", .str "road", .str "road", .str "brakes", .str "brakes", .str "road", .str "road", .str "brakes", .str "brakes", .str "road", .str "brakes"]))) (some h8) := app1 (n := n + 7) (L := [.str "brakes", .str "brakes", .str "brakes", .str "road", .str "road", .str "brakes", .str "brakes", .str "road", .str "road", .str "brakes", .str "brakes", .str "road"]) (fun s5 => by simp [k12, f8]) (by decide +kernel)
  have z13 : ex (cl P (n + 8)) none re15 (lE (carD v b t) x o f (.own (.list [.str "brakes", .str "brakes", .str "brakes", .str "road", .str "road", .str "brakes", .str "brakes", .str "road", .str "road", .str "brakes", .str "brakes", .str "road", .str "brakes"]))) (some h8) = .nx (lE (carD v b t) x o f (.own (.list [.str "brakes", .str "brakes", .str "brakes", .str "road", .str "road", .str "brakes", .str "brakes", .str "road", .str "road", .str "brakes", .str "brakes", .str "road", .str "brakes", .str "road"]))) (some h8) := app2 (n := n + 7) (L := [.str "brakes", .str "brakes", .str "brakes", .str "road", .str "road", .str "brakes", .str "brakes", .str "road", .str "road", .str "brakes", .str "brakes", .str "road", .str "brakes"]) (fun s5 => by simp [k13]) (by decide +kernel)
  rw [seq3 (re_z0 f1 f2), seq3 (re_z1 f3), seq3 z0, seq3 z1, seq3 z2, seq3 z3, seq3 z4, seq3 z5, seq3 z6, seq3 z7, seq3 z8, seq3 z9, seq3 z10, seq3 z11, seq3 z12, seq3 z13, seq3 re_zd, ret3 re_zr]
  simp
end HX

--NS=8
namespace HX
open PySem (PyData Str)
open PyD
/-! the law -/
def lw0 : S := (.hand 1 (.call 24 (.cons (.var 0) .nil)))
def lw1 : S := (.asg (.nm 2) (.lst (.cons (.call 12 (.cons (.tup (.cons (.int 20) (.cons (.int 5) (.cons (.int 1) .nil)))) .nil)) (.cons (.call 14 (.cons (.tup (.cons (.int 20) (.cons (.int 5) (.cons (.int 1) .nil)))) .nil)) (.cons (.call 16 (.cons (.tup (.cons (.int 20) (.cons (.int 5) (.cons (.int 1) .nil)))) (.cons (.tup (.cons (.int 3) (.cons (.int 1) .nil))) .nil))) (.cons (.call 18 (.cons (.tup (.cons (.int 20) (.cons (.int 5) (.cons (.int 1) .nil)))) (.cons (.tup (.cons (.int 3) (.cons (.int 1) .nil))) .nil))) (.cons (.call 19 (.cons (.int 60) (.cons (.int 5) (.cons (.int 1) .nil)))) .nil)))))))
def lw2 : S := (.ife (.nt (.call 27 (.cons (.bin .add (.var 2) (.lst (.cons (.call 20 (.cons (.int 60) (.cons (.int 20) (.cons (.int 1) .nil)))) (.cons (.call 12 (.cons (.tup (.cons (.int 0) (.cons (.int 1) (.cons (.int 9) .nil)))) .nil)) (.cons (.call 21 (.cons (.tup (.cons (.int 20) (.cons (.int 5) (.cons (.int 1) .nil)))) .nil)) .nil))))) (.cons (.lst (.cons (.tup (.cons (.int 60) (.cons (.int 1) .nil))) (.cons (.tup (.cons (.int 5) (.cons (.int 1) .nil))) (.cons (.tup (.cons (.int 50) (.cons (.int 1) .nil))) (.cons (.tup (.cons (.int 10) (.cons (.int 1) .nil))) (.cons (.int 20) (.cons (.int 5) (.cons (.tup (.cons (.int 0) (.cons (.int 1) .nil))) (.cons (.tup (.cons (.int 12) (.cons (.int 1) .nil))) .nil))))))))) .nil)))) (.cons (.ret (.bl false)) .nil) .nil)
def lw3 : S := (.for_ (.nm 3) (.rng1 (.int 4)) (.cons (.asg (.nm 4) (.call 37 (.cons (.var 1) .nil))) (.cons (.ife (.nt (.call 45 (.cons (.var 1) (.cons (.var 4) .nil)))) (.cons (.ret (.bl false)) .nil) .nil) (.cons (.ife (.nt (.call 46 (.cons (.var 1) (.cons (.var 4) .nil)))) (.cons (.ret (.bl false)) .nil) .nil) (.cons (.ife (.nt (.call 47 (.cons (.var 1) (.cons (.var 4) .nil)))) (.cons (.ret (.bl false)) .nil) .nil) (.cons (.par [5, 6] (.cons (.call 25 (.cons (.var 1) (.cons (.int 3) .nil))) (.cons (.call 26 (.cons (.var 1) (.cons (.lst (.cons .non (.cons (.bl true) (.cons (.str "?") (.cons (.neg (.int 1)) (.cons (.int 0) (.cons (.int 101) (.cons (.int 21) (.cons (.int 11) (.cons (.tup (.cons (.int 1) .nil)) .nil)))))))))) .nil))) .nil))) (.cons (.for_ (.nm 7) (.val (.tup (.cons (.var 4) (.cons (.bfn .list (.cons (.var 4) .nil)) (.cons (.slc (.var 4) .no (.so (.int 2))) (.cons (.bin .add (.var 4) (.tup (.cons (.int 1) .nil))) (.cons (.bin .add (.bin .add (.slc (.var 4) .no (.so (.var 5))) (.tup (.cons (.var 6) .nil))) (.slc (.var 4) (.so (.bin .add (.var 5) (.int 1))) .no)) (.cons (.rev (.var 4)) (.cons .non (.cons (.int 5) (.cons .dic0 (.cons (.call 42 (.cons (.var 1) .nil)) .nil)))))))))))) (.cons (.ife (.nt (.call 27 (.cons (.call 10 (.cons (.var 7) .nil)) (.cons (.call 44 (.cons (.var 7) .nil)) .nil)))) (.cons (.ret (.bl false)) .nil) .nil) .nil)) .nil)))))))
def lw4 : S := (.ret (.bl true))
def lwF : Ss := (.cons (.asg (.nm 4) (.call 37 (.cons (.var 1) .nil))) (.cons (.ife (.nt (.call 45 (.cons (.var 1) (.cons (.var 4) .nil)))) (.cons (.ret (.bl false)) .nil) .nil) (.cons (.ife (.nt (.call 46 (.cons (.var 1) (.cons (.var 4) .nil)))) (.cons (.ret (.bl false)) .nil) .nil) (.cons (.ife (.nt (.call 47 (.cons (.var 1) (.cons (.var 4) .nil)))) (.cons (.ret (.bl false)) .nil) .nil) (.cons (.par [5, 6] (.cons (.call 25 (.cons (.var 1) (.cons (.int 3) .nil))) (.cons (.call 26 (.cons (.var 1) (.cons (.lst (.cons .non (.cons (.bl true) (.cons (.str "?") (.cons (.neg (.int 1)) (.cons (.int 0) (.cons (.int 101) (.cons (.int 21) (.cons (.int 11) (.cons (.tup (.cons (.int 1) .nil)) .nil)))))))))) .nil))) .nil))) (.cons (.for_ (.nm 7) (.val (.tup (.cons (.var 4) (.cons (.bfn .list (.cons (.var 4) .nil)) (.cons (.slc (.var 4) .no (.so (.int 2))) (.cons (.bin .add (.var 4) (.tup (.cons (.int 1) .nil))) (.cons (.bin .add (.bin .add (.slc (.var 4) .no (.so (.var 5))) (.tup (.cons (.var 6) .nil))) (.slc (.var 4) (.so (.bin .add (.var 5) (.int 1))) .no)) (.cons (.rev (.var 4)) (.cons .non (.cons (.int 5) (.cons .dic0 (.cons (.call 42 (.cons (.var 1) .nil)) .nil)))))))))))) (.cons (.ife (.nt (.call 27 (.cons (.call 10 (.cons (.var 7) .nil)) (.cons (.call 44 (.cons (.var 7) .nil)) .nil)))) (.cons (.ret (.bl false)) .nil) .nil) .nil)) .nil))))))
def b0 : S := (.asg (.nm 4) (.call 37 (.cons (.var 1) .nil)))
def b1 : S := (.ife (.nt (.call 45 (.cons (.var 1) (.cons (.var 4) .nil)))) (.cons (.ret (.bl false)) .nil) .nil)
def b2 : S := (.ife (.nt (.call 46 (.cons (.var 1) (.cons (.var 4) .nil)))) (.cons (.ret (.bl false)) .nil) .nil)
def b3 : S := (.ife (.nt (.call 47 (.cons (.var 1) (.cons (.var 4) .nil)))) (.cons (.ret (.bl false)) .nil) .nil)
def b4 : S := (.par [5, 6] (.cons (.call 25 (.cons (.var 1) (.cons (.int 3) .nil))) (.cons (.call 26 (.cons (.var 1) (.cons (.lst (.cons .non (.cons (.bl true) (.cons (.str "?") (.cons (.neg (.int 1)) (.cons (.int 0) (.cons (.int 101) (.cons (.int 21) (.cons (.int 11) (.cons (.tup (.cons (.int 1) .nil)) .nil)))))))))) .nil))) .nil)))
def b5 : S := (.for_ (.nm 7) (.val (.tup (.cons (.var 4) (.cons (.bfn .list (.cons (.var 4) .nil)) (.cons (.slc (.var 4) .no (.so (.int 2))) (.cons (.bin .add (.var 4) (.tup (.cons (.int 1) .nil))) (.cons (.bin .add (.bin .add (.slc (.var 4) .no (.so (.var 5))) (.tup (.cons (.var 6) .nil))) (.slc (.var 4) (.so (.bin .add (.var 5) (.int 1))) .no)) (.cons (.rev (.var 4)) (.cons .non (.cons (.int 5) (.cons .dic0 (.cons (.call 42 (.cons (.var 1) .nil)) .nil)))))))))))) (.cons (.ife (.nt (.call 27 (.cons (.call 10 (.cons (.var 7) .nil)) (.cons (.call 44 (.cons (.var 7) .nil)) .nil)))) (.cons (.ret (.bl false)) .nil) .nil) .nil))
def thF : Ss := (.cons (.ife (.nt (.call 27 (.cons (.call 10 (.cons (.var 7) .nil)) (.cons (.call 44 (.cons (.var 7) .nil)) .nil)))) (.cons (.ret (.bl false)) .nil) .nil) .nil)
abbrev c1 : PyData := .tuple [.int 20, .int 5, .int 1]
abbrev d1 : PyData := .tuple [.int 3, .int 1]
abbrev X5 : List PyData := [.tuple [.int 60, .int 1], .tuple [.int 5, .int 1], .tuple [.int 50, .int 1], .tuple [.int 10, .int 1], .int 20]
abbrev X3 : List PyData := [.int 5, .tuple [.int 0, .int 1], .tuple [.int 12, .int 1]]
theorem lw_z0 {N : Nat} {ds : List PyData} {h : List PyData} {s2 s3 s4 s5 s6 s7 : Sl} (e : run P N 24 none [.scr ds] none = .ok true (.list h) none) : ex (cl P N) none lw0 [.scr ds, .non, s2, s3, s4, s5, s6, s7] none = .nx [.scr ds, .hnd, s2, s3, s4, s5, s6, s7] (some h) := by
  simp [lw0, e]
theorem lw_z1 {N : Nat} {h : Hand} {s0 : Sl} {s1 s2 s3 s4 s5 s6 s7 : Sl} (e1 : run P N 12 none [.sh c1] h = .ok false (.tuple [.int 60, .int 1]) h) (e2 : run P N 14 none [.sh c1] h = .ok false (.tuple [.int 5, .int 1]) h) (e3 : run P N 16 none [.sh c1, .sh d1] h = .ok false (.tuple [.int 50, .int 1]) h) (e4 : run P N 18 none [.sh c1, .sh d1] h = .ok false (.tuple [.int 10, .int 1]) h) (e5 : run P N 19 none [.sh (.int 60), .sh (.int 5), .sh (.int 1)] h = .ok false (.int 20) h) : ex (cl P N) none lw1 [s0, s1, s2, s3, s4, s5, s6, s7] h = .nx [s0, s1, .own (.list X5), s3, s4, s5, s6, s7] h := by
  simp [lw1, e1, e2, e3, e4, e5]
theorem lw_z2 {N : Nat} {h : Hand} {s0 : Sl} {s1 s3 s4 s5 s6 s7 : Sl} (e1 : run P N 20 none [.sh (.int 60), .sh (.int 20), .sh (.int 1)] h = .ok false (.int 5) h) (e2 : run P N 12 none [.sh (.tuple [.int 0, .int 1, .int 9])] h = .ok false (.tuple [.int 0, .int 1]) h) (e3 : run P N 21 none [.sh c1] h = .ok false (.tuple [.int 12, .int 1]) h) (eb : bop .add (.list X5) (.list X3) = some (true, .list (X5 ++ X3))) (e4 : run P N 27 none [.sh (.list (X5 ++ X3)), .sh (.list (X5 ++ X3))] h = .ok false (.bool true) h) : ex (cl P N) none lw2 [s0, s1, .own (.list X5), s3, s4, s5, s6, s7] h = .nx [s0, s1, .own (.list X5), s3, s4, s5, s6, s7] h := by
  have e4' : run P N 27 none [.sh (.list (X5 ++ X3)), .sh (.list [.tuple [.int 60, .int 1], .tuple [.int 5, .int 1], .tuple [.int 50, .int 1], .tuple [.int 10, .int 1], .int 20, .int 5, .tuple [.int 0, .int 1], .tuple [.int 12, .int 1]])] h = .ok false (.bool true) h := e4
  generalize X5 ++ X3 = Y at *
  simp [lw2, e1, e2, e3, eb, e4']
theorem b0_z {M : Nat} {h h1 : Hand} {s0 : Sl} {T : PyData} {s2 s3 s4 s5 s6 s7 : Sl} (e : run P M 37 none [.hnd] h = .ok false T h1) : ex (cl P M) none b0 [s0, .hnd, s2, s3, s4, s5, s6, s7] h = .nx [s0, .hnd, s2, s3, .sh T, s5, s6, s7] h1 := by
  simp [b0, e]
theorem b1_z {M : Nat} {h h1 : Hand} {s0 : Sl} {T : PyData} {s2 s3 s5 s6 s7 : Sl} (e : run P M 45 none [.hnd, .sh T] h = .ok false (.bool true) h1) : ex (cl P M) none b1 [s0, .hnd, s2, s3, .sh T, s5, s6, s7] h = .nx [s0, .hnd, s2, s3, .sh T, s5, s6, s7] h1 := by
  simp [b1, e]
theorem b2_z {M : Nat} {h h1 : Hand} {s0 : Sl} {T : PyData} {s2 s3 s5 s6 s7 : Sl} (e : run P M 46 none [.hnd, .sh T] h = .ok false (.bool true) h1) : ex (cl P M) none b2 [s0, .hnd, s2, s3, .sh T, s5, s6, s7] h = .nx [s0, .hnd, s2, s3, .sh T, s5, s6, s7] h1 := by
  simp [b2, e]
theorem b3_z {M : Nat} {h h1 : Hand} {s0 : Sl} {T : PyData} {s2 s3 s5 s6 s7 : Sl} (e : run P M 47 none [.hnd, .sh T] h = .ok false (.bool true) h1) : ex (cl P M) none b3 [s0, .hnd, s2, s3, .sh T, s5, s6, s7] h = .nx [s0, .hnd, s2, s3, .sh T, s5, s6, s7] h1 := by
  simp [b3, e]
def Q9 : List PyData := [.none, .bool true, .str "?", .int (-1), .int 0, .int 101, .int 21, .int 11, .tuple [.int 1]]
theorem b4_z {M : Nat} {h h1 h2 : Hand} {s0 : Sl} {r : Int} {o : PyData} {s2 s3 s4 s5 s6 s7 : Sl} (e1 : run P M 25 none [.hnd, .sh (.int 3)] h = .ok false (.int r) h1) (e2 : run P M 26 none [.hnd, .sh (.list Q9)] h1 = .ok false o h2) : ex (cl P M) none b4 [s0, .hnd, s2, s3, s4, s5, s6, s7] h = .nx [s0, .hnd, s2, s3, s4, .sh (.int r), .sh o, s7] h2 := by
  unfold Q9 at e2
  simp [b4, e1, e2]
theorem th_turn {n : Nat} {h : Hand} {s0 : Sl} {d : PyData} {s1 s2 s3 s4 s5 s6 s7 : Sl} : turn (.nm 7) (exs (cl P (n + 3)) none thF) d [s0, s1, s2, s3, s4, s5, s6, s7] h = .nx [s0, s1, s2, s3, s4, s5, s6, .sh d] h := by
  have e1 := isb_run (n := n) (h := h) (d := d)
  have e2 := iscar_run (n := n + 1) (h := h) (d := d)
  have e3 := isT_bool (b := isB d) (n + 2) h
  simp [turn, thF, e1, e2, e3]
theorem th_loop {n : Nat} {h : Hand} {s0 : Sl} {s1 s2 s3 s4 s5 s6 : Sl} : ∀ (xs : List PyData) (s7 : Sl), ∃ s7', forL (.nm 7) (exs (cl P (n + 3)) none thF) xs [s0, s1, s2, s3, s4, s5, s6, s7] h = .nx [s0, s1, s2, s3, s4, s5, s6, s7'] h
  | [], s7 => ⟨s7, rfl⟩
  | x :: xs, s7 => by
    obtain ⟨s7', e⟩ := th_loop (n := n) (h := h) (s0 := s0) (s1 := s1) (s2 := s2) (s3 := s3) (s4 := s4) (s5 := s5) (s6 := s6) xs (.sh x)
    exact ⟨s7', (forL_nx th_turn).trans e⟩
theorem b5_z {M : Nat} {h h1 : Hand} {s0 : Sl} {r : Int} {o x : PyData} {L A X Y : List PyData} {R : Rt} {s2 s3 s7 : Sl} (eb1 : bop .add (.tuple L) (.tuple [.int 1]) = some (false, .tuple A)) (eb2 : bop .add (.tuple (cut L none (some r))) (.tuple [o]) = some (false, .tuple X)) (eb3 : bop .add (.tuple X) (.tuple (cut L (some (r + 1)) none)) = some (false, .tuple Y)) (e1 : run P M 42 none [.hnd] h = .ok false x h1) (el : forL (.nm 7) (exs (cl P M) none thF) [.tuple L, .list L, .tuple (cut L none (some 2)), .tuple A, .tuple Y, .tuple L.reverse, .none, .int 5, .dict [], x] [s0, .hnd, s2, s3, .sh (.tuple L), .sh (.int r), .sh o, s7] h1 = R) : ex (cl P M) none b5 [s0, .hnd, s2, s3, .sh (.tuple L), .sh (.int r), .sh o, s7] h = R := by
  unfold thF at el
  simp [b5, eb1, eb2, eb3, e1, el]
theorem cut_len {xs : List PyData} {lo hi : Option Int} : (cut xs lo hi).length ≤ xs.length := by
  unfold cut
  rw [List.length_take, List.length_drop]
  omega
theorem lap_run {n : Nat} {h : List PyData} (hh : Hd h) {x : PyData} {s0 : Sl} {s2 s3 s4 s5 s6 s7 : Sl} : ∃ (s4' s5' s6' s7' : Sl) (h' : List PyData), turn (.nm 3) (exs (cl P (n + 9)) none lwF) x [s0, .hnd, s2, s3, s4, s5, s6, s7] (some h) = .nx [s0, .hnd, s2, .sh x, s4', s5', s6', s7'] (some h') ∧ Hd h' := by
  obtain ⟨v, b, t, h1, e0, k, hh1⟩ := car_run (n := n + 6) hh
  obtain ⟨h2, e1, hh2⟩ := isright_run (n := n) k hh1
  obtain ⟨h3, e2, hh3⟩ := wishes_run (n := n) k hh2
  obtain ⟨h4, e3, hh4⟩ := refused_run (n := n) k hh3
  obtain ⟨r, h5, e4, r0, r1, hh5⟩ := draw_run (n := n + 8) (m := 3) p25 hh4 (by omega) (by omega)
  obtain ⟨o, h6, e5, mo, hh6⟩ := any_run (n := n + 7) (a := .sh (.list Q9)) p26 p25 hh5 .sh (by simp [Q9]) (by simp [Q9])
  obtain ⟨y, h7, e6, by7, hh7⟩ := nocar_run (n := n + 6) hh6
  have l1 : (cut [PyData.int v, .int b, .int t] none (some r)).length ≤ 3 := cut_len
  have l2 : (cut [PyData.int v, .int b, .int t] (some (r + 1)) none).length ≤ 3 := cut_len
  have eb1 : bop .add (carD v b t) (.tuple [.int 1]) = some (false, .tuple ([.int v, .int b, .int t] ++ [.int 1])) := bop_tup (by simp)
  have eb2 : bop .add (.tuple (cut [PyData.int v, .int b, .int t] none (some r))) (.tuple [o]) = some (false, .tuple (cut [PyData.int v, .int b, .int t] none (some r) ++ [o])) := bop_tup (by rw [List.length_singleton]; omega)
  have eb3 : bop .add (.tuple (cut [PyData.int v, .int b, .int t] none (some r) ++ [o])) (.tuple (cut [PyData.int v, .int b, .int t] (some (r + 1)) none)) = some (false, .tuple (cut [PyData.int v, .int b, .int t] none (some r) ++ [o] ++ cut [PyData.int v, .int b, .int t] (some (r + 1)) none)) := bop_tup (by rw [List.length_append, List.length_singleton]; omega)
  obtain ⟨s7', el⟩ := th_loop (n := n + 6) (h := some h7) (s0 := s0) (s1 := .hnd) (s2 := s2) (s3 := .sh x) (s4 := .sh (carD v b t)) (s5 := .sh (.int r)) (s6 := .sh o) [carD v b t, .list [.int v, .int b, .int t], .tuple (cut [.int v, .int b, .int t] none (some 2)), .tuple ([.int v, .int b, .int t] ++ [.int 1]), .tuple (cut [PyData.int v, .int b, .int t] none (some r) ++ [o] ++ cut [PyData.int v, .int b, .int t] (some (r + 1)) none), .tuple [PyData.int v, .int b, .int t].reverse, .none, .int 5, .dict [], y] s7
  refine ⟨.sh (carD v b t), .sh (.int r), .sh o, s7', h7, ?_, hh7⟩
  show exs (cl P (n + 9)) none (.cons b0 (.cons b1 (.cons b2 (.cons b3 (.cons b4 (.cons b5 .nil)))))) [s0, .hnd, s2, .sh x, s4, s5, s6, s7] (some h) = _
  rw [seq3 (b0_z e0), seq3 (b1_z e1), seq3 (b2_z e2), seq3 (b3_z e3), seq3 (b4_z e4 e5), seq3 (b5_z eb1 eb2 eb3 e6 el)]
  rfl
theorem lap_loop {n : Nat} {s0 s2 : Sl} : ∀ (xs : List PyData) (h : List PyData) (s3 s4 s5 s6 s7 : Sl), Hd h → ∃ (ρ' : Env) (h' : List PyData), forL (.nm 3) (exs (cl P (n + 9)) none lwF) xs [s0, .hnd, s2, s3, s4, s5, s6, s7] (some h) = .nx ρ' (some h') ∧ Hd h'
  | [], h, s3, s4, s5, s6, s7, hh => ⟨_, h, rfl, hh⟩
  | x :: xs, h, s3, s4, s5, s6, s7, hh => by
    obtain ⟨t4, t5, t6, t7, h2, t, hh2⟩ := lap_run (n := n) hh (x := x) (s0 := s0) (s2 := s2) (s3 := s3) (s4 := s4) (s5 := s5) (s6 := s6) (s7 := s7)
    obtain ⟨ρ', h', e, hh'⟩ := lap_loop (n := n) (s0 := s0) (s2 := s2) xs h2 (.sh x) t4 t5 t6 t7 hh2
    exact ⟨ρ', h', (forL_nx t).trans e, hh'⟩
theorem lw_z3 {N : Nat} {h : Hand} {s0 : Sl} {s1 s2 s3 s4 s5 s6 s7 : Sl} {r : Rt} (el : forL (.nm 3) (exs (cl P N) none lwF) (rangeD 0 1 4) [s0, s1, s2, s3, s4, s5, s6, s7] h = r) : ex (cl P N) none lw3 [s0, s1, s2, s3, s4, s5, s6, s7] h = r := by
  have g : rngOk 4 = true := rfl
  unfold lwF at el
  simp [lw3, g, el]
theorem lw_z4 {N : Nat} {h : Hand} {ρ : Env} : ex (cl P N) none lw4 ρ h = .ret false (.bool true) h := by
  simp [lw4]
theorem law_run {n : Nat} {ns : List Int} : ∃ fr h', run P (n + 10) 48 none [.scr (ns.map .int)] none = .ok fr (.bool true) h' := by
  rw [run_eq p48 rfl rfl]
  obtain ⟨h, e0, hh⟩ := hand_run (P := P) (n := n + 8) (k := 24) (ns := ns) p24
  have k : CarOk 20 5 1 := ⟨by decide, by decide, by decide, by decide, by decide, by decide⟩
  have k9 : CarOk 0 1 9 := ⟨by decide, by decide, by decide, by decide, by decide, by decide⟩
  have m : MoOk 3 1 := ⟨by decide, by decide, by decide, by decide⟩
  have e1 := swy_run (n := n + 4) (h := some h) k
  rw [show wayP 20 5 1 = (60, 1) by decide +kernel] at e1
  have e2 := stime_run (n := n + 4) (h := some h) k
  rw [show timeP 20 5 1 = (5, 1) by decide +kernel] at e2
  have e3 := placeat_run (n := n + 2) (h := some h) k m
  rw [show placeP 20 5 1 3 1 = (50, 1) by decide +kernel, fr_one] at e3
  have e4 := speed_run (n := n + 2) (h := some h) k m
  rw [show speedP 20 5 1 3 1 = (10, 1) by decide +kernel, fr_one] at e4
  have e5 := top_run (n := n + 3) (h := some h) (b := 5) (t := 1) (y := 60) (by omega) (by omega) (by omega)
  rw [show topP 60 5 1 = 20 by decide +kernel] at e5
  have e6 := brk_run (n := n + 3) (h := some h) (v := 20) (t := 1) (y := 60) (by omega) (by omega) (by omega)
  rw [show (brkL 60 20 1).head? = some 5 by decide +kernel] at e6
  have e7 := swy_run (n := n + 4) (h := some h) k9
  rw [show wayP 0 1 9 = (0, 1) by decide +kernel] at e7
  have e8 := mean_run (n := n + 3) (h := some h) k
  rw [show meanP 20 5 1 = (12, 1) by decide +kernel] at e8
  have eb : bop .add (.list X5) (.list X3) = some (true, .list (X5 ++ X3)) := bop_lst (by decide)
  have e9 : IsT 3 (.list (X5 ++ X3)) := isT_list (by decide) fun x hx => by
    simp only [X5, X3, List.cons_append, List.nil_append, List.mem_cons, List.not_mem_nil, or_false] at hx
    rcases hx with rfl | rfl | rfl | rfl | rfl | rfl | rfl | rfl
    · exact isT_fr (p := (60, 1))
    · exact isT_fr (p := (5, 1))
    · exact isT_fr (p := (50, 1))
    · exact isT_fr (p := (10, 1))
    · exact (isT_int (i := 20)).up
    · exact (isT_int (i := 5)).up
    · exact isT_fr (p := (0, 1))
    · exact isT_fr (p := (12, 1))
  obtain ⟨ρ', h', el, hh'⟩ := lap_loop (n := n) (s0 := .scr (ns.map .int)) (s2 := .own (.list X5)) (rangeD 0 1 4) h .non .non .non .non .non hh
  refine ⟨false, none, ?_⟩
  show rtC _ (exs (cl P (n + 9)) none (.cons lw0 (.cons lw1 (.cons lw2 (.cons lw3 (.cons lw4 .nil))))) [.scr (ns.map .int), .non, .non, .non, .non, .non, .non, .non] none) = _
  rw [seq3 (lw_z0 e0), seq3 (lw_z1 e1 e2 e3 e4 e5), seq3 (lw_z2 e6 e7 e8 eb (e9 (n + 6) _)), seq3 (lw_z3 el), ret3 lw_z4]
  simp
end HX

open PySem PySem.W PySem.Calls PyProof.Rows
theorem PySem.Challenge.cw_mendgarage_k27_whole_ways_to_stop_holds : PySem.Challenge.rw_mendgarage_k27_whole_ways_to_stop.Holds := by
  w_on; o_law
  refine HandSHeadRun.head_any (r := OpenLaw.row PySem.Challenge.rw_mendgarage_k27_whole_ways_to_stop) (q := view (OpenLaw.row PySem.Challenge.rw_mendgarage_k27_whole_ways_to_stop).prog [56]) (H := HX.hk) (ob := HX.ob) (M := 3000) (loose := HX.loose) (d := HandSHeadRun.topDef (OpenLaw.row PySem.Challenge.rw_mendgarage_k27_whole_ways_to_stop).prog 56) (kwd := []) HX.ob_eq
    (by kernel_rfl) (fun s => by kernel_rfl) HX.run_head (by kernel_rfl) (by kernel_rfl) (by kernel_rfl) (by rfl) (by first | assumption | decide +kernel) (by decide +kernel) ⟨rfl, rfl, rfl, rfl, rfl, by decide +kernel⟩ ?hw ?hc
  case hw => w_witness2
  case hc =>
    refine PyD.walk_ofG (l := PySem.Challenge.rw_mendgarage_k27_whole_ways_to_stop) (n := 63) (k := 3 * 20 + 3) (x := "script") rfl (by decide) (by kernel_rfl) ⟨rfl, by decide, by decide⟩ ?F
    intro w mg fa h Y G hmg0
    obtain ⟨K, KX, c⟩ := Y
    have hmg : mg ("law" : PySem.Str) = some (.ref fa) := by
      have e : (HandSHeadRun.topDef (OpenLaw.row PySem.Challenge.rw_mendgarage_k27_whole_ways_to_stop).prog 56).name = ("law" : PySem.Str) := by kernel_rfl
      rw [← e]
      exact hmg0
    exact ⟨K, KX, PyD.PrX.lawG (p := HX.prog) (li := 48) (lx := HX.x_law) HX.oks HX.ok_law HX.okTs (by decide) (by decide) KX G c rfl rfl hmg (by decide) fun ns _ => HX.law_run (n := 11)⟩
